import PyProof.Rows.All
import Wide.All
import OpenK.AllK
import Wide.FinOn
import KE.KPar
import Lean
import PySem.Challenge.RW_xm0055_03
set_option Elab.async false
set_option linter.all false
set_option genInjectivity false
set_option genSizeOf false
section
set_option genInjectivity false
set_option genSizeOf false
open PySem
namespace Mn
inductive BI where
  | len | abs | range | isinst | enum | dict | list | tstr | ttup
inductive MV where
  | none
  | bool (b : Bool)
  | int (i : Int)
  | str (n : Nat)
  | tup (vs : List MV)
  | ref (k : Nat)
  | fn (f : Nat)
  | cls (c : Nat)
  | bm (k : Nat) (f : Nat)
  | bi (b : BI)
inductive MO where
  | list (vs : List MV)
  | frz (vs : List MV)
  | dict (es : List (MV × MV))
  | inst (c : Nat) (d : Nat)
structure MH where
  next : Nat
  get : Nat → Option MO
noncomputable def MH.upd (H : MH) (k : Nat) (o : MO) : MH := ⟨H.next, fun j => if j = k then some o else H.get j⟩
noncomputable def MH.new (H : MH) (o : MO) : MH := ⟨H.next + 1, fun j => if j = H.next then some o else H.get j⟩
inductive Op where
  | add | sub | mul | fdiv | mod | shl
  deriving DecidableEq
inductive Co where
  | eq | ne | lt | le | gt | ge | is | isn | inn | nin
inductive CT where
  | one (x : Nat)
  | two (x y : Nat)
inductive MX where
  | cst (v : MV)
  | loc (x : Nat)
  | glb (x : Nat)
  | bin (op : Op) (a b : MX)
  | neg (a : MX)
  | not (a : MX)
  | bop (conj : Bool) (es : List MX)
  | cmp (a : MX) (op : Co) (b : MX)
  | cmp2 (a : MX) (op : Co) (b : MX) (op' : Co) (c : MX)
  | ife (c a b : MX)
  | att (a : MX) (x : Nat)
  | sub (a i : MX)
  | slc (a : MX) (lo hi : Option MX)
  | call (f : MX) (as : List MX)
  | mth (o : MX) (x : Nat) (as : List MX)
  | tup (es : List MX)
  | lst (es : List MX)
  | dct
  | cmpr (e : MX) (t : CT) (it : MX) (ifs : List MX)
inductive MT where
  | nam (x : Nat)
  | tup (ts : List MT)
  | sub (a i : MX)
  | att (a : MX) (x : Nat)
inductive MS where
  | asg (t : MT) (e : MX)
  | aug (x : Nat) (op : Op) (e : MX)
  | ife (c : MX) (a b : List MS)
  | for_ (t : MT) (it : MX) (b : List MS)
  | whl (c : MX) (b : List MS)
  | ret (e : Option MX)
  | exp (e : MX)
  | rai (e : MX)
structure MF where
  params : List Nat
  body : List MS
noncomputable def code (s : Str) : Nat := s.cps.foldl (fun a c => a * 256 + c) 1
noncomputable def cd (s : String) : Nat := s.toList.foldl (fun a c => a * 256 + c.toNat) 1
noncomputable def trOp : Operator → Option Op
  | .Add => some .add | .Sub => some .sub | .Mult => some .mul | .FloorDiv => some .fdiv | .Mod => some .mod | .LShift => some .shl
  | _ => none
noncomputable def trCo : CmpOp → Option Co
  | .Eq => some .eq | .NotEq => some .ne | .Lt => some .lt | .LtE => some .le | .Gt => some .gt | .GtE => some .ge | .Is => some .is | .IsNot => some .isn | .In => some .inn | .NotIn => some .nin
noncomputable def low (s : Str) : Bool := s.cps.toList.all fun c => decide (c < 256)
noncomputable def trC : Const → Option MV
  | .none => some .none | .bool b => some (.bool b) | .int i => some (.int i) | .str s => if low s = true then some (.str (code s)) else none
  | _ => none
noncomputable def okN (x : Str) : Bool := low x && !(x == ("__debug__" : Str)) && !(x == ("__classdict__" : Str))
noncomputable def isCall : PySem.Expr → Bool
  | .Call .. => true
  | _ => false
noncomputable def isAttr : PySem.Expr → Bool
  | .Attribute .. => true
  | _ => false
noncomputable def isSlc : PySem.Expr → Bool
  | .Slice .. => true
  | _ => false
noncomputable def trN (sc : Scope) (x : Str) : Option MX := if okN x = false then none else match sc.names.lookup x with
  | some .local => some (.loc (code x))
  | some .cell => some (.loc (code x))
  | some .globalImplicit => some (.glb (code x))
  | _ => none
noncomputable def all? {α β : Type} (f : α → Option β) : List α → Option (List β)
  | [] => some []
  | a :: l => (f a).bind fun b => (all? f l).bind fun bs => some (b :: bs)
noncomputable def opt? {α β : Type} (f : α → Option β) : Option α → Option (Option β)
  | none => some none
  | some a => (f a).bind fun b => some (some b)
noncomputable def conj : BoolOp → Bool
  | .And => true
  | .Or => false
noncomputable def relab (sc' sc : Scope) : Scope := { sc' with names := sc'.names.map fun (n, k) => if (k == .free && sc.kind == .function && sc.names.lookup n == some .cell) then (n, .cell) else (n, k) }
noncomputable abbrev OkComp (sc' sc : Scope) : Prop := sc'.kind = .function ∧ sc.kind = .function ∧ (sc'.names.map (·.1)).Nodup ∧
    ∀ p ∈ sc'.names, low p.1 = true ∧ p.2 ≠ .cell ∧ (p.2 = .free → sc.names.lookup p.1 = some .cell)
noncomputable def CT.codes : CT → List Nat
  | .one x => [x]
  | .two x y => [x, y]
noncomputable def trL (sc : Scope) (e : PySem.Expr) : Option Nat := match e with
  | .Name x _ => if okN x = true ∧ sc.names.lookup x = some .local then some (code x) else none
  | _ => none
noncomputable def ctOf : List Nat → Option CT
  | [x, y] => some (.two x y)
  | _ => none
noncomputable def tupOf (t : PySem.Expr) : Option (List PySem.Expr) := match t with
  | .Tuple ts _ _ => some ts
  | _ => none
noncomputable def trCT (sc : Scope) (t : PySem.Expr) : Option CT := match tupOf t with
  | some ts => (all? (trL sc) ts).bind ctOf
  | none => (trL sc t).bind fun x => some (.one x)
noncomputable abbrev OkLoc (sc' : Scope) (t : CT) : Prop := ∀ p ∈ sc'.names, p.2 = .local → code p.1 ∈ cd ".0" :: t.codes
noncomputable def trE : Nat → Scope → PySem.Expr → Option MX
  | 0, _, _ => none
  | n + 1, sc, e => match e with
    | .Constant c _ _ => (trC c).bind fun v => some (.cst v)
    | .Name x _ => trN sc x
    | .BinOp l op r _ => (trE n sc l).bind fun a => (trOp op).bind fun o => (trE n sc r).bind fun b => some (.bin o a b)
    | .UnaryOp .USub a _ => (trE n sc a).bind fun a => some (.neg a)
    | .UnaryOp .Not a _ => (trE n sc a).bind fun a => some (.not a)
    | .BoolOp op es _ => (all? (trE n sc) es).bind fun es => some (.bop (conj op) es)
    | .Compare l [op] [r] _ => (trE n sc l).bind fun a => (trCo op).bind fun o => (trE n sc r).bind fun b => some (.cmp a o b)
    | .Compare l [op, op'] [r, r'] _ => (trE n sc l).bind fun a => (trCo op).bind fun o => (trE n sc r).bind fun b => (trCo op').bind fun o' => (trE n sc r').bind fun c => some (.cmp2 a o b o' c)
    | .IfExp c a b _ => (trE n sc c).bind fun c => (trE n sc a).bind fun a => (trE n sc b).bind fun b => some (.ife c a b)
    | .Attribute a x _ => if (low x && !isCall a) = true then (trE n sc a).bind fun a => some (.att a (code x)) else none
    | .Subscript a (.Slice lo hi none _) _ => (trE n sc a).bind fun a => (opt? (trE n sc) lo).bind fun lo => (opt? (trE n sc) hi).bind fun hi => some (.slc a lo hi)
    | .Subscript a i _ => (trE n sc a).bind fun a => (trE n sc i).bind fun i => some (.sub a i)
    | .Call (.Attribute o x ap) as [] p => if (low x && !isCall o && (ap.endLine == p.line) && decide (as.length < 30)) = true then (trE n sc o).bind fun o => (all? (trE n sc) as).bind fun as => some (.mth o (code x) as) else none
    | .Call f as [] _ => (trE n sc f).bind fun f => (all? (trE n sc) as).bind fun as => some (.call f as)
    | .Tuple es _ _ => (all? (trE n sc) es).bind fun es => some (.tup es)
    | .List es _ => (all? (trE n sc) es).bind fun es => some (.lst es)
    | .Dict [] [] _ => some .dct
    | .ListComp e [⟨t, it, ifs, na⟩] sc' _ => if na = 0 ∧ OkComp sc' sc then (trE n (relab sc' sc) e).bind fun e => (trCT (relab sc' sc) t).bind fun t => (trE n sc it).bind fun it => (all? (trE n (relab sc' sc)) ifs).bind fun ifs => if OkLoc sc' t then some (.cmpr e t it ifs) else none else none
    | _ => none
noncomputable def trT : Nat → Scope → PySem.Expr → Option MT
  | 0, _, _ => none
  | n + 1, sc, e => match e with
    | .Name x _ => if okN x = false then none else (match sc.names.lookup x with | some .local => some (.nam (code x)) | some .cell => some (.nam (code x)) | _ => none)
    | .Tuple ts _ _ => (all? (trT n sc) ts).bind fun ts => some (.tup ts)
    | .Subscript a i _ => if isSlc i = true then none else (trE n sc a).bind fun a => (trE n sc i).bind fun i => some (.sub a i)
    | .Attribute a x _ => if (low x && !isCall a) = true then (trE n sc a).bind fun a => some (.att a (code x)) else none
    | _ => none
noncomputable def swp (t : PySem.Expr) (value : PySem.Expr) (sc : Scope) : Option (Option (List Str)) :=
  match swappedStores [t] value { scope := sc, locals := 0, globals := 0, cells := [] } with
  | .pure r => some r
  | _ => none
noncomputable def swpOk (sc : Scope) (ns : List Str) : Bool := ns.all (fun n => okN n && (sc.names.lookup n == some .local)) && decide (ns.map code).Nodup
noncomputable def isComp : PySem.Expr → Bool
  | .ListComp .. => true
  | .SetComp .. => true
  | .DictComp .. => true
  | _ => false
noncomputable def trS : Nat → Scope → PySem.Stmt → Option MS
  | 0, _, _ => none
  | n + 1, sc, s => match s with
    | .Assign [t] e _ => if isComp e = true then none else (swp t e sc).bind fun r => match r with
      | none => (trT n sc t).bind fun t => (trE n sc e).bind fun e => some (.asg t e)
      | some ns => if swpOk sc ns = true then (trE n sc e).bind fun e => some (.asg (.tup ((ns.map code).map .nam)) e) else none
    | .AugAssign (.Name x _) op e _ => if okN x = false ∨ sc.names.lookup x ≠ some .local then none else (trOp op).bind fun o => (trE n sc e).bind fun e => some (.aug (code x) o e)
    | .If c a b _ => (trE n sc c).bind fun c => (all? (trS n sc) a).bind fun a => (all? (trS n sc) b).bind fun b => some (.ife c a b)
    | .For t it b [] _ => (trT n sc t).bind fun t => (trE n sc it).bind fun it => (all? (trS n sc) b).bind fun b => some (.for_ t it b)
    | .While c b [] _ => (trE n sc c).bind fun c => (all? (trS n sc) b).bind fun b => some (.whl c b)
    | .Return e _ => (opt? (trE n sc) e).bind fun e => some (.ret e)
    | .Expr e _ => if isComp e = true then none else (trE n sc e).bind fun e => some (.exp e)
    | .Raise (some e) none _ => (trE n sc e).bind fun e => some (.rai e)
    | _ => none
noncomputable def trF (ps : Arguments) (body : List PySem.Stmt) (sc : Scope) : Option MF :=
  (all? (trS 40 sc) body).bind fun b => some ⟨ps.args.map fun a => code a.arg, b⟩
end Mn
end
section
set_option genInjectivity false
set_option genSizeOf false
open PySem
namespace Mn
noncomputable abbrev Loc := List (Nat × MV)
noncomputable def zf4 (x : Nat) : Loc → Option MV
  | [] => none
  | (y, v) :: r => cond (y == x) (some v) (zf4 x r)
noncomputable def zf5 (x : Nat) (v : MV) : Loc → Loc
  | [] => [(x, v)]
  | (y, u) :: r => cond (y == x) ((x, v) :: r) ((y, u) :: zf5 x v r)
theorem getL_ite (x y : Nat) (v : MV) (r : Loc) : zf4 x ((y, v) :: r) = if y = x then some v else zf4 x r := by
  show cond (y == x) _ _ = _
  by_cases h : y = x
  · rw [if_pos h, beq_iff_eq.mpr h]; rfl
  · rw [if_neg h, beq_false_of_ne h]; rfl
theorem setL_ite (x y : Nat) (v u : MV) (r : Loc) : zf5 x v ((y, u) :: r) = if y = x then (x, v) :: r else (y, u) :: zf5 x v r := by
  show cond (y == x) _ _ = _
  by_cases h : y = x
  · rw [if_pos h, beq_iff_eq.mpr h]; rfl
  · rw [if_neg h, beq_false_of_ne h]; rfl
inductive Out where
  | nxt
  | ret (v : MV)
structure Pg where
  fns : Nat → Option MF
  glb : Nat → Option MV
  meth : Nat → Nat → Option Nat
  
  atr : Nat → Nat → Bool
noncomputable def keyEq : MV → MV → Bool
  | .int a, .int b => decide (a = b)
  | .str a, .str b => Nat.beq a b
  | _, _ => false
noncomputable def isKey : MV → Bool
  | .int _ => true
  | .str _ => true
  | _ => false
noncomputable def sameKind : MV → MV → Bool
  | .int _, .int _ => true
  | .str _, .str _ => true
  | _, _ => false
noncomputable def okKey (k : MV) (es : List (MV × MV)) : Bool := isKey k && es.all fun p => sameKind k p.1
noncomputable def dGet (k : MV) : List (MV × MV) → Option MV
  | [] => none
  | (j, v) :: r => if keyEq j k then some v else dGet k r
noncomputable def dPut (k v : MV) : List (MV × MV) → List (MV × MV)
  | [] => [(k, v)]
  | (j, u) :: r => if keyEq j k then (j, v) :: r else (j, u) :: dPut k v r
noncomputable def feqL (f : MV → MV → Option Bool) : List MV → List MV → Option Bool
  | [], [] => some true
  | [], _ :: _ => some false
  | _ :: _, [] => some false
  | a :: l, b :: r => (f a b).bind fun x => (feqL f l r).bind fun y => some (x && y)
noncomputable def feq : Nat → MV → MV → Option Bool
  | 0, _, _ => none
  | n + 1, v, u => match v with
    | .none => match u with
      | .none => some true
      | .int _ => some false
      | _ => none
    | .int a => match u with
      | .none => some false
      | .int b => some (decide (a = b))
      | _ => none
    | .bool a => match u with
      | .bool b => some (a == b)
      | _ => none
    | .str a => match u with
      | .str b => some (Nat.beq a b)
      | _ => none
    | .tup a => match u with
      | .tup b => feqL (feq n) a b
      | _ => none
    | _ => none
noncomputable def signs : Nat → Nat → List Nat
  | 0, _ => []
  | f + 1, n => if n < 256 then [] else signs f (n / 256) ++ [256 + n % 256]
noncomputable def txtOf : MV → Option (List MV)
  | .str n => if n < 256 ^ 60 ∧ (signs 64 n).all (fun c => decide (c < 384)) = true then some ((signs 64 n).map .str) else none
  | _ => none
noncomputable def kl2 (u : List MV) : MO → Option Bool
  | .list v => if u.length = v.length then feqL (feq 6) u v else some false
  | _ => none
noncomputable def kl1 (H : MH) (b : Nat) : MO → Option Bool
  | .list u => (H.get b).bind (kl2 u)
  | .frz u => (H.get b).bind (kl2 u)
  | _ => none
noncomputable def leq (H : MH) (v u : MV) : Option Bool := match v with
  | .ref a => match u with
    | .ref b => if a = b then none else (H.get a).bind (kl1 H b)
    | _ => none
  | v => feq 6 v u
noncomputable def asTup : MV → Option (List MV)
  | .tup vs => some vs
  | _ => none
noncomputable def meq (H : MH) (v u : MV) : Option Bool := match v with
  | .tup a => (asTup u).bind fun b => feqL (leq H) a b
  | v => leq H v u
noncomputable def numOf : MV → Option Int
  | .int i => some i
  | .bool b => some (if b then 1 else 0)
  | _ => none
noncomputable def lim : Nat := 1048576
noncomputable def newL (H : MH) (vs : List MV) : Option (MV × MH) := if vs.length ≤ lim then some (.ref H.next, H.new (.list vs)) else none
noncomputable def kla : MO → Option (List MV)
  | .list vs => some vs
  | .frz vs => some vs
  | _ => none
noncomputable def listAt (H : MH) (v : MV) : Option (List MV) := match v with
  | .ref k => (H.get k).bind kla
  | _ => none
noncomputable def intOp (op : Op) (a b : Int) : Option Int := match op with
  | .add => some (a + b)
  | .sub => some (a - b)
  | .mul => if a.natAbs < 2 ^ 30 ∧ b.natAbs < 2 ^ 30 then some (a * b) else none
  | .fdiv => if b = 0 ∨ b.natAbs ≥ 2 ^ 30 then none else some (Int.fdiv a b)
  | .mod => if b = 0 then none else some (Int.fmod a b)
  | .shl => if 0 ≤ b ∧ b < 64 ∧ a.natAbs < 2 ^ 60 then some (a * 2 ^ b.toNat) else none
noncomputable def kint (H : MH) (r : Int) : Option (MV × MH) := some (.int r, H)
noncomputable def kad2 (H : MH) (u v : List MV) : Option (MV × MH) := newL H (u ++ v)
noncomputable def kad (H : MH) (j : Nat) (u : List MV) : Option (MV × MH) := (listAt H (.ref j)).bind (kad2 H u)
noncomputable def subB (H : MH) (a b : MV) : Option (MV × MH) := (numOf a).bind fun i => (numOf b).bind fun j => some (.int (i - j), H)
noncomputable def binop (op : Op) (a b : MV) (H : MH) : Option (MV × MH) := match a with
  | .ref i => match b with
    | .ref j => if op = .add then (listAt H (.ref i)).bind (kad H j) else none
    | _ => none
  | .int i => match b with
    | .int j => (intOp op i j).bind (kint H)
    | b => if op = .sub then subB H (.int i) b else none
  | a => if op = .sub then subB H a b else none
noncomputable def anyEq (x : MV) : List MV → Option Bool
  | [] => some false
  | y :: r => (feq 6 y x).bind fun b => (anyEq x r).bind fun c => some (b || c)
noncomputable def kco (x : MV) : MO → Option Bool
  | .dict es => if okKey x es = true then some (dGet x es).isSome else none
  | _ => none
noncomputable def contains (H : MH) (x c : MV) : Option Bool := if isKey x = true then match c with
  | .tup vs => anyEq x vs
  | .ref k => (H.get k).bind (kco x)
  | _ => none
  else none
noncomputable def noBi : MV → Bool
  | .bi _ => false
  | _ => true
noncomputable def isNone : MV → Bool
  | .none => true
  | _ => false
noncomputable def asInt : MV → Option Int
  | .int i => some i
  | _ => none
noncomputable def asStr : MV → Option Nat
  | .str k => some k
  | _ => none
noncomputable def two {α : Type} (as : List MV) (k : MV → MV → Option α) : Option α := match as with
  | [a, b] => k a b
  | _ => none
noncomputable def int2 (f : Int → Int → Bool) (a b : MV) : Option Bool := (asInt a).bind fun i => (asInt b).bind fun j => some (f i j)
noncomputable def isNo (a b : MV) : Option Bool := match b with
  | .none => if noBi a = true then some (isNone a) else none
  | _ => none
noncomputable def compare (op : Co) (a b : MV) (H : MH) : Option Bool := match op with
  | .eq => meq H a b
  | .ne => (meq H a b).bind fun x => some (!x)
  | .lt => int2 (fun i j => decide (i < j)) a b
  | .le => int2 (fun i j => decide (i ≤ j)) a b
  | .gt => int2 (fun i j => decide (i > j)) a b
  | .ge => int2 (fun i j => decide (i ≥ j)) a b
  | .is => isNo a b
  | .isn => (isNo a b).bind fun x => some (!x)
  | .inn => contains H a b
  | .nin => (contains H a b).bind fun x => some (!x)
noncomputable def truth (v : MV) (_ : MH) : Option Bool := match v with
  | .bool b => some b
  | _ => none
noncomputable def idx (vs : List MV) (i : Int) : Option MV := if 0 ≤ i ∧ i < 1073741824 then vs[i.toNat]? else none
noncomputable def kit (i : MV) : MO → Option MV
  | .list vs => (asInt i).bind (idx vs)
  | .frz vs => (asInt i).bind (idx vs)
  | .dict es => if okKey i es = true then dGet i es else none
  | _ => none
noncomputable def item (H : MH) (o i : MV) : Option MV := match o with
  | .tup vs => (asInt i).bind (idx vs)
  | .ref k => (H.get k).bind (kit i)
  | .str n => (txtOf (.str n)).bind fun vs => (asInt i).bind (idx vs)
  | _ => none
noncomputable def kse (H : MH) (k : Nat) (i v : MV) : MO → Option MH
  | .list vs => (asInt i).bind fun i => if 0 ≤ i ∧ i < 1073741824 ∧ i.toNat < vs.length then some (H.upd k (.list (vs.set i.toNat v))) else none
  | .dict es => if okKey i es = true ∧ es.length < lim then some (H.upd k (.dict (dPut i v es))) else none
  | _ => none
noncomputable def setItem (H : MH) (o i v : MV) : Option MH := match o with
  | .ref k => (H.get k).bind (kse H k i v)
  | _ => none
noncomputable def cut (vs : List MV) (lo hi : Option MV) : Option (List MV) := match lo with
  | none => match hi with
    | some v => (asInt v).bind fun j => if 0 ≤ j then some (vs.take j.toNat) else none
    | none => none
  | some v => match hi with
    | some _ => none
    | none => (asInt v).bind fun i => if 0 ≤ i then some (vs.drop i.toNat) else none
noncomputable def ksx (H : MH) (lo hi : Option MV) (vs : List MV) : Option (MV × MH) := if vs.length ≤ lim then (cut vs lo hi).bind (newL H) else none
noncomputable def slice (H : MH) (o : MV) (lo hi : Option MV) : Option (MV × MH) := (listAt H o).bind (ksx H lo hi)
noncomputable def katd2 (c d : Nat) : MO → Option (Nat × Nat × List (MV × MV))
  | .dict es => some (c, d, es)
  | _ => none
noncomputable def katd (H : MH) : MO → Option (Nat × Nat × List (MV × MV))
  | .inst c d => (H.get d).bind (katd2 c d)
  | _ => none
noncomputable def instAt (H : MH) (o : MV) : Option (Nat × Nat × List (MV × MV)) := match o with
  | .ref k => (H.get k).bind (katd H)
  | _ => none
noncomputable def refOf : MV → Nat
  | .ref k => k
  | _ => 0
noncomputable def katt (P : Pg) (k x : Nat) (q : Nat × Nat × List (MV × MV)) : Option MV := if okKey (.str x) q.2.2 = true then (if P.atr q.1 x = true then (dGet (.str x) q.2.2).bind fun v => if noBi v = true then some v else none
  else if dGet (.str x) q.2.2 = none then (P.meth q.1 x).bind fun f => some (.bm k f) else none) else none
noncomputable def attr (P : Pg) (H : MH) (o : MV) (x : Nat) : Option MV := (instAt H o).bind (katt P (refOf o) x)
noncomputable def ksa (P : Pg) (H : MH) (x : Nat) (v : MV) (q : Nat × Nat × List (MV × MV)) : Option MH := if P.atr q.1 x = true ∧ okKey (.str x) q.2.2 = true ∧ q.2.2.length < 100 then some (H.upd q.2.1 (.dict (dPut (.str x) v q.2.2))) else none
noncomputable def setAttr (P : Pg) (H : MH) (o : MV) (x : Nat) (v : MV) : Option MH := (instAt H o).bind (ksa P H x v)
noncomputable def okFn (P : Pg) : MV → Bool
  | .fn f => (P.fns f).isSome
  | .bm _ f => (P.fns f).isSome
  | .cls c => (P.meth c (cd "__init__")).isSome
  | .bi _ => true
  | _ => false
inductive It where
  | lst (k i : Nat)
  | tup (vs : List MV)
  | rng (i : Int) (step : Int) (n : Nat)
  | enu (i k : Nat)
  | txt (vs : List MV)
  | ent (i : Nat) (vs : List MV)
noncomputable def It.next (H : MH) : It → Option (Option (MV × It))
  | .lst k i => (listAt H (.ref k)).bind fun vs => some (vs[i]?.map fun v => (v, .lst k (i + 1)))
  | .tup [] => some none
  | .tup (v :: r) => some (some (v, .tup r))
  | .rng _ _ 0 => some none
  | .rng i s (n + 1) => some (some (.int i, .rng (i + s) s n))
  | .enu i k => (listAt H (.ref k)).bind fun vs => some (vs[i]?.map fun v => (.tup [.int i, v], .enu (i + 1) k))
  | .txt [] => some none
  | .txt (v :: r) => some (some (v, .txt r))
  | .ent _ [] => some none
  | .ent i (v :: r) => some (some (.tup [.int i, v], .ent (i + 1) r))
noncomputable def kio (k : Nat) (_ : List MV) : Option It := some (.lst k 0)
noncomputable def iterOf (H : MH) : MV → Option It
  | .tup vs => some (.tup vs)
  | .ref k => (listAt H (.ref k)).bind (kio k)
  | .str n => (txtOf (.str n)).bind fun vs => some (.txt vs)
  | _ => none
noncomputable def tupOk : MT → It → Bool
  | .tup _, .lst _ _ => true
  | .tup _, .enu _ _ => true
  | .tup _, .ent _ _ => true
  | .nam _, .enu _ _ => false
  | .nam _, .ent _ _ => false
  | .nam _, _ => true
  | _, _ => false
noncomputable def near (i : Int) : Bool := decide (i.natAbs < 1073741824)
noncomputable def intsOf : List MV → Option (List Int)
  | [] => some []
  | a :: r => (asInt a).bind fun i => (intsOf r).bind fun l => some (i :: l)
noncomputable def rangeI : List Int → Option It
  | [b] => if near b = true then some (.rng 0 1 b.toNat) else none
  | [a, b] => if (near a && near b) = true then some (.rng a 1 (b - a).toNat) else none
  | [a, b, c] => if (near a && near b && decide (c = -1)) = true then some (.rng a (-1) (a - b).toNat) else none
  | _ => none
noncomputable def rangeOf (vs : List MV) : Option It := (intsOf vs).bind rangeI
noncomputable def pairsOf : List MV → Option (List (MV × MV))
  | [] => some []
  | a :: r => (asTup a).bind fun p => two p fun k v => (asStr k).bind fun k => (pairsOf r).bind fun l => some ((.str k, v) :: l)
noncomputable def dictOf (l : List (MV × MV)) : List (MV × MV) := l.foldl (fun es p => dPut p.1 p.2 es) []
noncomputable def kle (H : MH) : MO → Option (MV × MH)
  | .list vs => if vs.length ≤ lim then some (.int vs.length, H) else none
  | _ => none
noncomputable def kdi (H : MH) : MO → Option (MV × MH)
  | .list vs => (pairsOf vs).bind fun l => if l.length < 1000 then some (.ref H.next, H.new (.dict (dictOf l))) else none
  | _ => none
noncomputable def one {α : Type} (as : List MV) (k : MV → Option α) : Option α := match as with
  | [a] => k a
  | _ => none
noncomputable def asRef : MV → Option Nat
  | .ref k => some k
  | _ => none
noncomputable def asBi : MV → Option BI
  | .bi b => some b
  | _ => none
noncomputable def asGlb : MX → Option Nat
  | .glb f => some f
  | _ => none
noncomputable def isTy : MV → Bool
  | .bi .tstr => true
  | .bi .ttup => true
  | _ => false
noncomputable def callB (b : BI) (as : List MV) (H : MH) : Option (MV × MH) := match b with
  | .len => one as fun a => (asRef a).bind fun k => (H.get k).bind (kle H)
  | .abs => one as fun a => (asInt a).bind fun i => some (.int i.natAbs, H)
  | .isinst => two as fun a c => (asInt a).bind fun _ => if isTy c = true then some (.bool false, H) else none
  | .dict => one as fun a => (asRef a).bind fun k => (H.get k).bind (kdi H)
  | .list => one as fun a => (txtOf a).bind (newL H)
  | _ => none
noncomputable def callL (H : MH) (k : Nat) (vs : List MV) (x : Nat) (as : List MV) : Option (MV × MH) :=
  if x = cd "append" then one as fun v => if vs.length < lim then some (.none, H.upd k (.list (vs ++ [v]))) else none
  else if x = cd "pop" ∧ as = [] then vs.getLast?.bind fun v => if vs.length < lim then some (v, H.upd k (.list vs.dropLast)) else none
  else if x = cd "pop" then one as fun v => (asInt v).bind fun i => if 0 ≤ i ∧ i < 1048576 ∧ vs.length < lim then (vs[i.toNat]?).bind fun v => some (v, H.upd k (.list (vs.eraseIdx i.toNat))) else none
  else none
noncomputable def callD (H : MH) (es : List (MV × MV)) (x : Nat) (as : List MV) : Option (MV × MH) :=
  if x = cd "get" then match as with
    | [v] => if okKey v es = true then some ((dGet v es).getD .none, H) else none
    | [v, d] => if okKey v es = true then some ((dGet v es).getD d, H) else none
    | _ => none
  else none
noncomputable def CT.mt : CT → MT
  | .one x => .nam x
  | .two x y => .tup [.nam x, .nam y]
noncomputable def ubnd (t : CT) (L : Loc) : Bool := (cd ".0" :: t.codes).all fun x => (zf4 x L).isNone
structure Ev where
  x : MX → Loc → MH → Option (MV × MH)
  t : MX → Loc → MH → Option (Bool × MH)
  c : MV → List MV → MH → Option (MV × MH)
  s : MS → Loc → MH → Option (Out × Loc × MH)
  l : MT → It → List MS → Loc → MH → Option (Out × Loc × MH)
  k : MX → CT → List MX → It → List MV → Loc → MH → Option (List MV × MH)
noncomputable def Ev.zero : Ev := ⟨fun _ _ _ => .none, fun _ _ _ => .none, fun _ _ _ => .none, fun _ _ _ => .none, fun _ _ _ _ _ => .none, fun _ _ _ _ _ _ _ => .none⟩
section
variable (P : Pg) (E : Ev) (E' : Unit → Ev)
noncomputable def evs : List MX → Loc → MH → Option (List MV × MH)
  | [], _, H => some ([], H)
  | e :: r, L, H => (E.x e L H).bind fun a => (evs r L a.2).bind fun b => some (a.1 :: b.1, b.2)
noncomputable def evo : Option MX → Loc → MH → Option (Option MV × MH)
  | none, _, H => some (none, H)
  | some e, L, H => (E.x e L H).bind fun a => some (some a.1, a.2)
noncomputable def bops (conj : Bool) : List MX → Loc → MH → Option (MV × MH)
  | [], _, _ => none
  | [e], L, H => E.x e L H
  | e :: r, L, H => (E.x e L H).bind fun a => (truth a.1 a.2).bind fun b => if b = conj then bops conj r L a.2 else some a
noncomputable def tops (conj : Bool) : List MX → Loc → MH → Option (Bool × MH)
  | [], _, H => some (conj, H)
  | e :: r, L, H => (E.t e L H).bind fun a => if a.1 = conj then tops conj r L a.2 else some (a.1, a.2)
noncomputable def kie2 (k : Nat) : MO → Option It
  | .list _ => some (.enu 0 k)
  | _ => none
noncomputable def enuOf (H : MH) (v : MV) : Option It := match v with
  | .ref k => (H.get k).bind (kie2 k)
  | v => (txtOf v).bind fun vs => some (.ent 0 vs)
noncomputable def evP (it : MX) (L : Loc) (H : MH) : Option (It × MH) := (E.x it L H).bind fun a => (iterOf a.2 a.1).bind fun i => some (i, a.2)
noncomputable def evG (as : List MX) (L : Loc) (H : MH) (b : BI) : Option (It × MH) := match b with
  | .range => (evs E as L H).bind fun a => (rangeOf a.1).bind fun i => some (i, a.2)
  | .enum => (evs E as L H).bind fun a => one a.1 fun v => (enuOf a.2 v).bind fun i => some (i, a.2)
  | _ => none
noncomputable def evI (it : MX) (L : Loc) (H : MH) : Option (It × MH) := match it with
  | .call f as => (asGlb f).bind fun g => (P.glb g).bind fun v => (asBi v).bind (evG E as L H)
  | it => evP E it L H
mutual
noncomputable def put : MT → MV → Loc → MH → Option (Loc × MH)
  | .nam x, v, L, H => some (zf5 x v L, H)
  | .tup ts, v, L, H => (asTup v).bind fun vs => puts ts vs L H
  | .sub a i, v, L, H => (E.x a L H).bind fun o => (E.x i L o.2).bind fun j => (setItem j.2 o.1 j.1 v).bind fun H' => some (L, H')
  | .att a x, v, L, H => (E.x a L H).bind fun o => (setAttr P o.2 o.1 x v).bind fun H' => some (L, H')
noncomputable def puts : List MT → List MV → Loc → MH → Option (Loc × MH)
  | [], [], L, H => some (L, H)
  | t :: ts, v :: vs, L, H => (put t v L H).bind fun a => puts ts vs a.1 a.2
  | _, _, _, _ => none
end
noncomputable def kte (k : Loc → MH → Option (Bool × MH)) (L : Loc) (a : Bool × MH) : Option (Bool × MH) := match a.1 with
  | true => k L a.2
  | false => some (false, a.2)
noncomputable def tests : List MX → Loc → MH → Option (Bool × MH)
  | [], _, H => some (true, H)
  | e :: r, L, H => (E.t e L H).bind (kte (tests r) L)
noncomputable def kek (k : List MV → MH → Option (List MV × MH)) (acc : List MV) (u : MV × MH) : Option (List MV × MH) := if acc.length < lim then k (acc ++ [u.1]) u.2 else none
noncomputable def ktk (e : MX) (k : List MV → MH → Option (List MV × MH)) (acc : List MV) (L : Loc) (b : Bool × MH) : Option (List MV × MH) := match b.1 with
  | true => (E.x e L b.2).bind (kek k acc)
  | false => k acc b.2
noncomputable def knl (r : List MV × MH) : Option (MV × MH) := newL r.2 r.1
noncomputable def evC (e : MX) (t : CT) (it : MX) (ifs : List MX) (L : Loc) (H : MH) : Option (MV × MH) := (evI P E it L H).bind fun i => if (ubnd t L && tupOk t.mt i.1) = true then (E.k e t ifs i.1 [] L i.2).bind knl else none
noncomputable def kst (k : Loc → MH → Option (Out × Loc × MH)) : Out × Loc × MH → Option (Out × Loc × MH) := fun a => match a.1 with
  | .nxt => k a.2.1 a.2.2
  | .ret v => some (.ret v, a.2)
noncomputable def stmts : List MS → Loc → MH → Option (Out × Loc × MH)
  | [], L, H => some (.nxt, L, H)
  | s :: r, L, H => (E.s s L H).bind (kst (stmts r))
noncomputable def krF (a : Out × Loc × MH) : Option (MV × MH) := match a.1 with
  | .ret v => some (v, a.2.2)
  | .nxt => some (.none, a.2.2)
noncomputable def callF (f : Nat) (as : List MV) (H : MH) : Option (MV × MH) := (P.fns f).bind fun d =>
  if d.params.length = as.length ∧ d.body.isEmpty = false then (stmts E d.body (d.params.zip as) H).bind krF else none
noncomputable def kin (k : Nat) (r : MV × MH) : Option (MV × MH) := match r.1 with | .none => some (.ref k, r.2) | _ => none
noncomputable def kmi (as : List MX) (L : Loc) (k : Nat) (x : Nat) (H : MH) (q : Nat × Nat × List (MV × MV)) : Option (MV × MH) := if okKey (.str x) q.2.2 = true ∧ dGet (.str x) q.2.2 = none then (P.meth q.1 x).bind fun f => if (P.fns f).isSome = true then (evs E as L H).bind fun v => E.c (.fn f) (.ref k :: v.1) v.2 else none else none
noncomputable def kml2 (k x : Nat) (vs : List MV) (H : MH) : MO → Option (MV × MH)
  | .list vs' => callL H k vs' x vs
  | _ => none
noncomputable def kmd2 (x : Nat) (vs : List MV) (H : MH) : MO → Option (MV × MH)
  | .dict es => callD H es x vs
  | _ => none
noncomputable def kmo (x : Nat) (as : List MX) (L : Loc) (k : Nat) (H : MH) : MO → Option (MV × MH)
  | .inst c d => (katd H (.inst c d)).bind (kmi P E as L k x H)
  | .list _ => (evs E as L H).bind fun v => (v.2.get k).bind (kml2 k x v.1 v.2)
  | .dict _ => (evs E as L H).bind fun v => (v.2.get k).bind (kmd2 x v.1 v.2)
  | .frz _ => none
noncomputable def kau2 (x : Nat) (op : Op) (a : MV) (L : Loc) (u : MV × MH) : Option (Out × Loc × MH) := (asInt a).bind fun i => (asInt u.1).bind fun j => if op = .add then some (.nxt, zf5 x (.int (i + j)) L, u.2) else none
noncomputable def klo3 (t : MT) (it : It) (b : List MS) : Out × Loc × MH → Option (Out × Loc × MH) := kst (E.l t it b)
noncomputable def Ev.step : Ev where
  x e L H := match e with
    | .cst v => some (v, H)
    | .loc x => (zf4 x L).bind fun v => some (v, H)
    | .glb x => (P.glb x).bind fun v => some (v, H)
    | .bin op a b => (E.x a L H).bind fun u => (E.x b L u.2).bind fun v => binop op u.1 v.1 v.2
    | .neg a => (E.x a L H).bind fun u => (asInt u.1).bind fun i => some (.int (-i), u.2)
    | .not a => (E.x a L H).bind fun u => (truth u.1 u.2).bind fun b => some (.bool (!b), u.2)
    | .bop c es => bops E c es L H
    | .cmp a op b => (E.x a L H).bind fun u => (E.x b L u.2).bind fun v => (compare op u.1 v.1 v.2).bind fun r => some (.bool r, v.2)
    | .cmp2 a op b op' c => (E.x a L H).bind fun u => (E.x b L u.2).bind fun v => (compare op u.1 v.1 v.2).bind fun r => match r with
      | true => (E.x c L v.2).bind fun w => (compare op' v.1 w.1 w.2).bind fun r' => some (.bool r', w.2)
      | false => some (.bool false, v.2)
    | .ife c a b => (E.t c L H).bind fun u => match u.1 with
      | true => E.x a L u.2
      | false => E.x b L u.2
    | .att a x => (E.x a L H).bind fun u => (attr P u.2 u.1 x).bind fun v => some (v, u.2)
    | .sub a i => (E.x a L H).bind fun u => (E.x i L u.2).bind fun v => (item v.2 u.1 v.1).bind fun r => some (r, v.2)
    | .slc a lo hi => (E.x a L H).bind fun u => (evo E lo L u.2).bind fun v => (evo E hi L v.2).bind fun w => slice w.2 u.1 v.1 w.1
    | .call f as => (E.x f L H).bind fun u => if okFn P u.1 = true then (evs E as L u.2).bind fun v => E.c u.1 v.1 v.2 else none
    | .mth o x as => (E.x o L H).bind fun u => (asRef u.1).bind fun k => (u.2.get k).bind (kmo P E x as L k u.2)
    | .tup es => (evs E es L H).bind fun v => if v.1.length ≤ lim then some (.tup v.1, v.2) else none
    | .lst es => (evs E es L H).bind fun v => newL v.2 v.1
    | .dct => some (.ref H.next, H.new (.dict []))
    | .cmpr e t it ifs => evC P E e t it ifs L H
  t e L H := match e with
    | .not a => (E.t a L H).bind fun u => some (!u.1, u.2)
    | .bop c es => tops E c es L H
    | .ife c a b => (E.t c L H).bind fun u => match u.1 with
      | true => E.t a L u.2
      | false => E.t b L u.2
    | .cmp a op b => (E.x a L H).bind fun u => (E.x b L u.2).bind fun v => (compare op u.1 v.1 v.2).bind fun r => some (r, v.2)
    | .cmp2 a op b op' c => (E.x a L H).bind fun u => (E.x b L u.2).bind fun v => (compare op u.1 v.1 v.2).bind fun r => match r with
      | true => (E.x c L v.2).bind fun w => (compare op' v.1 w.1 w.2).bind fun r' => some (r', w.2)
      | false => some (false, v.2)
    | e => (E.x e L H).bind fun u => (truth u.1 u.2).bind fun b => some (b, u.2)
  c f as H := match f with
    | .fn f => callF P (E' ()) f as H
    | .bm k f => callF P (E' ()) f (.ref k :: as) H
    | .bi b => callB b as H
    | .cls c => (P.meth c (cd "__init__")).bind fun f => (callF P (E' ()) f (.ref (H.next + 1) :: as) ((H.new (.dict [])).new (.inst c H.next))).bind (kin (H.next + 1))
    | _ => none
  s st L H := match st with
    | .asg t e => (E.x e L H).bind fun u => (put P E t u.1 L u.2).bind fun r => some (.nxt, r.1, r.2)
    | .aug x op e => (zf4 x L).bind fun a => (E.x e L H).bind (kau2 x op a L)
    | .ife c a b => (E.t c L H).bind fun u => match u.1 with
      | true => stmts E a L u.2
      | false => stmts E b L u.2
    | .for_ t it b => (evI P E it L H).bind fun i => if tupOk t i.1 = true then E.l t i.1 b L i.2 else none
    | .whl c b => (E.t c L H).bind fun u => match u.1 with
      | true => (stmts E b L u.2).bind (kst (E.s (.whl c b)))
      | false => some (.nxt, L, u.2)
    | .ret none => some (.ret .none, L, H)
    | .ret (some e) => (E.x e L H).bind fun u => some (.ret u.1, L, u.2)
    | .exp e => (E.x e L H).bind fun u => some (.nxt, L, u.2)
    | .rai _ => none
  l t it b L H := (it.next H).bind fun r => match r with
    | none => some (.nxt, L, H)
    | some (v, it') => (put P E t v L H).bind fun q => (stmts E b q.1 q.2).bind (klo3 E t it' b)
  k e t ifs it acc L H := (it.next H).bind fun r => match r with
    | none => some (acc, H)
    | some (v, it') => (put P E t.mt v L H).bind fun q => (tests E ifs q.1 q.2).bind (ktk E e (fun a h => E.k e t ifs it' a q.1 h) acc q.1)
end
noncomputable def ev (P : Pg) : Nat → Nat → Ev
  | 0 => fun _ => Ev.zero
  | n + 1 => fun d => Ev.step P (ev P n d) (fun _ => match d with | 0 => Ev.zero | d + 1 => ev P n d)
theorem bnd {α β : Type} {o : Option α} {f : α → Option β} {r : β} {C : Prop} (e : o.bind f = some r) (k : ∀ a, o = some a → f a = some r → C) : C := by
  obtain ⟨a, e1, e⟩ := Option.bind_eq_some_iff.mp e
  exact k a e1 e
theorem bnd2 {α γ β : Type} {o : Option (α × γ)} {f : α × γ → Option β} {r : β} {C : Prop} (e : o.bind f = some r) (k : ∀ a c, o = some (a, c) → f (a, c) = some r → C) : C := by
  obtain ⟨a, e1, e⟩ := Option.bind_eq_some_iff.mp e
  exact k a.1 a.2 e1 e
theorem bnd3 {α γ δ β : Type} {o : Option (α × γ × δ)} {f : α × γ × δ → Option β} {r : β} {C : Prop} (e : o.bind f = some r) (k : ∀ a c d, o = some (a, c, d) → f (a, c, d) = some r → C) : C := by
  obtain ⟨a, e1, e⟩ := Option.bind_eq_some_iff.mp e
  exact k a.1 a.2.1 a.2.2 e1 e
theorem gd {α : Type} {c : Prop} [Decidable c] {o : Option α} {r : α} {C : Prop} (e : (if c then o else none) = some r) (k : c → o = some r → C) : C := by
  by_cases h : c
  · rw [if_pos h] at e; exact k h e
  · rw [if_neg h] at e; cases e
theorem one_inv {α : Type} {as : List MV} {f : MV → Option α} {r : α} (e : one as f = some r) : ∃ a, as = [a] ∧ f a = some r := by
  rcases as with _ | ⟨a, _ | ⟨b, as⟩⟩
  · cases e
  · exact ⟨a, rfl, e⟩
  · cases e
theorem two_inv {α : Type} {as : List MV} {f : MV → MV → Option α} {r : α} (e : two as f = some r) : ∃ a b, as = [a, b] ∧ f a b = some r := by
  rcases as with _ | ⟨a, _ | ⟨b, _ | ⟨c, as⟩⟩⟩
  · cases e
  · cases e
  · exact ⟨a, b, rfl, e⟩
  · cases e
theorem asInt_inv {v : MV} {i : Int} (e : asInt v = some i) : v = .int i := by
  cases v <;> first | (cases e; done) | exact congrArg MV.int (Option.some.inj e)
theorem asRef_inv {v : MV} {k : Nat} (e : asRef v = some k) : v = .ref k := by
  cases v <;> first | (cases e; done) | exact congrArg MV.ref (Option.some.inj e)
theorem asTup_inv {v : MV} {k : List MV} (e : asTup v = some k) : v = .tup k := by
  cases v <;> first | (cases e; done) | exact congrArg MV.tup (Option.some.inj e)
theorem asStr_inv {v : MV} {k : Nat} (e : asStr v = some k) : v = .str k := by
  cases v <;> first | (cases e; done) | exact congrArg MV.str (Option.some.inj e)
theorem asBi_inv {v : MV} {k : BI} (e : asBi v = some k) : v = .bi k := by
  cases v <;> first | (cases e; done) | exact congrArg MV.bi (Option.some.inj e)
theorem asGlb_inv {v : MX} {k : Nat} (e : asGlb v = some k) : v = .glb k := by
  cases v <;> first | (cases e; done) | exact congrArg MX.glb (Option.some.inj e)
end Mn
end
section
set_option maxRecDepth 100000
set_option genInjectivity false
set_option genSizeOf false
namespace Mn
open PySem PySem.W PyProof.Rows PySem.Calls
structure Ad where
  fa : Nat → Addr
  ca : Nat → Addr
noncomputable def biV : BI → Value
  | .len => .builtin "len" | .abs => .builtin "abs" | .range => .type "range" | .isinst => .builtin "isinstance" | .enum => .type "enumerate"
  | .dict => .type "dict" | .list => .type "list"  | .tstr => .type "str" | .ttup => .type "tuple"
noncomputable def okS (s : Str) : Prop := ∀ c ∈ s.cps.toList, c < 256
mutual
inductive VR (D : Ad) (adr : List Addr) (h : Heap) : MV → Value → Prop
  | none : VR D adr h .none .none
  | bool (b : Bool) : VR D adr h (.bool b) (.bool b)
  | int (i : Int) (t : Tok) : VR D adr h (.int i) (.int i t)
  | str (s : Str) (t : Tok) (ok : okS s) (n : Nat) (e : n = code s) : VR D adr h (.str n) (.str s t)
  | tup (vs : List MV) (a : Addr) (ws : Array Value) (ht : h.IsTuple a ws) (hv : VRs D adr h vs ws.toList) : VR D adr h (.tup vs) (.ref a)
  | ref (k : Nat) (a : Addr) (e : adr[k]? = some a) : VR D adr h (.ref k) (.ref a)
  | fn (f : Nat) : VR D adr h (.fn f) (.ref (D.fa f))
  | cls (c : Nat) : VR D adr h (.cls c) (.ref (D.ca c))
  | bm (k f : Nat) (x a : Addr) (e : adr[k]? = some x) (hm : h.get? a = some (methodObj (.ref (D.fa f)) (.ref x))) : VR D adr h (.bm k f) (.ref a)
  | bi (b : BI) (u : Value) (e : u = biV b) : VR D adr h (.bi b) u
inductive VRs (D : Ad) (adr : List Addr) (h : Heap) : List MV → List Value → Prop
  | nil : VRs D adr h [] []
  | cons {v : MV} {u : Value} {vs : List MV} {us : List Value} (hv : VR D adr h v u) (hs : VRs D adr h vs us) : VRs D adr h (v :: vs) (u :: us)
end
inductive ER {α : Type} (D : Ad) (adr : List Addr) (h : Heap) (R : MV → α → Prop) : List (MV × MV) → List (α × Value) → Prop
  | nil : ER D adr h R [] []
  | cons {k v : MV} {a : α} {u : Value} {es : List (MV × MV)} {kvs : List (α × Value)} (hk : R k a) (hv : VR D adr h v u) (hs : ER D adr h R es kvs) : ER D adr h R ((k, v) :: es) ((a, u) :: kvs)
noncomputable def SK (k : MV) (s : Str) : Prop := okS s ∧ k = .str (code s)
noncomputable def IK (k : MV) (i : Int) : Prop := k = .int i
noncomputable def Off (B : Heap) (a : Addr) : Prop := B.get? a = none ∧ a ≠ sysModules
inductive OR (prog : Program) (w : World) (B : Heap) (D : Ad) (adr : List Addr) (h : Heap) : MO → Addr → Prop
  | list (vs : List MV) (a : Addr) (ws : Array Value) (hl : h.PlainList a ws) (hv : VRs D adr h vs ws.toList) (hb : Off B a) : OR prog w B D adr h (.list vs) a
  | frz (vs : List MV) (a : Addr) (ws : Array Value) (hl : h.IsList a ws) (hv : VRs D adr h vs ws.toList) : OR prog w B D adr h (.frz vs) a
  | dictS (es : List (MV × MV)) (a : Addr) (kvs : List (Str × Value)) (hd : h.DictOf (strKind prog w) a kvs) (he : ER D adr h SK es kvs) (hb : Off B a) : OR prog w B D adr h (.dict es) a
  | dictI (es : List (MV × MV)) (a : Addr) (kvs : List (Int × Value)) (hd : h.DictOf (intKind prog w) a kvs) (he : ER D adr h IK es kvs) (hb : Off B a) : OR prog w B D adr h (.dict es) a
  | inst (c d : Nat) (a dx : Addr) (e : adr[d]? = some dx) (ho : h.get? a = some (instObj (D.ca c) dx)) : OR prog w B D adr h (.inst c d) a
noncomputable def own (env : Env) : List Addr := env.locals :: env.cells.map (·.2)
structure LR (D : Ad) (adr : List Addr) (h : Heap) (env : Env) (ρ : Loc) : Prop where
  ns : ∃ m : Str → Option Value, h.Ns env.locals m ∧ ∀ s v, okS s → zf4 (code s) ρ = some v → env.kindOf s = some .local → ∃ u, m s = some u ∧ VR D adr h v u
  cl : ∀ n c, env.cells.lookup n = some c → ∃ v, h.IsCell c v
  cv : ∀ s v, okS s → zf4 (code s) ρ = some v → env.kindOf s = some .cell → ∃ c u, env.cells.lookup s = some c ∧ h.IsCell c (some u) ∧ VR D adr h v u
structure SR (prog : Program) (w : World) (B : Heap) (D : Ad) (adr : List Addr) (H : MH) (h : Heap) : Prop where
  base : ∀ b o, B.get? b = some o → h.get? b = some o
  len : adr.length = H.next
  nd : adr.Nodup
  obj : ∀ k o, H.get k = some o → ∃ a, adr[k]? = some a ∧ OR prog w B D adr h o a
  full : ∀ k, k < H.next → (H.get k).isSome = true
  st : ∃ o, B.get? cStatics = some o
structure EnvOk (B : Heap) (adr : List Addr) (env : Env) : Prop where
  kind : env.scope.kind = .function
  glob : env.globals = mainGlobals
  blt : env.builtins = builtinsNs
  nd : (own env).Nodup
  names : (env.cells.map (·.1)).Nodup
  offA : ∀ a ∈ own env, a ∉ adr
  offB : ∀ a ∈ own env, B.get? a = none
  held : ∀ s, env.kindOf s = some .cell → ∃ c, env.cells.lookup s = some c
structure Kp (adr : List Addr) (env : Env) (h h' : Heap) : Prop where
  keep : ∀ b o, h.get? b = some o → b ∉ adr → b ∉ own env → h'.get? b = some o
  live : ∀ b, (h.get? b).isSome = true → (h'.get? b).isSome = true
theorem Kp.refl (adr : List Addr) (env : Env) (h : Heap) : Kp adr env h h := ⟨fun _ _ e _ _ => e, fun _ e => e⟩
noncomputable def VRI (D : Ad) (adr : List Addr) (h : Heap) (v : MV) (u : Value) : Prop := match v with
  | .none => u = .none
  | .bool b => u = .bool b
  | .int i => ∃ t, u = .int i t
  | .str n => ∃ s t, okS s ∧ n = code s ∧ u = .str s t
  | .tup vs => ∃ a ws, u = .ref a ∧ h.IsTuple a ws ∧ VRs D adr h vs ws.toList
  | .ref k => ∃ a, u = .ref a ∧ adr[k]? = some a
  | .fn f => u = .ref (D.fa f)
  | .cls c => u = .ref (D.ca c)
  | .bm k f => ∃ x a, u = .ref a ∧ adr[k]? = some x ∧ h.get? a = some (methodObj (.ref (D.fa f)) (.ref x))
  | .bi b => u = biV b
theorem VR.inv {D : Ad} {adr : List Addr} {h : Heap} {v : MV} {u : Value} (x : VR D adr h v u) : VRI D adr h v u := by
  cases x with
  | none => exact rfl
  | bool _ => exact rfl
  | int _ t => exact ⟨t, rfl⟩
  | str s t ok _ e => exact ⟨s, t, ok, e, rfl⟩
  | tup _ a ws ht hv => exact ⟨a, ws, rfl, ht, hv⟩
  | ref _ a e => exact ⟨a, rfl, e⟩
  | fn _ => exact rfl
  | cls _ => exact rfl
  | bm _ _ x a e hm => exact ⟨x, a, rfl, e, hm⟩
  | bi _ _ e => exact e
noncomputable def VRsI (D : Ad) (adr : List Addr) (h : Heap) (vs : List MV) (us : List Value) : Prop := match vs with
  | [] => us = []
  | v :: vs => ∃ u r, us = u :: r ∧ VR D adr h v u ∧ VRs D adr h vs r
theorem VRs.inv {D : Ad} {adr : List Addr} {h : Heap} {vs : List MV} {us : List Value} (x : VRs D adr h vs us) : VRsI D adr h vs us := by
  cases x with
  | nil => exact rfl
  | cons hv hs => exact ⟨_, _, rfl, hv, hs⟩
theorem VRs.inv1 {D : Ad} {adr : List Addr} {h : Heap} {v : MV} {us : List Value} (x : VRs D adr h [v] us) : ∃ u, us = [u] ∧ VR D adr h v u := by
  obtain ⟨u, r, rfl, hv, hs⟩ := x.inv
  obtain rfl : r = [] := hs.inv
  exact ⟨u, rfl, hv⟩
theorem VRs.inv2 {D : Ad} {adr : List Addr} {h : Heap} {v v' : MV} {us : List Value} (x : VRs D adr h [v, v'] us) : ∃ u u', us = [u, u'] ∧ VR D adr h v u ∧ VR D adr h v' u' := by
  obtain ⟨u, r, rfl, hv, hs⟩ := x.inv
  obtain ⟨u', rfl, hv'⟩ := hs.inv1
  exact ⟨u, u', rfl, hv, hv'⟩
noncomputable def ERI {α : Type} (D : Ad) (adr : List Addr) (h : Heap) (R : MV → α → Prop) (es : List (MV × MV)) (kvs : List (α × Value)) : Prop := match es with
  | [] => kvs = []
  | p :: es => ∃ a u r, kvs = (a, u) :: r ∧ R p.1 a ∧ VR D adr h p.2 u ∧ ER D adr h R es r
theorem ER.inv {α : Type} {D : Ad} {adr : List Addr} {h : Heap} {R : MV → α → Prop} {es : List (MV × MV)} {kvs : List (α × Value)} (x : ER D adr h R es kvs) : ERI D adr h R es kvs := by
  cases x with
  | nil => exact rfl
  | cons hk hv hs => exact ⟨_, _, _, rfl, hk, hv, hs⟩
noncomputable def ORI (prog : Program) (w : World) (B : Heap) (D : Ad) (adr : List Addr) (h : Heap) (o : MO) (a : Addr) : Prop := match o with
  | .list vs => ∃ ws, h.PlainList a ws ∧ VRs D adr h vs ws.toList ∧ Off B a
  | .frz vs => ∃ ws, h.IsList a ws ∧ VRs D adr h vs ws.toList
  | .dict es => ((∃ kvs, h.DictOf (strKind prog w) a kvs ∧ ER D adr h SK es kvs) ∨ ∃ kvs, h.DictOf (intKind prog w) a kvs ∧ ER D adr h IK es kvs) ∧ Off B a
  | .inst c d => ∃ dx, adr[d]? = some dx ∧ h.get? a = some (instObj (D.ca c) dx)
theorem OR.inv {prog : Program} {w : World} {B : Heap} {D : Ad} {adr : List Addr} {h : Heap} {o : MO} {a : Addr} (x : OR prog w B D adr h o a) : ORI prog w B D adr h o a := by
  cases x with
  | list _ _ ws hl hv hb => exact ⟨ws, hl, hv, hb⟩
  | frz _ _ ws hl hv => exact ⟨ws, hl, hv⟩
  | dictS _ _ kvs hd he hb => exact ⟨.inl ⟨kvs, hd, he⟩, hb⟩
  | dictI _ _ kvs hd he hb => exact ⟨.inr ⟨kvs, hd, he⟩, hb⟩
  | inst _ _ _ dx e ho => exact ⟨dx, e, ho⟩
theorem asInt_vr {D : Ad} {adr : List Addr} {h : Heap} {v : MV} {u : Value} {i : Int} (e : asInt v = some i) (x : VR D adr h v u) : ∃ t, u = .int i t := by
  rw [asInt_inv e] at x
  exact x.inv
theorem sm {α : Type} {a b : α} {C : α → Prop} (e : some a = some b) (h : C b) : C a := by
  rw [Option.some.inj e]; exact h
section
variable {D : Ad} {adr adr' : List Addr} {h h' : Heap}
theorem VRs.ind {motive : List MV → List Value → Prop} (nil : motive [] []) (cons : ∀ v u vs us, VR D adr h v u → VRs D adr h vs us → motive vs us → motive (v :: vs) (u :: us)) {vs : List MV} {us : List Value} (x : VRs D adr h vs us) : motive vs us :=
  VRs.rec (motive_1 := fun _ _ _ => True) (motive_2 := fun vs us _ => motive vs us) trivial (fun _ => trivial) (fun _ _ => trivial) (fun _ _ _ _ _ => trivial) (fun _ _ _ _ _ _ => trivial) (fun _ _ _ => trivial) (fun _ => trivial) (fun _ => trivial) (fun _ _ _ _ _ _ => trivial) (fun _ _ _ => trivial) nil (fun hv hs _ ih => cons _ _ _ _ hv hs ih) x
theorem VRs.length {vs : List MV} {us : List Value} (x : VRs D adr h vs us) : vs.length = us.length :=
  x.ind (motive := fun vs us => vs.length = us.length) rfl fun _ _ _ _ _ _ ih => congrArg Nat.succ ih
theorem VRs.get {vs : List MV} {us : List Value} {i : Nat} {v : MV} (x : VRs D adr h vs us) : vs[i]? = some v → ∃ u, us[i]? = some u ∧ VR D adr h v u :=
  x.ind (motive := fun vs us => ∀ i : Nat, vs[i]? = some v → ∃ u, us[i]? = some u ∧ VR D adr h v u) (fun i e => nomatch e) (fun w u _ _ hv _ ih i e => by
    cases i with
    | zero => exact ⟨u, rfl, Option.some.inj e ▸ hv⟩
    | succ i => exact ih i e) i
theorem VRs.none_get {vs : List MV} {us : List Value} {i : Nat} (H : VRs D adr h vs us) (e : vs[i]? = none) : us[i]? = none := by
  rw [List.getElem?_eq_none_iff] at e ⊢; rw [← H.length]; exact e
theorem VRs.append {vs vs' : List MV} {us us' : List Value} (x : VRs D adr h vs us) (y : VRs D adr h vs' us') : VRs D adr h (vs ++ vs') (us ++ us') :=
  x.ind (motive := fun vs us => VRs D adr h (vs ++ vs') (us ++ us')) y fun _ _ _ _ hv _ ih => .cons hv ih
theorem VRs.take {vs : List MV} {us : List Value} (n : Nat) (x : VRs D adr h vs us) : VRs D adr h (vs.take n) (us.take n) :=
  x.ind (motive := fun vs us => ∀ n, VRs D adr h (vs.take n) (us.take n)) (fun n => by rw [List.take_nil, List.take_nil]; exact .nil) (fun _ _ _ _ hv _ ih n => by
    cases n with
    | zero => exact .nil
    | succ n => exact .cons hv (ih n)) n
theorem VRs.drop {vs : List MV} {us : List Value} (n : Nat) (x : VRs D adr h vs us) : VRs D adr h (vs.drop n) (us.drop n) :=
  x.ind (motive := fun vs us => ∀ n, VRs D adr h (vs.drop n) (us.drop n)) (fun n => by rw [List.drop_nil, List.drop_nil]; exact .nil) (fun _ _ _ _ hv hs ih n => by
    cases n with
    | zero => exact .cons hv hs
    | succ n => exact ih n) n
theorem VRs.set {vs : List MV} {us : List Value} (n : Nat) {v : MV} {u : Value} (x : VRs D adr h vs us) (y : VR D adr h v u) : VRs D adr h (vs.set n v) (us.set n u) :=
  x.ind (motive := fun vs us => ∀ n, VRs D adr h (vs.set n v) (us.set n u)) (fun n => .nil) (fun _ _ _ _ hv hs ih n => by
    cases n with
    | zero => exact .cons y hs
    | succ n => exact .cons hv (ih n)) n
theorem VRs.dropLast {vs : List MV} {us : List Value} (H : VRs D adr h vs us) : VRs D adr h vs.dropLast us.dropLast := by
  rw [List.dropLast_eq_take, List.dropLast_eq_take, ← H.length]; exact H.take _
noncomputable def SoftKeep (h h' : Heap) : Prop := (∀ a ws, h.IsTuple a ws → h'.IsTuple a ws) ∧ ∀ a f x, h.get? a = some (methodObj f x) → h'.get? a = some (methodObj f x)
theorem pre_get {k : Nat} {a : Addr} (hp : adr <+: adr') (e : adr[k]? = some a) : adr'[k]? = some a := by
  obtain ⟨t, rfl⟩ := hp
  obtain ⟨hl, _⟩ := List.getElem?_eq_some_iff.mp e
  rw [List.getElem?_append_left hl]; exact e
theorem VR.mono (hp : adr <+: adr') (hs : SoftKeep h h') {v : MV} {u : Value} (x : VR D adr h v u) : VR D adr' h' v u :=
  VR.rec (motive_1 := fun v u _ => VR D adr' h' v u) (motive_2 := fun vs us _ => VRs D adr' h' vs us) .none .bool .int .str (fun vs a ws ht _ ih => .tup vs a ws (hs.1 _ _ ht) ih) (fun k a e => .ref k a (pre_get hp e)) .fn .cls
    (fun k f x a e hm => .bm k f x a (pre_get hp e) (hs.2 _ _ _ hm)) .bi .nil (fun _ _ i1 i2 => .cons i1 i2) x
theorem VRs.mono (hp : adr <+: adr') (hs : SoftKeep h h') {vs : List MV} {us : List Value} (x : VRs D adr h vs us) : VRs D adr' h' vs us :=
  x.ind (motive := fun vs us => VRs D adr' h' vs us) .nil fun _ _ _ _ hv _ ih => .cons (hv.mono hp hs) ih
theorem ER.mono {α : Type} {R : MV → α → Prop} (hp : adr <+: adr') (hs : SoftKeep h h') {es : List (MV × MV)} {kvs : List (α × Value)} (x : ER D adr h R es kvs) : ER D adr' h' R es kvs := by
  induction x with
  | nil => exact .nil
  | cons hk hv _ ih => exact .cons hk (hv.mono hp hs) ih
theorem SoftKeep.refl (h : Heap) : SoftKeep h h := ⟨fun _ _ x => x, fun _ _ _ x => x⟩
theorem SoftKeep.of_keep (hk : ∀ b o, h.get? b = some o → h'.get? b = some o) : SoftKeep h h' := ⟨fun a ws ⟨o, ho, r⟩ => ⟨o, hk a o ho, r⟩, fun a f x e => hk _ _ e⟩
theorem SoftKeep.trans {h₁ h₂ h₃ : Heap} (x : SoftKeep h₁ h₂) (y : SoftKeep h₂ h₃) : SoftKeep h₁ h₃ := ⟨fun a ws t => y.1 a ws (x.1 a ws t), fun a f b e => y.2 _ _ _ (x.2 _ _ _ e)⟩
end
section
variable {prog : Program} {w : World} {B : Heap} {D : Ad} {adr adr' : List Addr} {H : MH} {h h' : Heap} {env : Env} {ρ : Loc}
noncomputable def Hard (h : Heap) (b : Addr) : Prop := (∀ ws, ¬ h.IsTuple b ws) ∧ ∀ f x, h.get? b ≠ some (methodObj f x)
theorem hard_of {a : Addr} {o : Obj} (e : h.get? a = some o) (h1 : o.cls ≠ .type "tuple") (h2 : o.cls ≠ .type "method") : Hard h a := by
  constructor
  · rintro ws ⟨o', e', hc, _⟩
    rw [e] at e'
    cases e'
    exact h1 hc
  · intro f x e'
    rw [e] at e'
    cases e'
    exact h2 rfl
theorem dict_at {K : Type} [DecidableEq K] {knd : KeyKind prog w K} {a : Addr} {kvs : List (K × Value)} (x : h.DictOf knd a kvs) : ∃ o, h.get? a = some o ∧ o.cls = .type "dict" := by
  obtain ⟨o, es, ep, e, hx, _⟩ := x
  exact ⟨o, e, hx.1⟩
theorem OR.at_ {o : MO} {a : Addr} (x : OR prog w B D adr h o a) : ∃ ob, h.get? a = some ob ∧ ob.cls ≠ .type "tuple" ∧ ob.cls ≠ .type "method" := by
  cases x with
  | list _ _ _ hl _ _ => obtain ⟨_, e⟩ := hl; exact ⟨_, e, (by decide : Value.type "list" ≠ .type "tuple"), (by decide : Value.type "list" ≠ .type "method")⟩
  | frz _ _ _ hl _ => obtain ⟨o, e, hc, _⟩ := hl; exact ⟨o, e, by rw [hc]; decide, by rw [hc]; decide⟩
  | dictS _ _ _ hd _ _ => obtain ⟨o, e, hc⟩ := dict_at hd; exact ⟨o, e, by rw [hc]; decide, by rw [hc]; decide⟩
  | dictI _ _ _ hd _ _ => obtain ⟨o, e, hc⟩ := dict_at hd; exact ⟨o, e, by rw [hc]; decide, by rw [hc]; decide⟩
  | inst _ _ _ _ _ e => exact ⟨_, e, nofun, nofun⟩
theorem OR.hard {o : MO} {a : Addr} (x : OR prog w B D adr h o a) : Hard h a := by
  obtain ⟨ob, e, h1, h2⟩ := x.at_
  exact hard_of e h1 h2
theorem OR.at {o : MO} {a : Addr} (x : OR prog w B D adr h o a) : ∃ ob, h.get? a = some ob := by
  obtain ⟨ob, e, _⟩ := x.at_
  exact ⟨ob, e⟩
theorem dict_keep {K : Type} [DecidableEq K] {knd : KeyKind prog w K} {a : Addr} {kvs : List (K × Value)} (x : h.DictOf knd a kvs) (ha : ∀ ob, h.get? a = some ob → h'.get? a = some ob) : h'.DictOf knd a kvs := by
  obtain ⟨o, xs, ep, e, r⟩ := x
  exact ⟨o, xs, ep, ha _ e, r⟩
theorem OR.mono {o : MO} {a : Addr} (hp : adr <+: adr') (hs : SoftKeep h h') (ha : ∀ ob, h.get? a = some ob → h'.get? a = some ob) (x : OR prog w B D adr h o a) : OR prog w B D adr' h' o a := by
  cases x with
  | list _ _ _ hl hv hb => obtain ⟨n, e⟩ := hl; exact .list _ _ _ ⟨n, ha _ e⟩ (hv.mono hp hs) hb
  | frz _ _ _ hl hv => obtain ⟨o, e, r⟩ := hl; exact .frz _ _ _ ⟨o, ha _ e, r⟩ (hv.mono hp hs)
  | dictS _ _ _ hd he hb => exact .dictS _ _ _ (dict_keep hd ha) (he.mono hp hs) hb
  | dictI _ _ _ hd he hb => exact .dictI _ _ _ (dict_keep hd ha) (he.mono hp hs) hb
  | inst _ _ _ _ e ho => exact .inst _ _ _ _ (pre_get hp e) (ha _ ho)
theorem hard_data {a : Addr} {o : Obj} (e : h.get? a = some o) (h1 : ∀ x n, o.data ≠ .seq x n) (h2 : ∀ x, o.data ≠ .fields x) : Hard h a := by
  constructor
  · rintro ws ⟨o', e', _, n, hd⟩
    rw [e] at e'
    cases e'
    exact h1 _ _ hd
  · intro f x e'
    rw [e] at e'
    cases e'
    exact h2 _ rfl
theorem ns_hard {a : Addr} {m : Str → Option Value} (x : h.Ns a m) : Hard h a := by
  obtain ⟨o, es, ep, e, hd, _⟩ := x
  exact hard_data e (by rw [hd]; simp) (by rw [hd]; simp)
theorem cell_hard {a : Addr} {v : Option Value} (x : h.IsCell a v) : Hard h a := by
  obtain ⟨o, e, hd⟩ := x
  exact hard_data e (by rw [hd]; simp) (by rw [hd]; simp)
theorem SR.idx (S : SR prog w B D adr H h) {a : Addr} (ha : a ∈ adr) : ∃ k, adr[k]? = some a ∧ k < H.next := by
  obtain ⟨k, hk, e⟩ := List.getElem_of_mem ha
  exact ⟨k, by rw [List.getElem?_eq_getElem hk, e], S.len ▸ hk⟩
end
end Mn
end
section
set_option maxRecDepth 100000
namespace Mn
open PySem PySem.W PyProof.Rows PySem.Calls
structure St (prog : Program) (w : World) (B : Heap) (D : Ad) (adr : List Addr) (H : MH) (ρ : Loc) (env : Env) (h : Heap) : Prop where
  sr : SR prog w B D adr H h
  lr : LR D adr h env ρ
  en : EnvOk B adr env
section
variable {prog : Program} {w : World} {B : Heap} {D : Ad} {adr adr' : List Addr} {H : MH} {h h' : Heap} {env : Env} {ρ : Loc}
theorem nodup_idx {l : List Addr} (hn : l.Nodup) {i j : Nat} {a : Addr} (e : l[i]? = some a) (e' : l[j]? = some a) : i = j := by
  obtain ⟨l1, g1⟩ := List.getElem?_eq_some_iff.mp e
  obtain ⟨l2, g2⟩ := List.getElem?_eq_some_iff.mp e'
  have q := List.pairwise_iff_getElem.mp hn
  rcases Nat.lt_trichotomy i j with h | h | h
  · exact absurd (g1.trans g2.symm) (q i j l1 l2 h)
  · exact h
  · exact absurd (g2.trans g1.symm) (q j i l2 l1 h)
theorem own_locals : env.locals ∈ own env := .head _
theorem own_cell {n : Str} {c : Addr} (e : env.cells.lookup n = some c) : c ∈ own env := .tail _ (List.mem_map.mpr ⟨(n, c), mem_of_lookup e, rfl⟩)
theorem own_inv (E : EnvOk B adr env) {a : Addr} (ha : a ∈ own env) : a = env.locals ∨ ∃ n, env.cells.lookup n = some a := by
  rcases List.mem_cons.mp ha with e | ha
  · exact .inl e
  · obtain ⟨⟨n, c⟩, hm, e⟩ := List.mem_map.mp ha
    exact .inr ⟨n, e ▸ lookup_of_mem_nodup E.names hm⟩
theorem LR.ns_ (L : LR D adr h env ρ) : ∃ m, h.Ns env.locals m := by
  obtain ⟨m, hns, _⟩ := L.ns
  exact ⟨m, hns⟩
theorem own_hard (L : LR D adr h env ρ) (E : EnvOk B adr env) : ∀ a ∈ own env, Hard h a := by
  intro a ha
  rcases own_inv E ha with e | ⟨n, e⟩
  · obtain ⟨m, hns⟩ := L.ns_
    exact e ▸ ns_hard hns
  · obtain ⟨v, c⟩ := L.cl n a e
    exact cell_hard c
theorem SR.at_ (S : SR prog w B D adr H h) {a : Addr} (ha : a ∈ adr) : ∃ o, OR prog w B D adr h o a := by
  obtain ⟨k, e, hk⟩ := S.idx ha
  obtain ⟨o, ho⟩ := Option.isSome_iff_exists.mp (S.full k hk)
  obtain ⟨a', e', O⟩ := S.obj k o ho
  exact ⟨o, Option.some.inj (e'.symm.trans e) ▸ O⟩
theorem SR.adr_hard (S : SR prog w B D adr H h) : ∀ a ∈ adr, Hard h a := by
  intro a ha
  obtain ⟨o, O⟩ := S.at_ ha
  exact O.hard
theorem soft_of {l : List Addr} (hl : ∀ a ∈ l, Hard h a) (k : ∀ b o, h.get? b = some o → b ∉ l → h'.get? b = some o) : SoftKeep h h' := by
  constructor
  · rintro a ws ⟨o, e, r⟩
    refine ⟨o, k a o e fun q => (hl a q).1 ws ⟨o, e, r⟩, r⟩
  · intro a f x e
    exact k a _ e fun q => (hl a q).2 f x e
theorem St.soft (S : St prog w B D adr H ρ env h) (k : Kp adr env h h') : SoftKeep h h' :=
  soft_of (l := adr ++ own env) (fun a ha => (List.mem_append.mp ha).elim (S.sr.adr_hard a) (own_hard S.lr S.en a)) fun b o e n => k.keep b o e (fun q => n (List.mem_append_left _ q)) (fun q => n (List.mem_append_right _ q))
theorem St.vr (S : St prog w B D adr H ρ env h) (k : Kp adr env h h') (hp : adr <+: adr') {v : MV} {u : Value} (x : VR D adr h v u) : VR D adr' h' v u := x.mono hp (S.soft k)
theorem St.vrs (S : St prog w B D adr H ρ env h) (k : Kp adr env h h') (hp : adr <+: adr') {v : List MV} {u : List Value} (x : VRs D adr h v u) : VRs D adr' h' v u := x.mono hp (S.soft k)
theorem live_of {h h' : Heap} (k : ∀ b o, h.get? b = some o → h'.get? b = some o) : ∀ b, (h.get? b).isSome = true → (h'.get? b).isSome = true := fun b e => by
  obtain ⟨o, ho⟩ := Option.isSome_iff_exists.mp e
  rw [k b o ho]; rfl
theorem live_but {h h' : Heap} {a : Addr} (hs : Heap.SameBut a h h') (ha : (h'.get? a).isSome = true) : ∀ b, (h.get? b).isSome = true → (h'.get? b).isSome = true := fun b e => by
  by_cases q : b = a
  · rw [q]; exact ha
  · rw [hs.2 b q]; exact e
theorem some_of {h : Heap} {a : Addr} {o : Obj} (e : h.get? a = some o) : (h.get? a).isSome = true := by rw [e]; rfl
theorem Kp.trans {h₁ h₂ : Heap} (S : ∀ a ∈ adr', a ∈ adr ∨ h.get? a = none) (x : Kp adr env h h₁) (y : Kp adr' env h₁ h₂) : Kp adr env h h₂ :=
  ⟨fun b o e n m => y.keep b o (x.keep b o e n m) (fun q => (S b q).elim n fun z => (by rw [e] at z; cases z)) m, fun b e => y.live b (x.live b e)⟩
structure Tn (adr : List Addr) (env : Env) (h : Heap) (adr' : List Addr) (h' : Heap) : Prop where
  pre : adr <+: adr'
  new : ∀ a ∈ adr', a ∈ adr ∨ h.get? a = none
  kp : Kp adr env h h'
theorem none_back {h h' : Heap} {a : Addr} (k : (h.get? a).isSome = true → (h'.get? a).isSome = true) (e : h'.get? a = none) : h.get? a = none := by
  cases q : h.get? a with
  | none => rfl
  | some o =>
    have := k (some_of q)
    rw [e] at this
    cases this
theorem Tn.refl (adr : List Addr) (env : Env) (h : Heap) : Tn adr env h adr h := ⟨List.prefix_refl _, fun _ q => .inl q, Kp.refl ..⟩
theorem Tn.trans {adr₁ adr₂ : List Addr} {h₁ h₂ : Heap} (x : Tn adr env h adr₁ h₁) (y : Tn adr₁ env h₁ adr₂ h₂) : Tn adr env h adr₂ h₂ :=
  ⟨x.pre.trans y.pre, fun a q => (y.new a q).elim (x.new a) fun z => .inr (none_back (x.kp.live a) z), x.kp.trans x.new y.kp⟩
theorem St.vt (S : St prog w B D adr H ρ env h) (t : Tn adr env h adr' h') {v : MV} {u : Value} (x : VR D adr h v u) : VR D adr' h' v u := S.vr t.kp t.pre x
theorem St.vts (S : St prog w B D adr H ρ env h) (t : Tn adr env h adr' h') {v : List MV} {u : List Value} (x : VRs D adr h v u) : VRs D adr' h' v u := S.vrs t.kp t.pre x
theorem cell_keep {a : Addr} {v : Option Value} (x : h.IsCell a v) (k : ∀ o, h.get? a = some o → h'.get? a = some o) : h'.IsCell a v := by
  obtain ⟨o, e, r⟩ := x
  exact ⟨o, k o e, r⟩
theorem ns_keep {a : Addr} {m : Str → Option Value} (x : h.Ns a m) (k : ∀ o, h.get? a = some o → h'.get? a = some o) : h'.Ns a m := by
  obtain ⟨o, es, ep, e, r⟩ := x
  exact ⟨o, es, ep, k o e, r⟩
theorem LR.keep (L : LR D adr h env ρ) (hp : adr <+: adr') (hs : SoftKeep h h') (ho : ∀ a ∈ own env, ∀ o, h.get? a = some o → h'.get? a = some o) : LR D adr' h' env ρ := by
  obtain ⟨m, hns, hv⟩ := L.ns
  refine ⟨⟨m, ns_keep hns (ho _ own_locals), fun s v ok e q => ?_⟩, fun n c e => ?_, fun s v ok e q => ?_⟩
  · obtain ⟨u, e1, x⟩ := hv s v ok e q
    exact ⟨u, e1, x.mono hp hs⟩
  · obtain ⟨v, c'⟩ := L.cl n c e
    exact ⟨v, cell_keep c' (ho _ (own_cell e))⟩
  · obtain ⟨c, u, e1, c', x⟩ := L.cv s v ok e q
    exact ⟨c, u, e1, cell_keep c' (ho _ (own_cell e1)), x.mono hp hs⟩
theorem EnvOk.keep (E : EnvOk B adr env) (hl : ∀ a ∈ own env, (h.get? a).isSome = true) (hn : ∀ a ∈ adr', a ∈ adr ∨ h.get? a = none) : EnvOk B adr' env :=
  ⟨E.kind, E.glob, E.blt, E.nd, E.names, fun a q z => (hn a z).elim (E.offA a q) fun y => (by have := hl a q; rw [y] at this; cases this), E.offB, E.held⟩
theorem LR.live (L : LR D adr h env ρ) (E : EnvOk B adr env) : ∀ a ∈ own env, (h.get? a).isSome = true := by
  intro a ha
  rcases own_inv E ha with q | ⟨n, e⟩
  · obtain ⟨m, o, es, ep, e, _⟩ := L.ns_
    exact q ▸ some_of e
  · obtain ⟨v, o, e, _⟩ := L.cl n a e
    exact some_of e
theorem SR.live (S : SR prog w B D adr H h) : ∀ a ∈ adr, (h.get? a).isSome = true := by
  intro a ha
  obtain ⟨o, O⟩ := S.at_ ha
  obtain ⟨ob, e⟩ := O.at
  exact some_of e
theorem St.grown (S : St prog w B D adr H ρ env h) (k : ∀ b o, h.get? b = some o → h'.get? b = some o) : St prog w B D adr H ρ env h' := by
  have hs : SoftKeep h h' := .of_keep k
  refine ⟨⟨fun b o e => k _ _ (S.sr.base b o e), S.sr.len, S.sr.nd, fun i o e => ?_, S.sr.full, S.sr.st⟩, S.lr.keep (List.prefix_refl _) hs fun _ _ o e => k _ _ e, S.en⟩
  obtain ⟨a, e1, O⟩ := S.sr.obj i o e
  exact ⟨a, e1, O.mono (List.prefix_refl _) hs fun ob e => k _ _ e⟩
theorem Tn.grown (k : ∀ b o, h.get? b = some o → h'.get? b = some o) : Tn adr env h adr h' := ⟨List.prefix_refl _, fun _ q => .inl q, ⟨fun b o e _ _ => k b o e, live_of k⟩⟩
theorem St.takes (S : St prog w B D adr H ρ env h) (k : ∀ b o, h.get? b = some o → h'.get? b = some o) {a : Addr} {o : MO}
    (ha : a ∉ adr) (ho : a ∉ own env) (O : OR prog w B D (adr ++ [a]) h' o a) : St prog w B D (adr ++ [a]) (H.new o) ρ env h' := by
  have hs : SoftKeep h h' := .of_keep k
  have hp : adr <+: adr ++ [a] := List.prefix_append ..
  refine ⟨⟨fun b o e => k _ _ (S.sr.base b o e), by simp [MH.new, S.sr.len], ?_, fun i ob e => ?_, fun i hi => ?_, S.sr.st⟩, S.lr.keep hp hs fun _ _ o e => k _ _ e,
    ⟨S.en.kind, S.en.glob, S.en.blt, S.en.nd, S.en.names, fun b q z => (List.mem_append.mp z).elim (S.en.offA b q) fun z => ho (List.mem_singleton.mp z ▸ q), S.en.offB, S.en.held⟩⟩
  · rw [List.nodup_append]
    refine ⟨S.sr.nd, by simp, fun x hx y hy e => ha ?_⟩
    rw [← List.mem_singleton.mp hy, ← e]
    exact hx
  · simp only [MH.new] at e
    by_cases hi : i = H.next
    · rw [if_pos hi] at e
      cases e
      refine ⟨a, ?_, O⟩
      rw [hi, ← S.sr.len]
      simp
    · rw [if_neg hi] at e
      obtain ⟨b, e1, O1⟩ := S.sr.obj i ob e
      exact ⟨b, pre_get hp e1, O1.mono hp hs fun ob e => k _ _ e⟩
  · simp only [MH.new] at hi ⊢
    by_cases q : i = H.next
    · rw [if_pos q]; rfl
    · rw [if_neg q]; exact S.sr.full i (by omega)
theorem St.made (S : St prog w B D adr H ρ env h) (k : ∀ b o, h.get? b = some o → h'.get? b = some o) {a : Addr} {o : MO}
    (ha : h.get? a = none) (O : OR prog w B D (adr ++ [a]) h' o a) : St prog w B D (adr ++ [a]) (H.new o) ρ env h' :=
  S.takes k (fun q => by have := S.sr.live a q; rw [ha] at this; cases this) (fun q => by have := S.lr.live S.en a q; rw [ha] at this; cases this) O
theorem Tn.made (k : ∀ b o, h.get? b = some o → h'.get? b = some o) {a : Addr} (ha : h.get? a = none) : Tn adr env h (adr ++ [a]) h' :=
  ⟨List.prefix_append .., fun b q => (List.mem_append.mp q).elim .inl fun q => .inr (by rw [List.mem_singleton.mp q]; exact ha), ⟨fun b o e _ _ => k b o e, live_of k⟩⟩
theorem St.turned (S : St prog w B D adr H ρ env h) {k : Nat} {a : Addr} {o : MO} (hk : adr[k]? = some a) (hh : Hard h a) (hs : Heap.SameBut a h h') (hb : Off B a) (O : SoftKeep h h' → OR prog w B D adr h' o a) :
    St prog w B D adr (H.upd k o) ρ env h' := by
  have sk : SoftKeep h h' := soft_of (l := [a]) (fun b q => by rw [List.mem_singleton.mp q]; exact hh) fun b ob e n => (hs.2 b fun z => n (by rw [z]; exact .head _)).trans e
  have ha : a ∈ adr := List.mem_of_getElem? hk
  refine ⟨⟨fun b ob e => (hs.2 b fun z => ?_).trans (S.sr.base b ob e), S.sr.len, S.sr.nd, fun i ob e => ?_, fun i hi => ?_, S.sr.st⟩,
    S.lr.keep (List.prefix_refl _) sk fun b q ob e => (hs.2 b fun z => S.en.offA b q (z ▸ ha)).trans e, S.en⟩
  · rw [z, hb.1] at e; cases e
  · simp only [MH.upd] at e
    by_cases q : i = k
    · rw [if_pos q] at e
      cases e
      exact ⟨a, q ▸ hk, O sk⟩
    · rw [if_neg q] at e
      obtain ⟨b, e1, O1⟩ := S.sr.obj i ob e
      refine ⟨b, e1, O1.mono (List.prefix_refl _) sk fun ob e => (hs.2 b fun z => q ?_).trans e⟩
      subst z
      exact nodup_idx S.sr.nd e1 hk
  · simp only [MH.upd]
    by_cases q : i = k
    · rw [if_pos q]; rfl
    · rw [if_neg q]; exact S.sr.full i hi
theorem Tn.turned {k : Nat} {a : Addr} (hk : adr[k]? = some a) (hs : Heap.SameBut a h h') (ha : ∃ ob, h'.get? a = some ob) : Tn adr env h adr h' :=
  ⟨List.prefix_refl _, fun _ q => .inl q, ⟨fun b o e n _ => (hs.2 b fun z => n (z ▸ List.mem_of_getElem? hk)).trans e, live_but hs (by obtain ⟨ob, e⟩ := ha; exact some_of e)⟩⟩
end
end Mn
end
section
set_option maxRecDepth 100000
namespace Mn
open PySem PySem.W PyProof.Rows PySem.Calls SeqAt
theorem codeL_pos (l : List Nat) : ∀ a, 1 ≤ a → 1 ≤ l.foldl (fun a c => a * 256 + c) a := by
  induction l with
  | nil => intro a h; exact h
  | cons c l ih => intro a h; exact ih _ (by show 1 ≤ a * 256 + c; omega)
theorem codeL_inj : ∀ (l l' : List Nat), (∀ c ∈ l, c < 256) → (∀ c ∈ l', c < 256) → l.foldl (fun a c => a * 256 + c) 1 = l'.foldl (fun a c => a * 256 + c) 1 → l = l' := by
  intro l
  induction h : l.length generalizing l with
  | zero =>
    intro l' _ h' e
    obtain rfl : l = [] := List.length_eq_zero_iff.mp h
    rcases List.eq_nil_or_concat l' with rfl | ⟨r, c, rfl⟩
    · rfl
    · rw [List.concat_eq_append, List.foldl_append] at e
      simp only [List.foldl_nil, List.foldl_cons] at e
      have := codeL_pos r 1 (Nat.le_refl _)
      omega
  | succ n ih =>
    intro l' h1 h' e
    rcases List.eq_nil_or_concat l with rfl | ⟨q, d, rfl⟩
    · cases h
    rcases List.eq_nil_or_concat l' with rfl | ⟨r, c, rfl⟩
    · rw [List.concat_eq_append, List.foldl_append] at e
      simp only [List.foldl_nil, List.foldl_cons] at e
      have := codeL_pos q 1 (Nat.le_refl _)
      omega
    · simp only [List.concat_eq_append, List.foldl_append, List.foldl_nil, List.foldl_cons] at e h1 h' h ⊢
      have b1 := h1 d (by simp)
      have b2 := h' c (by simp)
      have := ih q (by simpa using h) r (fun x hx => h1 x (by simp [hx])) (fun x hx => h' x (by simp [hx])) (by omega)
      subst this
      have : d = c := by omega
      rw [this]
theorem code_list (s : Str) : code s = s.cps.toList.foldl (fun a c => a * 256 + c) 1 := by
  unfold code
  rw [← Array.foldl_toList]
theorem code_inj {s t : Str} (hs : okS s) (ht : okS t) (e : code s = code t) : s = t := by
  rw [code_list, code_list] at e
  have := codeL_inj _ _ hs ht e
  obtain ⟨a⟩ := s
  obtain ⟨b⟩ := t
  congr
  exact Array.ext' this
theorem code_beq {s t : Str} (hs : okS s) (ht : okS t) : (s == t) = Nat.beq (code s) (code t) := by
  cases h : Nat.beq (code s) (code t) with
  | true => exact beq_iff_eq.mpr (code_inj hs ht (Nat.eq_of_beq_eq_true h))
  | false =>
    refine beq_eq_false_iff_ne.mpr fun e => ?_
    subst e
    exact absurd rfl (Nat.ne_of_beq_eq_false h)
theorem feqL_at {f : MV → MV → Option Bool} : ∀ {l r : List MV} {b : Bool}, feqL f l r = some b →
    ∃ e : Nat → Bool, (∀ j v u, l[j]? = some v → r[j]? = some u → f v u = some (e j)) ∧ b = ((List.range (min l.length r.length)).all e && l.length == r.length)
  | [], [], b, h => by cases h; exact ⟨fun _ => true, fun j v u e => by simp at e, rfl⟩
  | [], _ :: _, b, h => by cases h; exact ⟨fun _ => true, fun j v u e => by simp at e, by simp⟩
  | _ :: _, [], b, h => by cases h; exact ⟨fun _ => true, fun j v u _ e => by simp at e, by simp⟩
  | x :: l, y :: r, b, h => by
    obtain ⟨b1, h1, h⟩ := Option.bind_eq_some_iff.mp h
    obtain ⟨b2, h2, h⟩ := Option.bind_eq_some_iff.mp h
    cases h
    obtain ⟨e, he, hb⟩ := feqL_at h2
    refine ⟨fun j => match j with | 0 => b1 | j + 1 => e j, fun j v u q1 q2 => ?_, ?_⟩
    · cases j with
      | zero =>
        simp only [List.getElem?_cons_zero, Option.some.injEq] at q1 q2
        subst q1 q2
        exact h1
      | succ j =>
        simp only [List.getElem?_cons_succ] at q1 q2
        exact he j v u q1 q2
    · rw [hb]
      simp only [List.length_cons]
      rw [show min (l.length + 1) (r.length + 1) = min l.length r.length + 1 by omega, List.range_succ_eq_map, List.all_cons, List.all_map]
      have : (l.length + 1 == r.length + 1) = (l.length == r.length) := by
        cases h : l.length == r.length with
        | true => simpa using h
        | false => simpa using h
      rw [this, Bool.and_assoc]
      rfl
section
variable {D : Ad} {adr : List Addr} {A : Around} {s : Shared}
theorem tuple_same {h : Heap} {a : Addr} {ws ws' : Array Value} (x : h.IsTuple a ws) (y : h.IsTuple a ws') : ws = ws' := by
  obtain ⟨o, e, _, n, d⟩ := x
  obtain ⟨o', e', _, n', d'⟩ := y
  rw [e] at e'
  cases e'
  rw [d] at d'
  cases d'
  rfl
theorem VRs.at {h : Heap} {vs : List MV} {us : List Value} (H : VRs D adr h vs us) {j : Nat} {u : Value} (e : us[j]? = some u) : ∃ v, vs[j]? = some v ∧ VR D adr h v u := by
  cases q : vs[j]? with
  | none => rw [H.none_get q] at e; cases e
  | some v =>
    obtain ⟨u', e', x⟩ := H.get q
    exact ⟨v, rfl, Option.some.inj (e'.symm.trans e) ▸ x⟩
inductive FqI (D : Ad) (adr : List Addr) (h : Heap) (n : Nat) : MV → MV → Bool → Value → Value → Prop
  | nn : FqI D adr h n .none .none true .none .none
  | ni (i : Int) (t : Tok) : FqI D adr h n .none (.int i) false .none (.int i t)
  | inn (i : Int) (t : Tok) : FqI D adr h n (.int i) .none false (.int i t) .none
  | bb (p q : Bool) : FqI D adr h n (.bool p) (.bool q) (p == q) (.bool p) (.bool q)
  | ii (i j : Int) (t t' : Tok) : FqI D adr h n (.int i) (.int j) (decide (i = j)) (.int i t) (.int j t')
  | ss {z z' : Str} (t t' : Tok) (ok : okS z) (ok' : okS z') : FqI D adr h n (.str (code z)) (.str (code z')) (Nat.beq (code z) (code z')) (.str z t) (.str z' t')
  | tt {vs vs' : List MV} {a a' : Addr} {ws ws' : Array Value} {b : Bool} (ht : h.IsTuple a ws) (ht' : h.IsTuple a' ws') (hv : VRs D adr h vs ws.toList) (hv' : VRs D adr h vs' ws'.toList) (e : feqL (feq n) vs vs' = some b) : FqI D adr h n (.tup vs) (.tup vs') b (.ref a) (.ref a')
theorem fq_inv {n : Nat} {v v' : MV} {b : Bool} {u u' : Value} {h : Heap} (e : feq (n + 1) v v' = some b) (x : VR D adr h v u) (y : VR D adr h v' u') : FqI D adr h n v v' b u u' := by
  replace x := x.inv
  replace y := y.inv
  cases v with
  | none =>
    obtain rfl : u = .none := x
    cases v' with
    | none => obtain rfl : u' = .none := y; exact sm (C := fun b => FqI D adr h n _ _ b _ _) e.symm .nn
    | int i => obtain ⟨t, rfl⟩ := y; exact sm (C := fun b => FqI D adr h n _ _ b _ _) e.symm (.ni i t)
    | _ => cases e
  | bool p =>
    obtain rfl : u = .bool p := x
    cases v' with
    | bool q => obtain rfl : u' = .bool q := y; exact sm (C := fun b => FqI D adr h n _ _ b _ _) e.symm (.bb p q)
    | _ => cases e
  | int i =>
    obtain ⟨t, rfl⟩ := x
    cases v' with
    | none => obtain rfl : u' = .none := y; exact sm (C := fun b => FqI D adr h n _ _ b _ _) e.symm (.inn i t)
    | int j => obtain ⟨t', rfl⟩ := y; exact sm (C := fun b => FqI D adr h n _ _ b _ _) e.symm (.ii i j t t')
    | _ => cases e
  | str m =>
    obtain ⟨z, t, ok, rfl, rfl⟩ := x
    cases v' with
    | str m' => obtain ⟨z', t', ok', rfl, rfl⟩ := y; exact sm (C := fun b => FqI D adr h n _ _ b _ _) e.symm (.ss t t' ok ok')
    | _ => cases e
  | tup vs =>
    obtain ⟨a, ws, rfl, ht, hv⟩ := x
    cases v' with
    | tup vs' => obtain ⟨a', ws', rfl, ht', hv'⟩ := y; exact .tt ht ht' hv hv' e
    | _ => cases e
  | _ => cases e
theorem feq_same : ∀ (n : Nat) {v v' : MV} {b : Bool} {u : Value} {h : Heap}, feq n v v' = some b → VR D adr h v u → VR D adr h v' u → b = true
  | 0, _, _, _, _, _, e, _, _ => nomatch e
  | n + 1, v, v', b, u, h, e, x, y => by
    have key : ∀ {u u' : Value}, FqI D adr h n v v' b u u' → u = u' → b = true := by
      intro u u' z q
      cases z with
      | nn => rfl
      | ni => cases q
      | inn => cases q
      | bb p p' => injection q with q; subst q; exact beq_self_eq_true p
      | ii => injection q with q; exact decide_eq_true q
      | ss => injection q with q; subst q; exact Nat.beq_refl _
      | @tt vs vs' a a' ws ws' _ ht ht' hv hv' e =>
        injection q with q
        subst q
        obtain rfl := tuple_same ht ht'
        obtain ⟨f, hf, hb⟩ := feqL_at e
        rw [hb, hv.length, hv'.length, Nat.min_self, beq_self_eq_true, Bool.and_true, List.all_eq_true]
        intro j hj
        rw [List.mem_range] at hj
        obtain ⟨v1, e1, x1⟩ := hv.at (List.getElem?_eq_getElem hj)
        obtain ⟨v2, e2, x2⟩ := hv'.at (List.getElem?_eq_getElem hj)
        exact feq_same n (hf j v1 v2 e1 e2) x1 x2
    exact key (fq_inv e x y) rfl
theorem items_at {f : MV → MV → Option Bool} {vs vs' : List MV} {ws ws' : Array Value} {e : Nat → Bool} (hv : VRs D adr s.heap vs ws.toList) (hv' : VRs D adr s.heap vs' ws'.toList)
    (hf : ∀ j v u, vs[j]? = some v → vs'[j]? = some u → f v u = some (e j)) (ih : ∀ {v v' : MV} {b : Bool} {u u' : Value}, f v v' = some b → VR D adr s.heap v u → VR D adr s.heap v' u' → EqAt A s u u' b) :
    ∀ j (h1 : j < ws.size) (h2 : j < ws'.size), EqAt A s ws[j] ws'[j] (e j) := by
  intro j h1 h2
  obtain ⟨v1, e1, x1⟩ := hv.at (j := j) (u := ws[j]) (by rw [Array.getElem?_toList, Array.getElem?_eq_getElem h1])
  obtain ⟨v2, e2, x2⟩ := hv'.at (j := j) (u := ws'[j]) (by rw [Array.getElem?_toList, Array.getElem?_eq_getElem h2])
  exact ih (hf j v1 v2 e1 e2) x1 x2
theorem feq_ok : ∀ (n : Nat) {A : Around} {v v' : MV} {b : Bool} {u u' : Value}, feq n v v' = some b → VR D adr s.heap v u → VR D adr s.heap v' u' → A.units + n < cLine → EqAt A s u u' b
  | 0, _, _, _, _, _, _, e, _, _, _ => by cases e
  | n + 1, A, v, v', b, u, u', e, x, y, hu => by
    cases fq_inv e x y with
    | nn => exact EqAt.same _
    | ni i t => exact EqAt.none_int i t
    | inn i t => exact EqAt.int_none i t
    | bb p q => exact EqAt.bool_bool p q
    | ii i j t t' => have := EqAt.int_int (A := A) (s := s) i t j t'; simpa [BEq.beq] using this
    | @ss z z' t t' ok ok' =>
      have := EqAt.str_str (A := A) (s := s) z t z' t'
      rw [code_beq ok ok'] at this
      exact this
    | @tt vs vs' a a' ws ws' b ht ht' hv hv' e' =>
      by_cases ha : a = a'
      · subst ha
        rw [feq_same _ e x y]
        exact EqAt.same _
      · obtain ⟨f, hf, hb⟩ := feqL_at e'
        refine EqAt.of_refs ha ?_
        rw [hb, hv.length, hv'.length]
        have := RcAt.tuples (A := A) (s := s) (e := f) ht ht' (by omega) (items_at hv hv' hf fun q1 q2 q3 => feq_ok n q1 q2 q3 (by show A.units + 1 + n < cLine; omega))
        simpa using this
end
end Mn
end
section
set_option maxRecDepth 100000
namespace Mn
open PySem PySem.W PyProof.Rows PySem.Calls SeqAt
section
variable {prog : Program} {w : World} {B : Heap} {D : Ad} {adr : List Addr} {H : MH} {A : Around} {s : Shared}
theorem keyEq_S {k : MV} {z s : Str} (hk : SK k z) (hs : okS s) : keyEq k (.str (code s)) = decide (z = s) := by
  obtain ⟨ok, rfl⟩ := hk
  show Nat.beq (code z) (code s) = _
  rw [← code_beq ok hs]
  by_cases h : z = s <;> simp [h]
theorem keyEq_I {k : MV} {i j : Int} (hk : IK k i) : keyEq k (.int j) = decide (i = j) := by
  subst hk
  rfl
theorem dGet_at {α : Type} [DecidableEq α] {R : MV → α → Prop} {q : MV} {a : α} (hq : ∀ k b, R k b → keyEq k q = decide (b = a)) {h : Heap} {es : List (MV × MV)} {kvs : List (α × Value)} (x : ER D adr h R es kvs) :
    (∀ v, dGet q es = some v → ∃ u, valueAt kvs a = some u ∧ VR D adr h v u) ∧ (dGet q es = none → valueAt kvs a = none) := by
  induction x with
  | nil => exact ⟨fun v e => (nomatch e), fun _ => rfl⟩
  | @cons k v b u es kvs hk hv hs ih =>
    have e1 : dGet q ((k, v) :: es) = if decide (b = a) = true then some v else dGet q es := by rw [← hq k b hk]; rfl
    have e2 : valueAt ((b, u) :: kvs) a = if decide (b = a) = true then some u else valueAt kvs a := by
      unfold valueAt
      rw [List.find?_cons]
      cases decide (b = a) <;> rfl
    rw [e1, e2]
    cases decide (b = a) with
    | true => exact ⟨fun v e => ⟨u, rfl, Option.some.inj e ▸ hv⟩, fun e => (nomatch e)⟩
    | false => exact ih
theorem ER.length {α : Type} {R : MV → α → Prop} {h : Heap} {es : List (MV × MV)} {kvs : List (α × Value)} (x : ER D adr h R es kvs) : es.length = kvs.length := by
  induction x with
  | nil => rfl
  | cons _ _ _ ih => exact congrArg Nat.succ ih
theorem stored_c {α : Type} [DecidableEq α] (b a : α) (u' u : Value) (kvs : List (α × Value)) (hn : b ∉ kvs.map (·.1)) : stored ((b, u') :: kvs) a u = if decide (b = a) = true then (b, u) :: kvs else (b, u') :: stored kvs a u := by
  unfold stored
  by_cases h : b = a
  · subst h
    have : (kvs.map fun kv => if kv.1 = b then (kv.1, u) else kv) = kvs := map_store_of_not_mem kvs b u hn
    simp only [List.any_cons, List.map_cons, decide_true, if_true, Bool.true_or, this]
  · simp only [List.any_cons, List.map_cons, h, decide_false, Bool.false_or, if_false, Bool.false_eq_true]
    split <;> rfl
theorem dPut_at {α : Type} [DecidableEq α] {R : MV → α → Prop} {q v : MV} {a : α} {u : Value} (hR : R q a) (hq : ∀ k b, R k b → keyEq k q = decide (b = a)) {h : Heap} (hv : VR D adr h v u)
    {es : List (MV × MV)} {kvs : List (α × Value)} (x : ER D adr h R es kvs) : (kvs.map (·.1)).Nodup → ER D adr h R (dPut q v es) (stored kvs a u) := by
  induction x with
  | nil => exact fun _ => .cons hR hv .nil
  | @cons k v' b u' es kvs hk hv' hs ih =>
    intro hn
    rw [List.map_cons, List.nodup_cons] at hn
    have e1 : dPut q v ((k, v') :: es) = if decide (b = a) = true then (k, v) :: es else (k, v') :: dPut q v es := by rw [← hq k b hk]; rfl
    rw [e1, stored_c b a u' u kvs hn.1]
    cases decide (b = a) with
    | true => exact .cons hk hv hs
    | false => exact .cons hk hv' (ih hn.2)
theorem empty_kinds {h : Heap} {a : Addr} {α β : Type} [DecidableEq α] [DecidableEq β] {k1 : KeyKind prog w α} {k2 : KeyKind prog w β} (x : h.DictOf k1 a []) : h.DictOf k2 a [] := by
  obtain ⟨o, es, ep, e, hx, hd, hk, hp, _⟩ := x
  have : es.toList = [] := by cases hp' : es.toList with | nil => rfl | cons y l => rw [hp'] at hp; cases hp
  obtain rfl : es = #[] := Array.ext' this
  exact ⟨o, #[], ep, e, hx, hd, fun _ he => by simp at he, Pairs.nil, List.nodup_nil⟩
theorem SK_eq {k : MV} {a : Str} (h : SK k a) : ∀ k' b, SK k' b → keyEq k' k = decide (b = a) := fun k' b h' => by
  obtain ⟨ok, rfl⟩ := h
  exact keyEq_S h' ok
noncomputable def RC (A : Around) (s : Shared) (u u' : Value) (b : Bool) : Prop := RcAt A s u u' b ∧ RcNeAt A s u u' (!b)
theorem feq_rc {n : Nat} {v v' : MV} {b : Bool} {u u' : Value} (e : feq (n + 1) v v' = some b) (x : VR D adr s.heap v u) (y : VR D adr s.heap v' u') (hu : A.units + n + 1 < cLine) : RC A s u u' b := by
  cases fq_inv e x y with
  | nn => exact ⟨RcAt.none_none, RcNeAt.none_none⟩
  | ni i t => exact ⟨RcAt.none_int i t, RcNeAt.none_int i t⟩
  | inn i t => exact ⟨RcAt.int_none i t, RcNeAt.int_none i t⟩
  | bb p q => exact ⟨RcAt.bool_bool p q, RcNeAt.bool_bool p q⟩
  | ii i j t t' =>
    have h1 := RcAt.int_int (A := A) (s := s) i t j t'
    have h2 := RcNeAt.int_int (A := A) (s := s) i t j t'
    exact ⟨by simpa [BEq.beq] using h1, by simpa [BEq.beq] using h2⟩
  | @ss z z' t t' ok ok' =>
    have h1 := RcAt.str_str (A := A) (s := s) z t z' t'
    have h2 := RcNeAt.str_str (A := A) (s := s) z t z' t'
    rw [code_beq ok ok'] at h1 h2
    exact ⟨h1, h2⟩
  | @tt vs vs' a a' ws ws' b ht ht' hv hv' e' =>
    obtain ⟨f, hf, hb⟩ := feqL_at e'
    have items := items_at (A := A.in1) hv hv' hf fun q1 q2 q3 => feq_ok n q1 q2 q3 (by show A.units + 1 + n < cLine; omega)
    have h1 := RcAt.tuples (A := A) (s := s) (e := f) ht ht' (by omega) items
    have h2 := RcNeAt.tuples (A := A) (s := s) (e := f) ht ht' (by omega) items
    rw [hb, hv.length, hv'.length]
    exact ⟨by simpa using h1, by simpa using h2⟩
theorem sizes {h : Heap} {vs vs' : List MV} {ws ws' : Array Value} (hv : VRs D adr h vs ws.toList) (hv' : VRs D adr h vs' ws'.toList) : vs.length = ws.size ∧ vs'.length = ws'.size :=
  ⟨hv.length.trans Array.length_toList, hv'.length.trans Array.length_toList⟩
theorem lists_rc {vs vs' : List MV} {a a' : Addr} {ws ws' : Array Value} {b : Bool} (ht : s.heap.IsList a ws) (ht' : s.heap.IsList a' ws') (hv : VRs D adr s.heap vs ws.toList) (hv' : VRs D adr s.heap vs' ws'.toList)
    (e : (if vs.length = vs'.length then feqL (feq 6) vs vs' else some false) = some b) (hu : A.units + 8 < cLine) : RC A s (.ref a) (.ref a') b := by
  obtain ⟨h1, h2⟩ := sizes hv hv'
  by_cases hl : vs.length = vs'.length
  · rw [if_pos hl] at e
    obtain ⟨f, hf, hb⟩ := feqL_at e
    have items := items_at (A := A.in1) hv hv' hf fun q1 q2 q3 => feq_ok 6 q1 q2 q3 (Nat.lt_of_le_of_lt (Nat.le_of_eq (Nat.add_assoc A.units 1 6)) (Nat.lt_of_succ_lt hu))
    have hs : ws.size = ws'.size := h1.symm.trans (hl.trans h2)
    rw [hb, hl, Nat.min_self, beq_self_eq_true, Bool.and_true, h2, ← hs]
    exact ⟨RcAt.lists ht ht' hs (by omega) items, RcNeAt.lists ht ht' hs (by omega) items⟩
  · rw [if_neg hl] at e
    have hs : (ws.size != ws'.size) = true := bne_iff_ne.mpr fun q => hl (h1.trans (q.trans h2.symm))
    exact sm (C := fun b => RC A s (.ref a) (.ref a') b) e.symm ⟨RcAt.lists_lengths ht ht' hs (by omega), RcNeAt.lists_lengths ht ht' hs (by omega)⟩
theorem SR.vref (S : SR prog w B D adr H s.heap) {k : Nat} {o : MO} {u : Value} (e : H.get k = some o) (x : VR D adr s.heap (.ref k) u) : ∃ a, u = .ref a ∧ adr[k]? = some a ∧ OR prog w B D adr s.heap o a := by
  obtain ⟨a, rfl, ha⟩ := x.inv
  obtain ⟨a', ha', O⟩ := S.obj k o e
  exact ⟨a, rfl, ha, Option.some.inj (ha'.symm.trans ha) ▸ O⟩
theorem OR.listE {vs : List MV} {a : Addr} (O : OR prog w B D adr s.heap (.list vs) a) : ∃ ws, s.heap.PlainList a ws ∧ VRs D adr s.heap vs ws.toList ∧ Off B a := O.inv
theorem OR.frzE {vs : List MV} {a : Addr} (O : OR prog w B D adr s.heap (.frz vs) a) : ∃ ws, s.heap.IsList a ws ∧ VRs D adr s.heap vs ws.toList := O.inv
theorem OR.instE {c d : Nat} {a : Addr} (O : OR prog w B D adr s.heap (.inst c d) a) : ∃ dx, adr[d]? = some dx ∧ s.heap.get? a = some (instObj (D.ca c) dx) := O.inv
theorem not_sm {a : Addr} (hb : Off B a) : (a == sysModules) = false := beq_eq_false_iff_ne.mpr hb.2
theorem RC.both {u u' : Value} {b : Bool} (r : RC A s u u' b) {E : Value → Shared → Prop} {Q : Value → Shared → Prop} :
    (Q (.bool b) s → wpAny (model prog w) A (compareOp .Eq u u') Q E s) ∧ (Q (.bool (!b)) s → wpAny (model prog w) A (compareOp .NotEq u u') Q E s) := ⟨r.1 prog w E Q, r.2 prog w E Q⟩
theorem kl2_inv {u : List MV} {o : MO} {b : Bool} (e : kl2 u o = some b) : ∃ v, o = .list v ∧ (if u.length = v.length then feqL (feq 6) u v else some false) = some b := by
  cases o with
  | list v => exact ⟨v, rfl, e⟩
  | _ => cases e
theorem kl1_inv {k : Nat} {o : MO} {b : Bool} (e : kl1 H k o = some b) : ∃ u, (∀ {a : Addr}, OR prog w B D adr s.heap o a → ∃ ws, s.heap.IsList a ws ∧ VRs D adr s.heap u ws.toList) ∧ (H.get k).bind (kl2 u) = some b := by
  cases o with
  | list u => exact ⟨u, fun O => by obtain ⟨ws, h, x, _⟩ := O.listE; exact ⟨ws, h.isList, x⟩, e⟩
  | frz u => exact ⟨u, fun O => O.frzE, e⟩
  | _ => cases e
theorem leq_inv {v v' : MV} {b : Bool} (e : leq H v v' = some b) : (∃ k k', v = .ref k ∧ v' = .ref k' ∧ k ≠ k' ∧ (H.get k).bind (kl1 H k') = some b) ∨ feq 6 v v' = some b := by
  cases v with
  | ref k =>
    cases v' with
    | ref k' =>
      have e : (if k = k' then none else (H.get k).bind (kl1 H k')) = some b := e
      by_cases h : k = k'
      · rw [if_pos h] at e; cases e
      · rw [if_neg h] at e; exact .inl ⟨k, k', rfl, rfl, h, e⟩
    | _ => cases e
  | _ => exact .inr e
theorem refs_rc (S : SR prog w B D adr H s.heap) {k k' : Nat} {b : Bool} {u u' : Value} (hne : k ≠ k') (e : (H.get k).bind (kl1 H k') = some b) (x : VR D adr s.heap (.ref k) u) (y : VR D adr s.heap (.ref k') u') (hu : A.units + 8 < cLine) : ∃ a a', u = .ref a ∧ u' = .ref a' ∧ a ≠ a' ∧ RC A s (.ref a) (.ref a') b := by
  refine bnd e fun o e1 e => ?_
  obtain ⟨l, hO, e⟩ := kl1_inv (prog := prog) (w := w) (B := B) (D := D) (adr := adr) (s := s) e
  refine bnd e fun o' e2 e => ?_
  obtain ⟨l', rfl, e⟩ := kl2_inv e
  obtain ⟨a, rfl, ha, O⟩ := S.vref e1 x
  obtain ⟨a', rfl, ha', O'⟩ := S.vref e2 y
  obtain ⟨ws, hl, hv⟩ := hO O
  obtain ⟨ws', hl', hv', _⟩ := O'.listE
  exact ⟨a, a', rfl, rfl, fun q => hne (nodup_idx S.nd ha (q ▸ ha')), lists_rc hl hl'.isList hv hv' e hu⟩
theorem leq_at (S : SR prog w B D adr H s.heap) {v v' : MV} {b : Bool} {u u' : Value} (e : leq H v v' = some b) (x : VR D adr s.heap v u) (y : VR D adr s.heap v' u') (hu : A.units + 8 < cLine) : EqAt A s u u' b := by
  rcases leq_inv e with ⟨k, k', rfl, rfl, hne, e⟩ | e
  · obtain ⟨a, a', rfl, rfl, h, r⟩ := refs_rc S hne e x y hu
    exact EqAt.of_refs h r.1
  · exact feq_ok 6 e x y (by omega)
theorem leq_rc (S : SR prog w B D adr H s.heap) {v v' : MV} {b : Bool} {u u' : Value} (e : leq H v v' = some b) (x : VR D adr s.heap v u) (y : VR D adr s.heap v' u') (hu : A.units + 8 < cLine) : RC A s u u' b := by
  rcases leq_inv e with ⟨k, k', rfl, rfl, hne, e⟩ | e
  · obtain ⟨a, a', rfl, rfl, h, r⟩ := refs_rc S hne e x y hu
    exact r
  · exact feq_rc (n := 5) e x y (by omega)
theorem meq_inv {v v' : MV} {b : Bool} (e : meq H v v' = some b) : (∃ vs, v = .tup vs ∧ ((asTup v').bind fun b => feqL (leq H) vs b) = some b) ∨ leq H v v' = some b := by
  cases v with
  | tup vs => exact .inl ⟨vs, rfl, e⟩
  | _ => exact .inr e
theorem meq_ok (S : SR prog w B D adr H s.heap) {v v' : MV} {b : Bool} {u u' : Value} (e : meq H v v' = some b) (x : VR D adr s.heap v u) (y : VR D adr s.heap v' u') (hu : A.units + 12 < cLine) : RC A s u u' b := by
  rcases meq_inv e with ⟨vs, rfl, e⟩ | e
  · refine bnd e fun vs' e1 e => ?_
    rw [asTup_inv e1] at y
    obtain ⟨a, ws, rfl, ht, hv⟩ := x.inv
    obtain ⟨a', ws', rfl, ht', hv'⟩ := y.inv
    obtain ⟨f, hf, hb⟩ := feqL_at e
    have items := items_at (A := A.in1) hv hv' hf fun q1 q2 q3 => leq_at S q1 q2 q3 (by show A.units + 1 + 8 < cLine; omega)
    have h1 := RcAt.tuples (A := A) (s := s) (e := f) ht ht' (by omega) items
    have h2 := RcNeAt.tuples (A := A) (s := s) (e := f) ht ht' (by omega) items
    rw [hb, hv.length, hv'.length]
    exact ⟨by simpa using h1, by simpa using h2⟩
  · exact leq_rc S e x y (by omega)
end
end Mn
end
section
set_option maxRecDepth 100000
namespace Mn
open PySem PySem.W PyProof.Rows PySem.Calls SeqAt
noncomputable def PX (prog : Program) (w : World) (B : Heap) (D : Ad) (adr : List Addr) (env : Env) (ρ : Loc) (s : Shared) (v : MV) (H' : MH) (Q : Value → Shared → Prop) : Prop :=
  ∀ adr' h' t u, Tn adr env s.heap adr' h' → St prog w B D adr' H' ρ env h' → VR D adr' h' v u → Q u ⟨h', s.gens, s.drawn, t, s.os⟩
section
variable {prog : Program} {w : World} {B : Heap} {D : Ad} {adr : List Addr} {H H' : MH} {A : Around} {E : Value → Shared → Prop} {s : Shared} {env : Env} {ρ : Loc} {Q : Value → Shared → Prop}
theorem PX.here {v : MV} (P : PX prog w B D adr env ρ s v H Q) (S : St prog w B D adr H ρ env s.heap) (t : Nat) {u : Value} (x : VR D adr s.heap v u) : Q u ⟨s.heap, s.gens, s.drawn, t, s.os⟩ :=
  P adr s.heap t u (.refl ..) S x
theorem PX.push {v : MV} (P : PX prog w B D adr env ρ s v H Q) (S : St prog w B D adr H ρ env s.heap) (t : Nat) {u : Value} {o : Obj} (x : VR D adr (s.heap.push o) v u) : Q u ⟨s.heap.push o, s.gens, s.drawn, t, s.os⟩ :=
  P adr _ t u (.grown (fun _ _ e => Heap.get?_push_of_some _ e)) (S.grown (fun _ _ e => Heap.get?_push_of_some _ e)) x
theorem keep_push {h : Heap} {o : Obj} : ∀ b ob, h.get? b = some ob → (h.push o).get? b = some ob := fun _ _ e => Heap.get?_push_of_some _ e
theorem none_size {h : Heap} : h.get? h.objs.size = none := Heap.get?_none_of_le (Nat.le_refl _)
theorem off_le {h : Heap} {a : Addr} (S : SR prog w B D adr H h) (ha : h.objs.size ≤ a) : Off B a := by
  obtain ⟨o, ho⟩ := S.st
  have h1 := Heap.lt_size (S.base _ _ ho)
  have h2 : sysModules < cStatics := by decide
  refine ⟨?_, Nat.ne_of_gt (Nat.lt_of_lt_of_le (Nat.lt_trans h2 h1) ha)⟩
  cases q : B.get? a with
  | none => rfl
  | some o => exact absurd (Heap.lt_size (S.base _ o q)) (Nat.not_lt_of_le ha)
theorem new_none (S : SR prog w B D adr H s.heap) : Off B s.heap.objs.size := off_le S (Nat.le_refl _)
theorem PX.of {v v' : MV} {H0 : MH} (e : some (v', H0) = some (v, H')) (P : PX prog w B D adr env ρ s v H' Q) : PX prog w B D adr env ρ s v' H0 Q := by
  cases e
  exact P
theorem PX.list {vs : List MV} {ws : Array Value} {v : MV} (hn : newL H vs = some (v, H')) (P : PX prog w B D adr env ρ s v H' Q) (S : St prog w B D adr H ρ env s.heap) (x : VRs D adr s.heap vs ws.toList) (t : Nat) :
    ws.size ≤ sizeLine ∧ Q (.ref s.heap.objs.size) ⟨s.heap.push { cls := .type "list", data := .seq ws }, s.gens, s.drawn, t, s.os⟩ := by
  refine gd hn fun hz hn => ?_
  have hp : adr <+: adr ++ [s.heap.objs.size] := List.prefix_append ..
  exact ⟨Nat.le_trans (Nat.le_of_eq (x.length.trans Array.length_toList).symm) (Nat.le_trans hz (by decide)),
    P.of hn _ _ _ _ (Tn.made keep_push none_size) (S.made keep_push none_size (.list vs _ ws ⟨0, Heap.get?_push_size _ rfl⟩ (x.mono hp (.of_keep keep_push)) (new_none S.sr))) (.ref _ _ (by rw [← S.sr.len]; simp))⟩
theorem PX.tuple {vs : List MV} {ws : Array Value} (P : PX prog w B D adr env ρ s (.tup vs) H Q) (S : St prog w B D adr H ρ env s.heap) (x : VRs D adr s.heap vs ws.toList) (t : Nat) :
    Q (.ref s.heap.objs.size) ⟨s.heap.push { cls := .type "tuple", data := .seq ws }, s.gens, s.drawn, t, s.os⟩ :=
  P.push S t (.tup vs _ ws ⟨_, Heap.get?_push_size _ rfl, rfl, 0, rfl⟩ (x.mono (List.prefix_refl _) (.of_keep keep_push)))
theorem intOp_ok {op : Op} {o : Operator} {i j r : Int} (e : intOp op i j = some r) (ho : trOp o = some op) {t u : Tok} (h : ∀ tk, Q (.int r tk) ⟨s.heap, s.gens, s.drawn, tk + 1, s.os⟩) :
    wpAny (model prog w) A (binaryOp o (.int i t) (.int j u)) Q E s := by
  have k : ∀ {r'}, some r' = some r → ∀ tk, Q (.int r' tk) ⟨s.heap, s.gens, s.drawn, tk + 1, s.os⟩ := fun q => by rw [Option.some.inj q]; exact h
  cases o with
  | Add => cases ho; exact add_int (k e _)
  | Sub => cases ho; exact sub_int (k e _)
  | Mult => cases ho; exact gd e fun hz e => mul_int (k e _) (IntMulOk.of_left (intBits_le_64 (by omega) (by omega)))
  | Mod =>
    cases ho
    by_cases hz : j = 0
    · rw [intOp, if_pos hz] at e; cases e
    · rw [intOp, if_neg hz] at e
      exact mod_int hz (k e _)
  | LShift => cases ho; exact gd e fun hz e => lshift_int_small hz.1 (by omega) (by omega) (k e _)
  | FloorDiv =>
    cases ho
    by_cases hz : j = 0 ∨ j.natAbs ≥ 2 ^ 30
    · rw [intOp, if_pos hz] at e; cases e
    · rw [intOp, if_neg hz] at e
      exact floordiv_int (fun q => hz (.inl q)) (k e _) (.inl (PyProof.noPylong_small (by omega)))
  | _ => cases ho
theorem numOf_ok {v : MV} {u : Value} {i : Int} {h : Heap} (x : VR D adr h v u) (e : numOf v = some i) : (∃ t, u = .int i t) ∨ ∃ b, u = .bool b ∧ i = b2i b := by
  replace x := x.inv
  cases v with
  | int j => rw [← Option.some.inj e]; exact .inl x
  | bool b => rw [← Option.some.inj e]; exact .inr ⟨b, x, by cases b <;> rfl⟩
  | _ => cases e
theorem listAt_ok (S : SR prog w B D adr H s.heap) {v : MV} {vs : List MV} {u : Value} (e : listAt H v = some vs) (x : VR D adr s.heap v u) : ∃ k a ws, v = .ref k ∧ u = .ref a ∧ adr[k]? = some a ∧ s.heap.IsList a ws ∧ VRs D adr s.heap vs ws.toList := by
  cases v with
  | ref k =>
    refine bnd e fun o e1 e => ?_
    obtain ⟨a, rfl, ha, O⟩ := S.vref e1 x
    cases o with
    | list l =>
      obtain ⟨ws, hl, hv, _⟩ := O.listE
      exact ⟨k, a, ws, rfl, rfl, ha, hl.isList, Option.some.inj e ▸ hv⟩
    | frz l =>
      obtain ⟨ws, hl, hv⟩ := O.frzE
      exact ⟨k, a, ws, rfl, rfl, ha, hl, Option.some.inj e ▸ hv⟩
    | _ => cases e
  | _ => cases e
theorem list_concat {l b : Addr} {its its2 : Array Value} (hl : s.heap.IsList l its) (hb : s.heap.IsList b its2) (hz : its.size + its2.size ≤ sizeLine)
    (h : Q (.ref s.heap.objs.size) ⟨s.heap.push { cls := .type "list", data := .seq (its.toList ++ its2.toList).toArray }, s.gens, s.drawn, s.toks, s.os⟩) :
    wpAny (model prog w) A (binaryOp .Add (.ref l) (.ref b)) Q E s := by
  obtain ⟨⟨cls, dd, data, sl⟩, ho, rfl, n, rfl⟩ := id hl
  obtain ⟨⟨cls2, dd2, data2, sl2⟩, ho2, rfl, n2, rfl⟩ := id hb
  have e : its ++ its2 = (its.toList ++ its2.toList).toArray := by simp
  exact concat_meets ⟨_, ho, rfl⟩ ⟨_, ho2, rfl⟩ noFill_list_add seq_list_add PySem.F.slot_list_add PySem.F.entry_list_add (PySem.F.args_list_add_2 _ _) (list_addW l b its its2 n n2 dd dd2 sl sl2 hz) ⟨ho, ho2, by rw [e]; exact h⟩
theorem op_add {o : Operator} (ho : trOp o = some .add) : o = .Add := by cases o <;> first | rfl | cases ho
theorem op_sub {o : Operator} (ho : trOp o = some .sub) : o = .Sub := by cases o <;> first | rfl | cases ho
theorem subB_ok {o : Operator} {a b v : MV} {ua ub : Value} (e : subB H a b = some (v, H')) (ho : trOp o = some .sub) (S : St prog w B D adr H ρ env s.heap)
    (xa : VR D adr s.heap a ua) (xb : VR D adr s.heap b ub) (P : PX prog w B D adr env ρ s v H' Q) : wpAny (model prog w) A (binaryOp o ua ub) Q E s := by
  obtain rfl := op_sub ho
  refine bnd e fun i e1 e => bnd e fun j e2 e => ?_
  have P := P.of e
  rcases numOf_ok xa e1 with ⟨t, rfl⟩ | ⟨p, rfl, rfl⟩
  · rcases numOf_ok xb e2 with ⟨t', rfl⟩ | ⟨q, rfl, rfl⟩
    · exact sub_int (P.here S _ (.int _ _))
    · exact IntBool.sub_int_bool (P.here S _ (.int _ _))
  · rcases numOf_ok xb e2 with ⟨t', rfl⟩ | ⟨q, rfl, rfl⟩
    · exact IntBool.sub_bool_int (P.here S _ (.int _ _))
    · exact sub_bool (P.here S _ (.int _ _))
theorem ifs {c : Prop} [Decidable c] {α : Type} {o : Option α} {r : α} (e : (if c then o else none) = some r) : c ∧ o = some r := gd e fun h e => ⟨h, e⟩
theorem binop_ok {op : Op} {o : Operator} {a b v : MV} {ua ub : Value} (e : binop op a b H = some (v, H')) (ho : trOp o = some op) (S : St prog w B D adr H ρ env s.heap)
    (xa : VR D adr s.heap a ua) (xb : VR D adr s.heap b ub) (P : PX prog w B D adr env ρ s v H' Q) : wpAny (model prog w) A (binaryOp o ua ub) Q E s := by
  have sub : ∀ {a b}, (if op = .sub then subB H a b else none) = some (v, H') → VR D adr s.heap a ua → VR D adr s.heap b ub → wpAny (model prog w) A (binaryOp o ua ub) Q E s :=
    fun e xa xb => gd e fun h e => subB_ok e (h ▸ ho) S xa xb P
  cases a with
  | ref i =>
    cases b with
    | ref j =>
      obtain ⟨rfl, e⟩ := ifs (show (if op = .add then (listAt H (.ref i)).bind (kad H j) else none) = some (v, H') from e)
      obtain rfl := op_add ho
      refine bnd e fun us e1 e => bnd e fun vs e2 e => ?_
      obtain ⟨k, a, ws, _, rfl, _, hl, hv⟩ := listAt_ok S.sr e1 xa
      obtain ⟨k', b, ws', _, rfl, _, hl', hv'⟩ := listAt_ok S.sr e2 xb
      have P' := P.list (ws := (ws.toList ++ ws'.toList).toArray) e S (hv.append hv') s.toks
      exact list_concat hl hl' (by simpa using P'.1) P'.2
    | _ => cases e
  | int i =>
    cases b with
    | int j =>
      refine bnd e fun r e1 e => ?_
      obtain ⟨t, rfl⟩ := xa.inv
      obtain ⟨t', rfl⟩ := xb.inv
      exact intOp_ok e1 ho fun tk => (P.of e).here S _ (.int _ _)
    | _ => exact sub e xa xb
  | _ => exact sub e xa xb
end
end Mn
end
section
set_option maxRecDepth 100000
namespace Mn
open PySem PySem.W PyProof.Rows PySem.Calls SeqAt
section
variable {prog : Program} {w : World} {B : Heap} {D : Ad} {adr : List Addr} {H H' : MH} {A : Around} {E : Value → Shared → Prop} {s : Shared} {env : Env} {ρ : Loc} {Q : Value → Shared → Prop}
theorem kind_miss {es : List (MV × MV)} {α : Type} {R : MV → α → Prop} {h : Heap} {kvs : List (α × Value)} {k : MV} (hR : ∀ k' b, R k' b → sameKind k k' = false) (hk : okKey k es = true) (he : ER D adr h R es kvs) : es = [] := by
  cases he with
  | nil => rfl
  | cons h1 _ _ =>
    exfalso
    unfold okKey at hk
    rw [List.all_cons, hR _ _ h1, Bool.false_and, Bool.and_false] at hk
    cases hk
theorem dict_S {es : List (MV × MV)} {a : Addr} (O : OR prog w B D adr s.heap (.dict es) a) (n : Nat) (hk : okKey (.str n) es = true) :
    ∃ kvs, s.heap.DictOf (strKind prog w) a kvs ∧ ER D adr s.heap SK es kvs ∧ Off B a := by
  obtain ⟨⟨kvs, hd, he⟩ | ⟨kvs, hd, he⟩, hb⟩ := O.inv
  · exact ⟨kvs, hd, he, hb⟩
  · obtain rfl := kind_miss (k := .str n) (fun k' b q => by cases q; rfl) hk he
    obtain rfl : kvs = [] := he.inv
    exact ⟨[], empty_kinds hd, .nil, hb⟩
theorem dict_I {es : List (MV × MV)} {a : Addr} (O : OR prog w B D adr s.heap (.dict es) a) (n : Int) (hk : okKey (.int n) es = true) :
    ∃ kvs, s.heap.DictOf (intKind prog w) a kvs ∧ ER D adr s.heap IK es kvs ∧ Off B a := by
  obtain ⟨⟨kvs, hd, he⟩ | ⟨kvs, hd, he⟩, hb⟩ := O.inv
  · obtain rfl := kind_miss (k := .int n) (fun k' b q => by cases q.2; rfl) hk he
    obtain rfl : kvs = [] := he.inv
    exact ⟨[], empty_kinds hd, .nil, hb⟩
  · exact ⟨kvs, hd, he, hb⟩
theorem strIs (z : Str) (t : Tok) : (strKind prog w).is z (.str z t) = true := by simp [PySem.strKind, Value.isStrOf]
theorem intIs (i : Int) (t : Tok) : (intKind prog w).is i (.int i t) = true := intKind_is prog w i t
structure KeyOk (prog : Program) (w : World) (B : Heap) (D : Ad) (adr : List Addr) (h : Heap) (es : List (MV × MV)) (a : Addr) (k : MV) (uk : Value) (α : Type) [DecidableEq α] (knd : KeyKind prog w α) (kvs : List (α × Value)) (q : α) : Prop where
  hd : h.DictOf knd a kvs
  is_ : knd.is q uk = true
  off : Off B a
  len : es.length = kvs.length
  get : ∀ v, dGet k es = some v → ∃ u, valueAt kvs q = some u ∧ VR D adr h v u
  miss : dGet k es = none → valueAt kvs q = none
  put : ∀ v u, VR D adr h v u → ∀ a' h', Off B a' → SoftKeep h h' → h'.DictOf knd a' (stored kvs q u) → OR prog w B D adr h' (.dict (dPut k v es)) a'
theorem key_ok {es : List (MV × MV)} {a : Addr} (O : OR prog w B D adr s.heap (.dict es) a) {k : MV} {uk : Value} (x : VR D adr s.heap k uk) (hk : okKey k es = true) :
    ∃ (α : Type) (_ : DecidableEq α) (knd : KeyKind prog w α) (kvs : List (α × Value)) (q : α), KeyOk prog w B D adr s.heap es a k uk α knd kvs q := by
  replace x := x.inv
  cases k with
  | str n =>
    obtain ⟨z, t, ok, rfl, rfl⟩ := x
    obtain ⟨kvs, hd, he, hb⟩ := dict_S O _ hk
    have hq : ∀ k b, SK k b → keyEq k (.str (code z)) = decide (b = z) := fun k b h => keyEq_S h ok
    have hn := hd
    obtain ⟨_, _, _, _, _, _, _, _, hn⟩ := hn
    exact ⟨Str, inferInstance, _, kvs, z, hd, strIs z t, hb, he.length, (dGet_at hq he).1, (dGet_at hq he).2, fun v u x a' h' hb' sk hd' => .dictS _ _ _ hd' ((dPut_at (R := SK) ⟨ok, rfl⟩ hq x he hn).mono (List.prefix_refl _) sk) hb'⟩
  | int i =>
    obtain ⟨t, rfl⟩ := x
    obtain ⟨kvs, hd, he, hb⟩ := dict_I O _ hk
    have hq : ∀ k b, IK k b → keyEq k (.int i) = decide (b = i) := fun k b h => keyEq_I h
    have hn := hd
    obtain ⟨_, _, _, _, _, _, _, _, hn⟩ := hn
    exact ⟨Int, inferInstance, _, kvs, i, hd, intIs i t, hb, he.length, (dGet_at hq he).1, (dGet_at hq he).2, fun v u x a' h' hb' sk hd' => .dictI _ _ _ hd' ((dPut_at (R := IK) (show IK (.int i) i from rfl) hq x he hn).mono (List.prefix_refl _) sk) hb'⟩
  | _ => cases hk
theorem KeyOk.isSome {es : List (MV × MV)} {a : Addr} {k : MV} {uk : Value} {α : Type} [DecidableEq α] {knd : KeyKind prog w α} {kvs : List (α × Value)} {q : α} (x : KeyOk prog w B D adr s.heap es a k uk α knd kvs q) : (valueAt kvs q).isSome = (dGet k es).isSome := by
  cases h : dGet k es with
  | none => rw [x.miss h]; rfl
  | some v => obtain ⟨u, hu, _⟩ := x.get v h; rw [hu]; rfl
noncomputable def dec : Value → MV
  | .int i _ => .int i
  | .str z _ => .str (code z)
  | _ => .none
theorem feq_key {x v : MV} {b : Bool} {u : Value} {h : Heap} (hx : isKey x = true) (e : feq 6 v x = some b) (y : VR D adr h v u) : dec u = v := by
  replace y := y.inv
  cases v with
  | none => rw [show u = .none from y]; rfl
  | int i => obtain ⟨t, rfl⟩ := y; rfl
  | str n => obtain ⟨z, t, _, rfl, rfl⟩ := y; rfl
  | bool p => cases x <;> first | (cases e; done) | (cases hx; done)
  | tup vs => cases x <;> first | (cases e; done) | (cases hx; done)
  | _ => cases e
theorem any_ok {x : MV} {ux : Value} (hx : isKey x = true) (yx : VR D adr s.heap x ux) (hu : A.units + 10 < cLine) {vs : List MV} {us : List Value} (xs : VRs D adr s.heap vs us) : ∀ c, anyEq x vs = some c →
    (∀ y ∈ us, EqAt A s y ux ((feq 6 (dec y) x).getD false)) ∧ us.any (fun y => (feq 6 (dec y) x).getD false) = c :=
  xs.ind (motive := fun vs us => ∀ c, anyEq x vs = some c → (∀ y ∈ us, EqAt A s y ux ((feq 6 (dec y) x).getD false)) ∧ us.any (fun y => (feq 6 (dec y) x).getD false) = c)
    (fun c e => ⟨fun _ h => (nomatch h), Option.some.inj e⟩) fun v u vs us hv _ ih c e => by
    refine bnd e fun b e1 e => bnd e fun c' e2 e => ?_
    obtain ⟨i1, i2⟩ := ih c' e2
    have d := feq_key hx e1 hv
    refine ⟨fun y hy => ?_, ?_⟩
    · rcases List.mem_cons.mp hy with rfl | hy
      · rw [d, e1]
        exact feq_ok 6 e1 hv yx (by omega)
      · exact i1 y hy
    · rw [List.any_cons, d, e1, i2]
      exact Option.some.inj e
theorem contains_ok (S : SR prog w B D adr H s.heap) {x c : MV} {r : Bool} {ux uc : Value} (e : contains H x c = some r) (xx : VR D adr s.heap x ux) (xc : VR D adr s.heap c uc) (hu : A.units + 12 < cLine) :
    ((∀ t, Q (.bool r) ⟨s.heap, s.gens, s.drawn, t, s.os⟩) → wpAny (model prog w) A (compareOp .In ux uc) Q E s) ∧ ((∀ t, Q (.bool (!r)) ⟨s.heap, s.gens, s.drawn, t, s.os⟩) → wpAny (model prog w) A (compareOp .NotIn ux uc) Q E s) := by
  refine gd e fun hx e => ?_
  cases c with
  | tup vs =>
    obtain ⟨a, ws, rfl, ht, hv⟩ := xc.inv
    obtain ⟨i1, i2⟩ := any_ok (A := A.in1) hx xx (by show A.units + 1 + 10 < cLine; omega) hv _ e
    rw [Array.any_toList] at i2
    rw [← i2]
    exact ⟨fun hQ => in_tupleAt _ ht (fun y hy => i1 y (Array.mem_toList_iff.mpr hy)) (hQ s.toks), fun hQ => notIn_tupleAt _ ht (fun y hy => i1 y (Array.mem_toList_iff.mpr hy)) (hQ s.toks)⟩
  | ref k =>
    refine bnd e fun o e1 e => ?_
    obtain ⟨a, rfl, ha, O⟩ := S.vref e1 xc
    cases o with
    | dict es =>
      refine gd e fun hk e => ?_
      obtain ⟨α, _, knd, kvs, q, K⟩ := key_ok O xx hk
      rw [← Option.some.inj e, ← K.isSome]
      exact ⟨fun hQ => wpAny_in_of K.is_ (not_sm K.off) K.hd.mapOf (hQ _), fun hQ => wpAny_notIn_of K.is_ (not_sm K.off) K.hd.mapOf (hQ _)⟩
    | _ => cases e
  | _ => cases e
theorem none_beq {v : MV} {u : Value} {h : Heap} (x : VR D adr h v u) (hv : noBi v = true) : plainIs u .none = true ∧ (u == Value.none) = isNone v := by
  cases x with
  | bi => cases hv
  | _ => exact ⟨rfl, rfl⟩
theorem isNo_inv {a b : MV} {r : Bool} (e : isNo a b = some r) : b = .none ∧ noBi a = true ∧ isNone a = r := by
  cases b with
  | none => exact gd e fun h e => ⟨rfl, h, Option.some.inj e⟩
  | _ => cases e
theorem int2_ok {f : Int → Int → Bool} {a b : MV} {r : Bool} {ua ub : Value} {h : Heap} (e : int2 f a b = some r) (xa : VR D adr h a ua) (xb : VR D adr h b ub) : ∃ i j t t', ua = .int i t ∧ ub = .int j t' ∧ f i j = r := by
  refine bnd e fun i e1 e => bnd e fun j e2 e => ?_
  obtain ⟨t, rfl⟩ := asInt_vr e1 xa
  obtain ⟨t', rfl⟩ := asInt_vr e2 xb
  exact ⟨i, j, t, t', rfl, rfl, Option.some.inj e⟩
theorem compare_ok {op : Co} {o : CmpOp} {a b : MV} {r : Bool} {ua ub : Value} (e : compare op a b H = some r) (ho : trCo o = some op) (S : SR prog w B D adr H s.heap)
    (xa : VR D adr s.heap a ua) (xb : VR D adr s.heap b ub) (hu : A.units + 12 < cLine) (hQ : ∀ t, Q (.bool r) ⟨s.heap, s.gens, s.drawn, t, s.os⟩) : wpAny (model prog w) A (compareOp o ua ub) Q E s := by
  cases o with
  | Eq => cases ho; exact (meq_ok S e xa xb hu).both.1 (hQ s.toks)
  | NotEq => cases ho; exact bnd e fun x e1 e => (meq_ok S e1 xa xb hu).both.2 (Option.some.inj e ▸ hQ s.toks)
  | Lt => cases ho; obtain ⟨i, j, t, t', rfl, rfl, rfl⟩ := int2_ok e xa xb; exact lt_int (hQ s.toks)
  | LtE => cases ho; obtain ⟨i, j, t, t', rfl, rfl, rfl⟩ := int2_ok e xa xb; exact le_int (hQ s.toks)
  | Gt => cases ho; obtain ⟨i, j, t, t', rfl, rfl, rfl⟩ := int2_ok e xa xb; exact gt_int (hQ s.toks)
  | GtE => cases ho; obtain ⟨i, j, t, t', rfl, rfl, rfl⟩ := int2_ok e xa xb; exact ge_int (hQ s.toks)
  | Is =>
    cases ho
    obtain ⟨rfl, h, rfl⟩ := isNo_inv e
    obtain ⟨h1, h2⟩ := none_beq xa h
    obtain rfl : ub = .none := xb.inv
    exact wpAny_is_plain h1 (h2 ▸ hQ s.toks)
  | IsNot =>
    cases ho
    refine bnd e fun x e1 e => ?_
    obtain ⟨rfl, h, rfl⟩ := isNo_inv e1
    obtain ⟨h1, h2⟩ := none_beq xa h
    obtain rfl : ub = .none := xb.inv
    exact wpAny_isNot_plain h1 (h2 ▸ Option.some.inj e ▸ hQ s.toks)
  | In => cases ho; exact (contains_ok S e xa xb hu).1 hQ
  | NotIn => cases ho; exact bnd e fun x e1 e => (contains_ok S e1 xa xb hu).2 (Option.some.inj e ▸ hQ)
end
end Mn
end
section
set_option maxRecDepth 100000
namespace Mn
open PySem PySem.W PyProof.Rows PySem.Calls SeqAt
section
variable {prog : Program} {w : World} {B : Heap} {D : Ad} {adr : List Addr} {H H' : MH} {A : Around} {E : Value → Shared → Prop} {s : Shared} {env : Env} {ρ : Loc} {Q : Value → Shared → Prop}
theorem subscripted_plain {slice : PySem.Expr} (h : isSlc slice = false) (o i : Value) : subscripted slice false o i = operate [o, i] (getItem o i) := by
  cases slice <;> first | rfl | cases h
theorem idx_ok {vs : List MV} {us : List Value} {h : Heap} {i : Int} {v : MV} (hv : VRs D adr h vs us) (e : idx vs i = some v) :
    0 ≤ i ∧ i < 2 ^ 63 ∧ ∃ u, us[i.toNat]? = some u ∧ VR D adr h v u := by
  refine gd e fun h0 e => ?_
  obtain ⟨u, hu, x⟩ := hv.get e
  exact ⟨h0.1, Int.lt_trans h0.2 (by decide), u, hu, x⟩
theorem seqIndex_ok {i : Int} {n : Nat} (h0 : 0 ≤ i) (hn : i.toNat < n) : seqIndex? i n = some i.toNat := by
  unfold seqIndex?
  simp only [show ¬ i < 0 by omega, if_false]
  rw [if_pos (by simp; omega)]
theorem list_item {a : Addr} {ws : Array Value} {vs : List MV} {i : Int} {t : Tok} {v : MV} (hl : s.heap.IsList a ws) (hv : VRs D adr s.heap vs ws.toList) (e : idx vs i = some v) (hQ : ∀ u, VR D adr s.heap v u → Q u s) {value slice : PySem.Expr} (hn : isSlc slice = false) :
    wpAny (model prog w) A (subscriptTail value slice (.ref a) (.int i t)) Q E s := by
  obtain ⟨h0, h2, u, hu, x⟩ := idx_ok hv e
  rw [Array.getElem?_toList] at hu
  exact tail_any hl.typeIs slot_list_getitem.lookup (wpAny_getItem_list hl h0 h2 hu (hQ u x)) (subscripted_plain hn _ _)
theorem signs_code : ∀ (n : Nat) (l : List Nat), l.length ≤ n → (∀ c ∈ l, c < 256) → signs n (l.foldl (fun a c => a * 256 + c) 1) = l.map fun c => 256 + c
  | 0, l, h, _ => by
    obtain rfl : l = [] := List.length_eq_zero_iff.mp (by omega)
    rfl
  | n + 1, l, h, hc => by
    rcases List.eq_nil_or_concat l with rfl | ⟨q, d, rfl⟩
    · rfl
    · rw [List.concat_eq_append, List.foldl_append] at *
      simp only [List.foldl_cons, List.foldl_nil]
      have p := codeL_pos q 1 (Nat.le_refl _)
      have hd := hc d (by simp)
      unfold signs
      rw [if_neg (by omega), show (List.foldl (fun a c => a * 256 + c) 1 q * 256 + d) / 256 = List.foldl (fun a c => a * 256 + c) 1 q by omega, show (List.foldl (fun a c => a * 256 + c) 1 q * 256 + d) % 256 = d by omega,
        signs_code n q (by simpa using h) fun c h => hc c (by simp [h])]
      simp
theorem codeL_ge : ∀ (l : List Nat) (a : Nat), a * 256 ^ l.length ≤ l.foldl (fun a c => a * 256 + c) a
  | [], a => by simp
  | c :: l, a => by
    refine Nat.le_trans ?_ (codeL_ge l (a * 256 + c))
    rw [List.length_cons, Nat.pow_succ, Nat.mul_comm (256 ^ l.length), ← Nat.mul_assoc]
    exact Nat.mul_le_mul_right _ (by omega)
theorem code_size {z : Str} (h : code z < 256 ^ 60) : z.cps.toList.length ≤ 64 := by
  have q := codeL_ge z.cps.toList 1
  rw [← code_list, Nat.one_mul] at q
  by_cases hz : z.cps.toList.length ≤ 64
  · exact hz
  · exact absurd (Nat.lt_of_lt_of_le h (Nat.le_trans (Nat.pow_le_pow_right (by omega) (by omega)) q)) (Nat.lt_irrefl _)
noncomputable def chv (c : Nat) : MV := .str (256 + c)
theorem txt_vr {h : Heap} {v : MV} {u : Value} {vs : List MV} (e : txtOf v = some vs) (x : VR D adr h v u) : ∃ z t, u = .str z t ∧ okS z ∧ z.cps.all (· < 128) = true ∧ vs = z.cps.toList.map chv := by
  cases v with
  | str n =>
    obtain ⟨z, t, ok, rfl, rfl⟩ := x.inv
    refine gd e fun hz e => ?_
    have hs := signs_code 64 z.cps.toList (code_size hz.1) ok
    rw [← code_list] at hs
    have q := hz.2
    rw [hs, List.all_eq_true] at q
    rw [hs, List.map_map] at e
    refine ⟨z, t, rfl, ok, ?_, (Option.some.inj e).symm⟩
    rw [← Array.all_toList, List.all_eq_true]
    intro c hc
    have := of_decide_eq_true (q (256 + c) (List.mem_map.mpr ⟨c, hc, rfl⟩))
    exact decide_eq_true (by omega)
  | _ => cases e
theorem char_vr {c : Nat} (h : c < 256) (t : Tok) {hp : Heap} : VR D adr hp (chv c) (.str ⟨#[c]⟩ t) :=
  .str ⟨#[c]⟩ _ (fun d hd => (List.mem_singleton (b := c)).mp hd ▸ h) _ (by rw [code_list]; rfl)
theorem item_ok (S : SR prog w B D adr H s.heap) {o i v : MV} {uo ui : Value} (e : item H o i = some v) (xo : VR D adr s.heap o uo) (xi : VR D adr s.heap i ui) {value slice : PySem.Expr} (hn : isSlc slice = false)
    (hQ : ∀ u t, VR D adr s.heap v u → Q u ⟨s.heap, s.gens, s.drawn, t, s.os⟩) : wpAny (model prog w) A (subscriptTail value slice uo ui) Q E s := by
  cases o with
  | tup vs =>
    refine bnd e fun i e1 e => ?_
    obtain ⟨t, rfl⟩ := asInt_vr e1 xi
    obtain ⟨a, ws, rfl, ht, hv⟩ := xo.inv
    obtain ⟨h0, h2, u, hu, x⟩ := idx_ok hv e
    rw [Array.getElem?_toList] at hu
    exact tail_any ht.typeIs slot_tuple_getitem.lookup (PyProof.Rows.getItem_tuple ht (Int.le_trans (by decide) h0) h2 (seqIndex_ok h0 (Array.getElem?_eq_some_iff.mp hu).1) hu (hQ u s.toks x)) (subscripted_plain hn _ _)
  | ref k =>
    refine bnd e fun ob e1 e => ?_
    obtain ⟨a, rfl, ha, O⟩ := S.vref e1 xo
    cases ob with
    | list vs =>
      refine bnd e fun i e2 e => ?_
      obtain ⟨t, rfl⟩ := asInt_vr e2 xi
      obtain ⟨ws, hl, hv, _⟩ := O.listE
      exact list_item hl.isList hv e (fun u x => hQ u s.toks x) hn
    | frz vs =>
      refine bnd e fun i e2 e => ?_
      obtain ⟨t, rfl⟩ := asInt_vr e2 xi
      obtain ⟨ws, hl, hv⟩ := O.frzE
      exact list_item hl hv e (fun u x => hQ u s.toks x) hn
    | dict es =>
      refine gd e fun hk e => ?_
      obtain ⟨α, _, knd, kvs, q, K⟩ := key_ok O xi hk
      obtain ⟨u, hu, x⟩ := K.get v e
      exact tail_any K.hd.typeIs slot_dict_getitem.lookup (wpAny_getItem_of K.is_ K.hd.mapOf hu (hQ u _ x)) (subscripted_plain hn _ _)
    | _ => cases e
  | str n =>
    refine bnd e fun vs e1 e => bnd e fun i e2 e => gd e fun h0 e => ?_
    obtain ⟨z, t, rfl, ok, _, rfl⟩ := txt_vr e1 xo
    obtain ⟨ti, rfl⟩ := asInt_vr e2 xi
    rw [List.getElem?_map] at e
    obtain ⟨c, q, e⟩ := Option.map_eq_some_iff.mp e
    have hc := ok c (List.mem_of_getElem? q)
    rw [Array.getElem?_toList] at q
    have hch : Txt.charAt z i = some c := by
      unfold Txt.charAt
      rw [show seqIndex? i z.length = some i.toNat from seqIndex_ok h0.1 (Array.getElem?_eq_some_iff.mp q).1]
      exact q
    refine tail_any (typeIs_str s z t) PySem.F.slot_str_getitem.lookup (SB.getItem (by unfold fitsSsize; simp; omega) (by rw [hch]; rfl) ?_) (subscripted_plain hn _ _)
    rw [show Txt.item z i = ⟨#[c]⟩ by unfold Txt.item; rw [hch]; rfl]
    exact hQ _ _ (e ▸ char_vr hc _)
  | _ => cases e
theorem wpAny_setItem_plain {l : Addr} {items : Array Value} {k : Int} {t : Tok} {v : Value} {Q : Unit → Shared → Prop} (hl : s.heap.PlainList l items)
    (h0 : 0 ≤ k) (hfit : k < 2 ^ 63) (hn : k < items.size)
    (hQ : ∀ h', h'.PlainList l (items.setIfInBounds k.toNat v) → Heap.SameBut l s.heap h' → Q () { s with heap := h' }) :
    wpAny (model prog w) A (PySem.setItem (.ref l) (.int k t) v) Q E s := by
  obtain ⟨ne, ho⟩ := hl
  have hl : s.heap.IsList l items := ⟨_, ho, rfl, ne, rfl⟩
  have hd : ({ cls := .type "list", data := .seq items ne } : Obj).data = .seq items ne := rfl
  unfold PySem.setItem
  try with_reducible refine wpAny_holding ?_
  first | refine wpAny_bind (wpAny_pure ?_) | skip
  refine wpAny_bind (wpAny_sequenceKey hl.typeIs (by decide) ?_)
  refine wpAny_bind (wpAny_callSpecial?_slot (name := Str.ofString "__setitem__") hl.typeIs slot_list_setitem
    (wpAny_call_entry slot_list_setitem hl.typeIs entry_list_setitem ?_ (args_list_setitem _ _ _)))
  show wpAny _ _ (Builtin.List.listSubscript? (.int k t) >>= _) _ _ s
  refine wpAny_bind (wpAny_listSubscript_int (fitsIndex_of h0 hfit) ?_)
  clear hfit
  obtain ⟨j, rfl⟩ := Int.eq_ofNat_of_zero_le h0
  have hj : j < items.size := by omega
  have hx' : items[j]? = some items[j] := Array.getElem?_eq_getElem hj
  show wpAny _ _ ((seqItemAt l j >>= fun r => pure (r.map (j, ·))) >>= _) _ _ s
  refine wpAny_bind (wpAny_bind (wpAny_seqItemAt ho hd (wpAny_pure ?_)))
  rw [hx']
  show wpAny _ _ (setSeqItemAt l j v >>= _) _ _ s
  have hm : ∃ n', Obj.mapSeq (·.setIfInBounds j v) { cls := .type "list", data := .seq items ne } = { cls := .type "list", data := .seq (items.setIfInBounds j v) n' } := by
    unfold Obj.mapSeq
    exact ⟨_, rfl⟩
  obtain ⟨n', hm⟩ := hm
  have hfin : (s.heap.update l (Obj.mapSeq (·.setIfInBounds j v))).PlainList l (items.setIfInBounds j v) :=
    ⟨n', by rw [Heap.get?_update_self _ ho (by rw [hm]; rfl), hm]⟩
  refine wpAny_bind (wpAny_setSeqItemAt ho hd ?_)
  first
    | exact wpAny_bind (wpAny_pure (wpAny_pure ⟨.none, rfl, wpAny_pure (hQ _ hfin (Heap.SameBut.update ..))⟩))
    | exact wpAny_pure ⟨.none, rfl, wpAny_pure (hQ _ hfin (Heap.SameBut.update ..))⟩
end
end Mn
end
section
set_option maxRecDepth 100000
namespace Mn
open PySem PySem.W PyProof.Rows PySem.Calls SeqAt
noncomputable def PU (prog : Program) (w : World) (B : Heap) (D : Ad) (adr : List Addr) (env : Env) (ρ : Loc) (s : Shared) (H' : MH) (Q : Unit → Shared → Prop) : Prop :=
  ∀ adr' h' t, Tn adr env s.heap adr' h' → St prog w B D adr' H' ρ env h' → Q () ⟨h', s.gens, s.drawn, t, s.os⟩
structure ClsOk (K : Frag) (D : Ad) (P : Pg) (c : Nat) : Prop where
  makes : makesIn K (D.ca c) = true
  keep : keepIn K (.ref (D.ca c)) = true
  ga : findIn K (.ref (D.ca c)) "__getattribute__" = some (some (.builtin "object.__getattribute__"))
  gt : findIn K (.ref (D.ca c)) "__getattr__" = some none
  sa : findIn K (.ref (D.ca c)) "__setattr__" = some (some (.builtin "object.__setattr__"))
  plain : plainOver K (D.ca c) = true
  has : (clsIn K (D.ca c)).any (·.hasDict) = true
  atr : ∀ z, okS z → P.atr c (code z) = true → findIn K (.ref (D.ca c)) z = some none
  meth : ∀ z f, okS z → P.meth c (code z) = some f → findIn K (.ref (D.ca c)) z = some (some (.ref (D.fa f))) ∧ typeIn K (.ref (D.fa f)) = some (.type "function") ∧ copiedNames.contains z = false
section
variable {prog : Program} {w : World} {B : Heap} {D : Ad} {adr : List Addr} {H H' : MH} {A : Around} {E : Value → Shared → Prop} {s : Shared} {env : Env} {ρ : Loc} {Q : Value → Shared → Prop}
theorem PU.turn {Q : Unit → Shared → Prop} {k : Nat} {a : Addr} {o o₀ : MO} {h' : Heap} (P : PU prog w B D adr env ρ s (H.upd k o) Q) (S : St prog w B D adr H ρ env s.heap) (hk : adr[k]? = some a) (O₀ : OR prog w B D adr s.heap o₀ a)
    (hs : Heap.SameBut a s.heap h') (hb : Off B a) (O : SoftKeep s.heap h' → OR prog w B D adr h' o a) (t : Nat) : Q () ⟨h', s.gens, s.drawn, t, s.os⟩ :=
  P adr h' t (.turned hk hs (O (soft_of (l := [a]) (fun b q => by rw [List.mem_singleton.mp q]; exact O₀.hard) fun b ob e n => (hs.2 b fun z => n (by rw [z]; exact .head _)).trans e)).at) (S.turned hk O₀.hard hs hb O)
theorem setItem_ok {Q : Unit → Shared → Prop} {o i v : MV} {uo ui uv : Value} (e : setItem H o i v = some H') (S : St prog w B D adr H ρ env s.heap) (xo : VR D adr s.heap o uo) (xi : VR D adr s.heap i ui) (xv : VR D adr s.heap v uv)
    (P : PU prog w B D adr env ρ s H' Q) : wpAny (model prog w) A (PySem.setItem uo ui uv) Q E s := by
  cases o with
  | ref k =>
    refine bnd e fun ob e1 e => ?_
    obtain ⟨a, rfl, ha, O⟩ := S.sr.vref e1 xo
    cases ob with
    | list vs =>
      refine bnd e fun i e2 e => gd e fun hz e => ?_
      obtain ⟨t, rfl⟩ := asInt_vr e2 xi
      obtain ⟨ws, hl, hv, hb⟩ := O.listE
      have hn := hv.length.trans Array.length_toList
      refine wpAny_setItem_plain hl hz.1 (Int.lt_trans hz.2.1 (by decide)) (by omega) fun h' hl' hs => ?_
      rw [← Option.some.inj e] at P
      exact P.turn S ha O hs hb (fun sk => .list _ _ _ hl' (by rw [Array.toList_setIfInBounds]; exact (hv.set _ xv).mono (List.prefix_refl _) sk) hb) _
    | dict es =>
      refine gd e fun hk e => ?_
      obtain ⟨α, _, knd, kvs, q, K⟩ := key_ok O xi hk.1
      refine wpAny_setItem_pairs K.is_ K.hd (fun h' hd' hs => ?_) (Nat.le_trans (K.len ▸ Nat.le_of_lt hk.2) (by decide))
      rw [← Option.some.inj e] at P
      exact P.turn S ha O hs K.off (fun sk => K.put v uv xv _ _ K.off sk hd') _
    | _ => cases e
  | _ => cases e
theorem dict_obj {od : Obj} {dx : Addr} {h : Heap} {kvs : List (Str × Value)} (hd : h.DictOf (strKind prog w) dx kvs) (ho : h.get? dx = some od) :
    ∃ (es : Array DictEntry) (ep : Nat), h.get? dx = some od ∧ od.ExactDict ∧ od.data = .dict es ep ∧ KeysOf (strKind prog w) es ∧ Pairs (strKind prog w) es.toList kvs ∧ (kvs.map (·.1)).Nodup := by
  obtain ⟨o, es, ep, e, hx, hdat, hk, hp, hn⟩ := hd
  obtain rfl : o = od := Option.some.inj (e.symm.trans ho)
  exact ⟨es, ep, e, hx, hdat, hk, hp, hn⟩
theorem lookIn_of {od : Obj} {dx : Addr} {h : Heap} {kvs : List (Str × Value)} (hd : h.DictOf (strKind prog w) dx kvs) (ho : h.get? dx = some od) (z : Str) : lookIn z od = some (valueAt kvs z) := by
  obtain ⟨es, ep, _, _, hdat, hk, hp, _⟩ := dict_obj hd ho
  unfold lookIn
  rw [hdat]
  dsimp only
  have q := hp.find z
  have qq : (fun x : DictEntry => x.key.isStr z) = fun x : DictEntry => (strKind prog w).is z x.key := by
    funext x
    exact ((strKind prog w).strs z z 0 x.key (strIs z 0)).symm
  rw [qq]
  cases hf : es.toList.find? (fun x => (strKind prog w).is z x.key) with
  | some en =>
    rw [hf] at q
    rw [← q]
    rfl
  | none =>
    rw [hf] at q
    rw [← q]
    dsimp only
    rw [if_neg]
    · rfl
    · rw [List.any_eq_true]
      rintro ⟨x, hx, hr⟩
      obtain ⟨y, hy, _⟩ := hk x (by simpa using hx)
      obtain ⟨t, ht⟩ := Value.isStrOf_shape hy
      rw [DictEntry.refKey, ht] at hr
      cases hr
theorem handed_of {v : MV} {u : Value} {h : Heap} (x : VR D adr h v u) (hv : noBi v = true) : handedIn u = true := by
  cases x with
  | bi => cases hv
  | _ => exact rfl
variable {K : Frag} {P : Pg}
theorem inst_at (S : SR prog w B D adr H s.heap) {k c d : Nat} {es : List (MV × MV)} {u : Value} (e : H.get k = some (.inst c d)) (e' : H.get d = some (.dict es)) (x : VR D adr s.heap (.ref k) u) :
    ∃ a dx od, u = .ref a ∧ adr[k]? = some a ∧ adr[d]? = some dx ∧ s.heap.get? dx = some od ∧ OR prog w B D adr s.heap (.dict es) dx ∧ InstAt s.heap a (instObj (D.ca c) dx) (D.ca c) (some od) := by
  obtain ⟨a, rfl, ha, O⟩ := S.vref e x
  obtain ⟨dx, hdx, ho⟩ := O.instE
  obtain ⟨dx', hdx', O'⟩ := S.obj d _ e'
  obtain rfl := Option.some.inj (hdx.symm.trans hdx')
  obtain ⟨od, hod⟩ := O'.at
  exact ⟨a, dx, od, rfl, ha, hdx, hod, O', ⟨ho, rfl, rfl, hod⟩⟩
theorem attr_value {k c d : Nat} (X : K.In s.heap) (C : ClsOk K D P c) {es : List (MV × MV)} {z : Str} {v : MV} {u : Value} (S : SR prog w B D adr H s.heap) (hz : okS z)
    (e : H.get k = some (.inst c d)) (e' : H.get d = some (.dict es)) (hk : okKey (.str (code z)) es = true) (ha : P.atr c (code z) = true) (hv : dGet (.str (code z)) es = some v) (hb : noBi v = true) (x : VR D adr s.heap (.ref k) u)
    {expr : Bool} (hQ : ∀ u' t, VR D adr s.heap v u' → Q u' ⟨s.heap, s.gens, s.drawn, t, s.os⟩) : wpAny (model prog w) A (getAttr u z expr) Q E s := by
  obtain ⟨a, dx, od, rfl, hak, hdk, hod, O, I⟩ := inst_at S e e' x
  obtain ⟨kvs, hd, he, _⟩ := dict_S O _ hk
  obtain ⟨u', hu', x'⟩ := (dGet_at (fun k b h => keyEq_S h hz) he).1 v hv
  have hl := lookIn_of hd hod z
  rw [hu'] at hl
  obtain ⟨cd, hc, hh⟩ := any_some C.has
  refine get_value X I C.ga (v := u') ?_ (handed_of x' hb) (hQ u' _ x')
  unfold findObj
  rw [hc, Option.bind_some, C.atr z hz ha, Option.bind_some]
  dsimp only [Option.bind_some]
  unfold W.ownOf
  rw [if_pos hh]
  dsimp only
  rw [hl]
  rfl
theorem fn_special {f : Addr} (h : typeIn K (.ref f) = some (.type "function")) : specialIn K (.ref f) "__get__" = some (some (.builtin "function.__get__")) := by
  unfold specialIn
  rw [h]
  show fastLookup "function" "__get__" = _
  decide +kernel
theorem fn_takes {f : Addr} (h : typeIn K (.ref f) = some (.type "function")) : takesIn K (.ref f) = some false := by
  have e1 : specialIn K (.ref f) "__set__" = some none := by
    unfold specialIn
    rw [h]
    show fastLookup "function" "__set__" = _
    decide +kernel
  have e2 : specialIn K (.ref f) "__delete__" = some none := by
    unfold specialIn
    rw [h]
    show fastLookup "function" "__delete__" = _
    decide +kernel
  unfold takesIn
  rw [e1]
  dsimp only
  rw [e2]
  rfl
theorem attr_bound {k c d : Nat} (X : K.In s.heap) (C : ClsOk K D P c) {es : List (MV × MV)} {z : Str} {f : Nat} {u : Value} (S : St prog w B D adr H ρ env s.heap) (hz : okS z)
    (e : H.get k = some (.inst c d)) (e' : H.get d = some (.dict es)) (hk : okKey (.str (code z)) es = true) (ha : P.meth c (code z) = some f) (hv : dGet (.str (code z)) es = none) (x : VR D adr s.heap (.ref k) u)
    {expr : Bool} (PQ : PX prog w B D adr env ρ s (.bm k f) H Q) : wpAny (model prog w) A (getAttr u z expr) Q E s := by
  obtain ⟨a, dx, od, rfl, hak, hdk, hod, O, I⟩ := inst_at S.sr e e' x
  obtain ⟨kvs, hd, he, _⟩ := dict_S O _ hk
  have hu := (dGet_at (fun k b h => keyEq_S h hz) he).2 hv
  have hl := lookIn_of hd hod z
  rw [hu] at hl
  obtain ⟨m1, m2, m3⟩ := C.meth z f hz ha
  refine get_bind X I C.ga (findObj_fn C.has m1 (fn_special m2) (fn_takes m2) m3 hl) C.gt (wpAny_call (fn_get (s := { s with toks := s.toks + 1 }) X m2 (handed_on rfl ?_)))
  exact PQ.push S _ (.bm k f a _ hak (Heap.get?_push_size _ rfl))
theorem method_ok {k c d : Nat} (X : K.In s.heap) (C : ClsOk K D P c) {es : List (MV × MV)} {z : Str} {f : Nat} {u : Value} (S : St prog w B D adr H ρ env s.heap) (hz : okS z)
    (e : H.get k = some (.inst c d)) (e' : H.get d = some (.dict es)) (hk : okKey (.str (code z)) es = true) (ha : P.meth c (code z) = some f) (hv : dGet (.str (code z)) es = none) (x : VR D adr s.heap (.ref k) u)
    {pl : Sem Bool} {Q : Value × List Value → Shared → Prop} (h : Q (.ref (D.fa f), [u]) s) : wpAny (model prog w) A (getMethod u z pl) Q E s := by
  obtain ⟨a, dx, od, rfl, hak, hdk, hod, O, I⟩ := inst_at S.sr e e' x
  obtain ⟨kvs, hd, he, _⟩ := dict_S O _ hk
  have hu := (dGet_at (fun k b h => keyEq_S h hz) he).2 hv
  have hl := lookIn_of hd hod z
  rw [hu] at hl
  obtain ⟨m1, m2, m3⟩ := C.meth z f hz ha
  refine method_fn X I C.ga C.gt m1 m2 ?_ h
  unfold shadowIn
  dsimp only
  rw [hl]
  rfl
theorem put_name {od : Obj} {dx : Addr} {h h' : Heap} {kvs : List (Str × Value)} {z : Str} {tk : Tok} {v : Value} (hd : h.DictOf (strKind prog w) dx kvs) (ho : h.get? dx = some od)
    (ho' : h'.get? dx = some (Obj.putName z (PyData.keyHash w.params z) (.str z tk) v od)) : h'.DictOf (strKind prog w) dx (stored kvs z v) := by
  obtain ⟨es, ep, _, hx, hdat, hk, hp, hn⟩ := dict_obj hd ho
  obtain ⟨c, dd, dt, sl⟩ := od
  obtain rfl : dt = _ := hdat
  obtain ⟨es⟩ := es
  rw [putName_eq] at ho'
  have qq : (fun x : DictEntry => x.key.isStr z) = fun x : DictEntry => (strKind prog w).is z x.key := by
    funext x
    exact ((strKind prog w).strs z z 0 x.key (strIs z 0)).symm
  have hh : PyData.keyHash w.params z = (strKind prog w).hash z := rfl
  have hidx := hp.findIdx z
  cases hi : es.findIdx? (fun x => (strKind prog w).is z x.key) with
  | some i =>
    rw [hi] at hidx
    refine ⟨_, _, _, ho', hx, rfl, ?_, ?_, ?_⟩
    · unfold PySem.putIn
      rw [qq, hi]
      have := hk.modify i v
      simpa using this
    · unfold PySem.putIn
      rw [qq, hi, stored, if_pos (any_of_findIdx_some hidx.symm)]
      have := hp.modify hn hi v
      simpa using this
    · rw [stored, if_pos (any_of_findIdx_some hidx.symm), keys_map_store]; exact hn
  | none =>
    rw [hi] at hidx
    have hnot : z ∉ kvs.map (·.1) := not_mem_of_findIdx_none hidx.symm
    have hany : ¬ (kvs.any fun kv => decide (kv.1 = z)) = true := by
      rw [List.any_eq_true]; rintro ⟨kv, hkv, he⟩
      exact hnot (List.mem_map.mpr ⟨kv, hkv, of_decide_eq_true he⟩)
    refine ⟨_, _, _, ho', hx, rfl, ?_, ?_, ?_⟩
    · unfold PySem.putIn
      rw [qq, hi, hh]
      have := hk.push (strIs z tk) v
      simpa using this
    · unfold PySem.putIn
      rw [qq, hi, hh, stored, if_neg hany]
      have := hp.append (strIs z tk) ((strKind prog w).hash z) v
      simpa using this
    · rw [stored, if_neg hany, List.map_append, List.nodup_append]
      refine ⟨hn, by simp, ?_⟩
      intro a ha b hb
      simp only [List.map_cons, List.map_nil, List.mem_singleton] at hb
      subst hb
      exact fun e => hnot (e ▸ ha)
theorem put_live {od : Obj} {dx : Addr} {h : Heap} {kvs : List (Str × Value)} {z : Str} {k : Int} {tk : Tok} {v : Value} (hd : h.DictOf (strKind prog w) dx kvs) (ho : h.get? dx = some od) : (Obj.putName z k (.str z tk) v od).isFreed = false := by
  obtain ⟨es, ep, _, _, hdat, _⟩ := dict_obj hd ho
  obtain ⟨c, dd, dt, sl⟩ := od
  obtain rfl : dt = _ := hdat
  obtain ⟨es⟩ := es
  rw [putName_eq]
  rfl
theorem put_fits {od : Obj} {dx : Addr} {h : Heap} {kvs : List (Str × Value)} (hd : h.DictOf (strKind prog w) dx kvs) (ho : h.get? dx = some od) (hl : kvs.length < 200) : od.data.pastItsLine = none := by
  obtain ⟨es, ep, _, _, hdat, _, hp, _⟩ := dict_obj hd ho
  rw [hdat]
  have h1 := hp.length
  rw [Array.length_toList] at h1
  have : sizeLine = 16777216 := sizeLine_eq
  exact pastItsLine_dict (by omega)
theorem stored_len (kvs : List (Str × Value)) (z : Str) (v : Value) : (stored kvs z v).length ≤ kvs.length + 1 := by
  unfold stored
  split
  · rw [List.length_map]; exact Nat.le_succ _
  · rw [List.length_append]; exact Nat.le_refl _
theorem refKeys {z : Str} {od : Obj} {r : Option Value} (h : lookIn z od = some r) : ∃ es n, od.data = .dict es n ∧ (!es.any (·.key.isStr z) && es.any (·.refKey)) = false := by
  unfold lookIn at h
  split at h
  · rename_i es n q
    refine ⟨es, n, q, ?_⟩
    rw [← Array.any_toList, ← Array.any_toList]
    split at h
    · rename_i en he
      rw [List.any_eq_true.mpr ⟨en, List.mem_of_find?_eq_some he, List.find?_some he⟩]; rfl
    · split at h
      · cases h
      · rename_i z'; rw [Bool.not_eq_true] at z'; rw [z', Bool.and_false]
  · cases h
theorem setAttr_ok {k c d : Nat} (X : K.In s.heap) (C : ClsOk K D P c) {es : List (MV × MV)} {z : Str} {v : MV} {u uv : Value} (S : St prog w B D adr H ρ env s.heap) (hz : okS z)
    (e : H.get k = some (.inst c d)) (e' : H.get d = some (.dict es)) (hk : okKey (.str (code z)) es = true) (ha : P.atr c (code z) = true) (hl : es.length < 100) (x : VR D adr s.heap (.ref k) u) (xv : VR D adr s.heap v uv)
    {Q : Unit → Shared → Prop} (PQ : PU prog w B D adr env ρ s (H.upd d (.dict (dPut (.str (code z)) v es))) Q) : wpAny (model prog w) A (PySem.setAttr u z uv) Q E s := by
  obtain ⟨a, dx, od, rfl, hak, hdk, hod, O, I⟩ := inst_at S.sr e e' x
  obtain ⟨kvs, hd, he, hb⟩ := dict_S O _ hk
  obtain ⟨es₀, n₀, q, hrk⟩ := refKeys (lookIn_of hd hod z)
  obtain ⟨_, _, _, _, _, _, _, hnd⟩ := dict_obj hd hod
  have ht : takerIn K (D.ca c) z = some none := by
    unfold takerIn
    rw [C.atr z hz ha]
    rfl
  refine set_plain X I C.sa (osa_open (s := { s with toks := s.toks + 1 }) X I C.plain ht fun b => ?_)
  obtain ⟨cd, hc, hh⟩ := any_some C.has
  have hsb : Heap.SameBut dx s.heap (s.heap.update dx (Obj.putName z (PyData.keyHash w.params z) (.str z (s.toks + 1)) uv)) := Heap.SameBut.update ..
  have hod' : (s.heap.update dx (Obj.putName z (PyData.keyHash w.params z) (.str z (s.toks + 1)) uv)).get? dx = some (Obj.putName z (PyData.keyHash w.params z) (.str z (s.toks + 1)) uv od) :=
    Heap.get?_update_self _ hod (put_live hd hod)
  have hd' := put_name hd hod hod'
  have hsz := put_fits hd' hod' (by have h2 := stored_len kvs z uv; have h3 := he.length; omega)
  refine wpAny_bind (wpAny_pure (wpAny_bind (wpAny_bind (wpAny_loadPart I.at_ (wpAny_bind (looks_clsIn X hc _ _ _ _ (fun _ _ e => e) ?_))))))
  rw [hh]
  refine wpAny_pure (a := some dx) (wpAny_bind (wpAny_pure (wpAny_bind ?_)))
  unfold nsSet
  refine wpAny_bind (wpAny_bind (wpAny_askSetting (wpAny_pure (wpAny_bind (wpAny_mkText (wpAny_bind (wpAny_loadPart hod ?_)))))))
  rw [q]
  dsimp only
  rw [aRefKeyMayBeTheName_at, hrk]
  exact wpAny_updatePart hod (wpAny_bind (wpAny_lookBehind hod' hsz (wpAny_pure (PQ.turn S hdk O hsb hb (fun sk => .dictS _ _ _ hd' ((dPut_at (R := SK) ⟨hz, rfl⟩ (fun k b h => keyEq_S h hz) xv he hnd).mono (List.prefix_refl _) sk) hb) _))))
end
end Mn
end
section
set_option maxRecDepth 100000
namespace Mn
open PySem PySem.W PyProof.Rows PySem.Calls SeqAt
theorem keys_miss : typeLookup (.type "list") "keys" = pure none := am_miss_of_fast (by decide +kernel)
section
variable {prog : Program} {w : World} {A : Around} {E : Value → Shared → Prop} {s : Shared}
theorem no_keys {a : Addr} {xs : Array Value} {k : Nat} {Q : Option Value → Shared → Prop} (hx : s.heap.get? a = some { cls := .type "list", data := .seq xs k }) (hA : A.handled = none)
    (h : ∀ h' tk, (∀ b o, s.heap.get? b = some o → h'.get? b = some o) → Q none { s with heap := h', toks := tk }) : wpAny (model prog w) A (getAttr? (.ref a) "keys") Q E s := by
  obtain ⟨hp, g, d, tk, os⟩ := s
  have hT : ∀ tk', (⟨hp, g, d, tk', os⟩ : Shared).TypeIs (.ref a) "list" := fun _ => ⟨_, hx, rfl⟩
  have f1 := sub_AttributeError
  have f3 := PySem.F.slot_list_getattribute.lookup
  have f4 := PySem.F.slot_list_getattribute.bind (.ref a)
  have f5 := am_list_getattr_none
  unfold getAttr? getAttrBy? getAttrBy
  refine wpAny_bind (wpAny_mkText (wpAny_bind (wpAny_attempt ?_)))
  repeat (any_goals (first | assumption | exact hT _ | ((with_reducible show wpAny _ _ (call (Value.builtin "list.__getattribute__") _ _) _ _ _); refine call_meets PySem.F.slot_list_getattribute (hT _) am_entry_list_getattribute (PySem.F.args_list_getattribute_2 _ _) (meets_getattribute_miss_list a xs k #[] "keys" _ keys_miss (by decide +kernel) (by decide +kernel)) ⟨hx, hA, fun h' tk' e hx' => ?_⟩) | wp_step))
  obtain ⟨t', u', he⟩ := hx'.there
  show wpAny _ _ (getattributeRaised _ _ _ _ _ _ _) _ _ _
  have hT' : ∀ tk', (⟨h', g, d, tk', os⟩ : Shared).TypeIs (.ref e) "AttributeError" := fun _ => ⟨_, he, rfl⟩
  unfold getattributeRaised
  refine wpAny_bind (wpAny_isInstance (hT' _) f1 ?_)
  rw [if_pos rfl]
  refine wpAny_bind (wpAny_of_eq (a := none) (by unfold hookBehind; exact f5) ?_)
  unfold hookOrError
  dsimp only
  unfold attributeErrorLeaves
  refine wpAny_bind ?_
  refine wpAny_throw ?_
  refine wpAny_bind (wpAny_isInstance (hT' _) f1 ?_)
  rw [if_pos rfl]
  exact wpAny_pure (h _ _ hx'.keeps)
end
inductive Prs {prog : Program} {w : World} {K : Type} [DecidableEq K] (knd : KeyKind prog w K) (h : Heap) : List Value → List (K × Value) → Prop
  | nil : Prs knd h [] []
  | cons {a : Addr} {k v : Value} {q : K} {us : List Value} {kvs : List (K × Value)} (ht : h.IsTuple a #[k, v]) (hk : knd.is q k = true) (hr : Prs knd h us kvs) : Prs knd h (.ref a :: us) ((q, v) :: kvs)
theorem Prs.inv {prog : Program} {w : World} {K : Type} [DecidableEq K] {knd : KeyKind prog w K} {h : Heap} {x : Value} {us : List Value} {rest : List (K × Value)} (p : Prs knd h (x :: us) rest) : ∃ a k v q kvs, x = .ref a ∧ rest = (q, v) :: kvs ∧ h.IsTuple a #[k, v] ∧ knd.is q k = true ∧ Prs knd h us kvs := by
  cases p with
  | cons ht hk hr => exact ⟨_, _, _, _, _, rfl, rfl, ht, hk, hr⟩
theorem soft1 {h h' : Heap} {a : Addr} (hh : Hard h a) (hs : Heap.SameBut a h h') : SoftKeep h h' := soft_of (l := [a]) (fun b q => by rw [List.mem_singleton.mp q]; exact hh) fun b ob e n => (hs.2 b fun z => n (by rw [z]; exact .head _)).trans e
theorem plain_update_loop : plainId "dict.update.loop" = true := by decide +kernel
theorem entry_update_loop : entryFor table "dict.update.loop" = some Builtin.«dict.update.loop» := entryFor_of_tree (by kernel_rfl)
section
variable {prog : Program} {w : World} {K : Type} [DecidableEq K] {knd : KeyKind prog w K}
theorem Prs.soft {h h' : Heap} (hs : SoftKeep h h') {us : List Value} {kvs : List (K × Value)} (x : Prs knd h us kvs) : Prs knd h' us kvs := by
  induction x with
  | nil => exact .nil
  | cons ht hk _ ih => exact .cons (hs.1 _ _ ht) hk ih
theorem dict_hard {h : Heap} {d : Addr} {kvs : List (K × Value)} (x : h.DictOf knd d kvs) : Hard h d := by
  obtain ⟨o, es, ep, e, hx, hd, _⟩ := x
  exact hard_data e (by rw [hd]; simp) (by rw [hd]; simp)
theorem iter_hard {h : Heap} {a l : Addr} {i : Nat} (x : h.IsListIter a l i) : Hard h a := by
  obtain ⟨o, e, hc, hd⟩ := x
  exact hard_of e (by rw [hc]; simp) (by rw [hc]; simp)
theorem stored_le (kvs : List (K × Value)) (z : K) (v : Value) : (stored kvs z v).length ≤ kvs.length + 1 := by
  unfold stored
  split
  · rw [List.length_map]; exact Nat.le_succ _
  · rw [List.length_append]; exact Nat.le_refl _
variable {A : Around} {R : Result → Shared → Prop}
theorem update_loop (hh : A.handled = none) {d it l : Addr} {items : Array Value} (n1 : it ≠ l) (n2 : it ≠ d) (n3 : l ≠ d) :
    ∀ (k i : Nat) (s : Shared) (kvs rest : List (K × Value)), items.size - i = k → i ≤ items.size → s.heap.IsListIter it l i → s.heap.IsList l items → s.heap.DictOf knd d kvs → Prs knd s.heap (items.toList.drop i) rest →
      kvs.length + rest.length ≤ sizeLine →
      (∀ h' tk, h'.DictOf knd d (rest.foldl (fun m p => stored m p.1 p.2) kvs) → (∀ b o, b ≠ it → b ≠ d → s.heap.get? b = some o → h'.get? b = some o) → R (.ok (.ret .none)) { s with heap := h', toks := tk }) →
      codeAny (model prog w) A (.builtin "dict.update.loop" ⟨[.ref d, .ref it, rawInt i, .none], []⟩) R s := by
  intro k
  induction k with
  | zero =>
    intro i s kvs rest hk hi hit hl hd hp hz hR
    refine codeAny_builtin entry_update_loop ?_
    rw [Around.under_plainId plain_update_loop _]
    show wpAny _ A.in1 (pyNext (.ref it) >>= _) _ _ s
    have hnone : items[i]? = none := Array.getElem?_eq_none (by omega)
    refine wpAny_bind (wpAny_pyNext_list_end hh hit hl hnone fun h' hs => ?_)
    show wpAny _ _ (Builtin.Dict.addKeywords d [] >>= _) _ _ _
    refine wpAny_bind (wpAny_pure (wpAny_pure ?_))
    have e : items.toList.drop i = [] := List.drop_eq_nil_of_le (by simp; omega)
    rw [e] at hp
    obtain rfl : rest = [] := by cases hp; rfl
    exact hR h' s.toks (hd.extBut hs (Ne.symm n2)) fun b o h1 _ e => hs b o h1 e
  | succ k ih =>
    intro i s kvs rest hk hi hit hl hd hp hz hR
    have hlt : i < items.size := by omega
    obtain ⟨x, hx⟩ : ∃ x, items[i]? = some x := ⟨_, Array.getElem?_eq_getElem hlt⟩
    have e : items.toList.drop i = x :: items.toList.drop (i + 1) := by
      have hlt' : i < items.toList.length := by rw [Array.length_toList]; exact hlt
      rw [List.drop_eq_getElem_cons hlt', show items.toList[i] = x from Option.some.inj ((List.getElem?_eq_getElem hlt').symm.trans (Array.getElem?_toList.trans hx))]
    rw [e] at hp
    obtain ⟨a, kx, vx, q, rest', rfl, rfl, ht, hkk, hr⟩ := hp.inv
    refine codeAny_builtin entry_update_loop ?_
    rw [Around.under_plainId plain_update_loop _]
    show wpAny _ A.in1 (pyNext (.ref it) >>= _) _ _ s
    refine wpAny_bind (wpAny_pyNext_list_item hit hl hx fun h1 hit1 hs1 => ?_)
    have sk1 : SoftKeep s.heap h1 := soft1 (iter_hard hit) hs1
    have hd1 : h1.DictOf knd d kvs := hd.extBut hs1.extBut (Ne.symm n2)
    have hl1 : h1.IsList l items := hl.extBut hs1.extBut (Ne.symm n1)
    obtain ⟨to, hto, htc, tn, htd⟩ := sk1.1 _ _ ht
    refine wpAny_bind (wpAny_holding (wpAny_bind (wpAny_tryCatch ?_)))
    unfold Builtin.Dict.pairItems
    refine wpAny_bind (wpAny_typeOf (T := "tuple") ⟨to, hto, htc⟩ ?_)
    rw [if_pos (by decide)]
    refine wpAny_bind (wpAny_seqItems hto htd ?_)
    refine wpAny_pure ?_
    show wpAny _ _ (holding [kx, vx] (dictSet d kx vx)) _ _ _
    simp only [List.length_cons] at hz
    refine wpAny_holding (wpAny_dictSet_pairs hkk hd1 (fun h2 hd2 hs2 => ?_) (by omega))
    have sk2 : SoftKeep h1 h2 := soft1 (dict_hard hd1) hs2
    refine wpAny_pure ⟨plainId_quiet plain_update_loop _, ih (i + 1) _ (stored kvs q vx) rest' (by omega) (by omega) ?_ (hl1.extBut hs2.extBut n3) hd2 ((hr.soft sk1).soft sk2) ?_ fun h' tk hd' hk' => ?_⟩
    · obtain ⟨o, eo, r⟩ := hit1
      exact ⟨o, (hs2.2 it n2).trans eo, r⟩
    · have := stored_le kvs q vx
      omega
    · exact hR h' tk hd' fun b o b1 b2 eb => hk' b o b1 b2 ((hs2.2 b b2).trans ((hs1.2 b b1).trans eb))
end
section
variable {prog : Program} {w : World} {K : Type} [DecidableEq K] {knd : KeyKind prog w K} {A : Around} {E : Value → Shared → Prop} {s : Shared}
theorem call_dict_pairs (hh : A.handled = none) {l : Addr} {items : Array Value} {rest : List (K × Value)} {Q : Value → Shared → Prop} (hl : s.heap.PlainList l items) (hp : Prs knd s.heap items.toList rest) (hz : rest.length ≤ sizeLine)
    (h : ∀ h' tk, h'.DictOf knd s.heap.objs.size (rest.foldl (fun m p => stored m p.1 p.2) []) → (∀ b o, s.heap.get? b = some o → h'.get? b = some o) → Q (.ref s.heap.objs.size) { s with heap := h', toks := tk }) :
    wpAny (model prog w) A (call (.type "dict") [.ref l]) Q E s := by
  refine callType_codes (Q₁ := fun obj s₁ => obj = .ref s.heap.objs.size ∧ s₁ = { s with heap := s.heap.push { cls := .type "dict", data := .dict #[] } }) PySem.F.kt_called_dict (PySem.F.kt_typeCall_dict_1 _) PySem.F.entry_dict_init (kt_code_dict_new _ ⟨rfl, rfl⟩) ?_
  rintro obj s₁ ⟨rfl, rfl⟩
  have hnew : (s.heap.push { cls := .type "dict", data := .dict #[] }).DictOf knd s.heap.objs.size [] := Heap.DictOf.new s.heap
  obtain ⟨n, hn⟩ := hl
  have hl' := Heap.get?_push_of_some { cls := .type "dict", data := .dict #[] } hn
  have hT : (⟨s.heap.push { cls := .type "dict", data := .dict #[] }, s.gens, s.drawn, s.toks, s.os⟩ : Shared).TypeIs (.ref l) "list" := ⟨_, hl', rfl⟩
  have nl : l ≠ s.heap.objs.size := fun e => Nat.lt_irrefl _ (e ▸ Heap.lt_size hn)
  refine ⟨hnew.typeIs, PySem.F.args_dict_init_2 _ _, ?_⟩
  unfold Builtin.«dict.__init__»
  refine wpAny_bind ?_
  unfold Builtin.Dict.selfAndRest
  refine wpAny_bind (wpAny_notOrdered_dict hnew.typeIs ?_)
  show wpAny _ _ (pure (s.heap.objs.size, [Value.ref l])) _ _ _
  refine wpAny_pure ?_
  show wpAny _ _ (Builtin.Dict.updateFrom "dict.__init__" s.heap.objs.size (.ref l) [] .none) _ _ _
  unfold Builtin.Dict.updateFrom
  refine wpAny_bind (wpAny_typeOf hT ?_)
  rw [if_pos (by decide)]
  refine wpAny_bind (no_keys hl' hh fun h1 tk hk1 => ?_)
  simp only [Option.isNone_none, if_true]
  refine wpAny_bind (wpAny_rule ?_)
  have hl1 : h1.IsList l items := ⟨_, hk1 _ _ hl', rfl, n, rfl⟩
  refine wpAny_bind (wpAny_pyIter_list hl1 ?_)
  have k0 : ∀ b o, s.heap.get? b = some o → (h1.push { cls := .type "list_iterator", data := .fields #[.ref l, .int 0 0] }).get? b = some o := fun b o e => Heap.get?_push_of_some _ (hk1 _ _ (Heap.get?_push_of_some _ e))
  have hd1 : (h1.push { cls := .type "list_iterator", data := .fields #[.ref l, .int 0 0] }).DictOf knd s.heap.objs.size [] := by
    obtain ⟨o, es, ep, e, r⟩ := hnew
    exact ⟨o, es, ep, Heap.get?_push_of_some _ (hk1 _ _ e), r⟩
  have hnd : h1.objs.size ≠ s.heap.objs.size := by
    obtain ⟨o, es, ep, e, r⟩ := hnew
    exact fun q => Nat.lt_irrefl _ (q ▸ Heap.lt_size (hk1 _ _ e))
  have hnl : h1.objs.size ≠ l := fun q => Nat.lt_irrefl _ (q ▸ Heap.lt_size (hk1 _ _ hl'))
  refine wpAny_pure ⟨plainId_quiet plain_update_loop _, ?_⟩
  refine update_loop (A := A.in1) (knd := knd) (d := s.heap.objs.size) (it := h1.objs.size) (l := l) (items := items) hh hnl hnd nl items.size 0 ⟨h1.push { cls := .type "list_iterator", data := .fields #[.ref l, .int 0 0] }, s.gens, s.drawn, tk, s.os⟩ [] rest rfl (Nat.zero_le _)
    ⟨_, Heap.get?_push_size _ rfl, rfl, rfl⟩ ⟨_, k0 _ _ hn, rfl, n, rfl⟩ hd1 (hp.soft (.of_keep k0)) (by simpa using hz)
    fun h' tk hd' hk' => ⟨rfl, h h' tk hd' fun b o e => hk' b o (fun q => ?_) (fun q => ?_) (k0 _ _ e)⟩
  · subst q
    exact absurd (Heap.lt_size (hk1 _ _ (Heap.get?_push_of_some _ e))) (Nat.lt_irrefl _)
  · subst q
    exact absurd (Heap.lt_size e) (Nat.lt_irrefl _)
end
end Mn
end
section
set_option maxRecDepth 100000
namespace Mn
open PySem PySem.W PyProof.Rows PySem.Calls SeqAt
section
variable {prog : Program} {w : World} {B : Heap} {D : Ad} {adr : List Addr} {H H' : MH} {A : Around} {E : Value → Shared → Prop} {s : Shared} {env : Env} {ρ : Loc} {Q : Value → Shared → Prop}
theorem base_none (S : SR prog w B D adr H s.heap) {a : Addr} (h : s.heap.get? a = none) : B.get? a = none := by
  cases q : B.get? a with
  | none => rfl
  | some o => have := S.base _ o q; rw [h] at this; cases this
theorem PX.made {o : MO} {a : Addr} {h' : Heap} (P : PX prog w B D adr env ρ s (.ref H.next) (H.new o) Q) (S : St prog w B D adr H ρ env s.heap) (k : ∀ b ob, s.heap.get? b = some ob → h'.get? b = some ob)
    (ha : s.heap.get? a = none) (O : adr <+: adr ++ [a] → OR prog w B D (adr ++ [a]) h' o a) (t : Nat) : Q (.ref a) ⟨h', s.gens, s.drawn, t, s.os⟩ := by
  have O := O (List.prefix_append ..)
  exact P _ _ _ _ (Tn.made k ha) (S.made k ha O) (.ref _ _ (by rw [← S.sr.len]; simp))
theorem lim_eq : lim = 1048576 := rfl
theorem pairs_inv {a : MV} {r : List MV} {l : List (MV × MV)} (e : pairsOf (a :: r) = some l) : ∃ k v l', a = .tup [.str k, v] ∧ pairsOf r = some l' ∧ l = (.str k, v) :: l' := by
  refine bnd e fun p e1 e => ?_
  obtain ⟨k, v, rfl, e⟩ := two_inv e
  refine bnd e fun n e2 e => bnd e fun l' e3 e => ?_
  exact ⟨n, v, l', by rw [asTup_inv e1, asStr_inv e2], e3, (Option.some.inj e).symm⟩
theorem pairs_S {h : Heap} {vs : List MV} {us : List Value} (x : VRs D adr h vs us) : ∀ l, pairsOf vs = some l → ∃ kvs, Prs (strKind prog w) h us kvs ∧ ER D adr h SK l kvs :=
  x.ind (motive := fun vs us => ∀ l, pairsOf vs = some l → ∃ kvs, Prs (strKind prog w) h us kvs ∧ ER D adr h SK l kvs) (fun l e => ⟨[], .nil, Option.some.inj e ▸ .nil⟩) fun v u vs us hv _ ih l e => by
    obtain ⟨k, y, l', rfl, e1, rfl⟩ := pairs_inv e
    obtain ⟨kvs, h1, h2⟩ := ih l' e1
    obtain ⟨a, ⟨ws⟩, rfl, ht, hvs⟩ := hv.inv
    obtain ⟨uk, uv, rfl, hk, hy⟩ := VRs.inv2 (us := ws) hvs
    obtain ⟨z, t, ok, rfl, rfl⟩ := hk.inv
    exact ⟨(z, uv) :: kvs, .cons ht (strIs z t) h1, .cons ⟨ok, rfl⟩ hy h2⟩
theorem stored_nodup {α : Type} [DecidableEq α] {m : List (α × Value)} (hn : (m.map (·.1)).Nodup) (k : α) (v : Value) : ((stored m k v).map (·.1)).Nodup := by
  unfold stored
  split
  · rw [keys_map_store]; exact hn
  · rename_i hany
    rw [List.map_append, List.nodup_append]
    refine ⟨hn, List.pairwise_singleton .., fun a ha b hb e => ?_⟩
    obtain ⟨p, hp, he⟩ := List.mem_map.mp ha
    exact hany (List.any_eq_true.mpr ⟨p, hp, decide_eq_true (he.trans (e.trans (List.mem_singleton.mp hb)))⟩)
theorem dictOf_S {h : Heap} {l : List (MV × MV)} {kvs : List (Str × Value)} (x : ER D adr h SK l kvs) : ∀ {es : List (MV × MV)} {m : List (Str × Value)}, ER D adr h SK es m → (m.map (·.1)).Nodup → ER D adr h SK (l.foldl (fun es p => dPut p.1 p.2 es) es) (kvs.foldl (fun m p => stored m p.1 p.2) m) := by
  induction x with
  | nil => exact fun x _ => x
  | cons hk hv _ ih => exact fun x hn => ih (dPut_at hk (SK_eq hk) hv x hn) (stored_nodup hn _ _)
theorem kle_inv {o : MO} {v : MV} (e : kle H o = some (v, H')) : ∃ vs, o = .list vs ∧ vs.length ≤ lim ∧ some (MV.int vs.length, H) = some (v, H') := by
  cases o with
  | list vs => exact gd e fun h e => ⟨vs, rfl, h, e⟩
  | _ => cases e
theorem kdi_inv {o : MO} {r : MV × MH} (e : kdi H o = some r) : ∃ vs, o = .list vs ∧ ((pairsOf vs).bind fun l => if l.length < 1000 then some (.ref H.next, H.new (.dict (dictOf l))) else none) = some r := by
  cases o with
  | list vs => exact ⟨vs, rfl, e⟩
  | _ => cases e
theorem isTy_inv {c : MV} (h : isTy c = true) : c = .bi .tstr ∨ c = .bi .ttup := by
  cases c with
  | bi b => cases b <;> first | exact .inl rfl | exact .inr rfl | cases h
  | _ => cases h
theorem chars_vrs' {hp : Heap} : ∀ (l : List Nat) (m : List Value), l.length = m.length → (∀ (j : Nat) (c : Nat) (v : Value), l[j]? = some c → m[j]? = some v → VR D adr hp (chv c) v) → VRs D adr hp (l.map chv) m
  | [], [], _, _ => .nil
  | [], _ :: _, h, _ => nomatch h
  | _ :: _, [], h, _ => nomatch h
  | c :: l, v :: m, h, hj => .cons (hj 0 c v rfl rfl) (chars_vrs' l m (Nat.succ.inj h) fun j => hj (j + 1))
theorem chars_vrs {z : Str} (ok : okS z) {acc : Array Value} (h : ItemsOf (SignAt z) acc z.cps.size) {hp : Heap} : VRs D adr hp (z.cps.toList.map chv) acc.toList := by
  obtain ⟨h1, h2⟩ := h
  refine chars_vrs' _ _ (by rw [Array.length_toList, Array.length_toList, h1]) fun j c v e1 e2 => ?_
  have hc := ok c (List.mem_of_getElem? e1)
  rw [Array.getElem?_toList] at e1 e2
  obtain ⟨c', u, e3, e4⟩ := h2 j v e2
  rw [e4, ← Option.some.inj (e1.symm.trans e3)]
  exact char_vr hc u
theorem callB_ok (S : St prog w B D adr H ρ env s.heap) (hh : A.handled = none) {b : BI} {as : List MV} {us : List Value} {v : MV} (e : callB b as H = some (v, H')) (x : VRs D adr s.heap as us)
    (P : PX prog w B D adr env ρ s v H' Q) : wpAny (model prog w) A (call (biV b) us) Q E s := by
  cases b with
  | len =>
    obtain ⟨y, rfl, e⟩ := one_inv e
    refine bnd e fun k e1 e => bnd e fun o e2 e => ?_
    obtain ⟨u, rfl, xu⟩ := x.inv1
    rw [asRef_inv e1] at xu
    obtain ⟨a, rfl, ha, O⟩ := S.sr.vref e2 xu
    obtain ⟨vs, rfl, hz, e⟩ := kle_inv e
    obtain ⟨ws, hl, hv, _⟩ := O.listE
    have hn := hv.length.trans Array.length_toList
    rw [hn] at e hz
    exact PyProof.Rows.len_list hl.isList (by have := lim_eq; omega) ((P.of e).here S _ (.int _ _))
  | abs =>
    obtain ⟨y, rfl, e⟩ := one_inv e
    refine bnd e fun i e1 e => ?_
    obtain ⟨u, rfl, xu⟩ := x.inv1
    obtain ⟨t, rfl⟩ := asInt_vr e1 xu
    refine PyProof.Rows.call_abs_int fun u tk => ?_
    rw [show (if i < 0 then -i else i) = (i.natAbs : Int) by split <;> omega]
    exact (P.of e).here S _ (.int _ _)
  | isinst =>
    obtain ⟨y, c, rfl, e⟩ := two_inv e
    refine bnd e fun i e1 e => gd e fun hc e => ?_
    obtain ⟨u, u', rfl, xu, xu'⟩ := x.inv2
    obtain ⟨t, rfl⟩ := asInt_vr e1 xu
    rcases isTy_inv hc with rfl | rfl
    · obtain rfl : u' = _ := xu'.inv
      exact IsiPair.int_str ((P.of e).here S _ (.bool _))
    · obtain rfl : u' = _ := xu'.inv
      exact IsiPair.int_tuple ((P.of e).here S _ (.bool _))
  | dict =>
    obtain ⟨y, rfl, e⟩ := one_inv e
    refine bnd e fun k e1 e => bnd e fun o e2 e => ?_
    obtain ⟨vs, rfl, e⟩ := kdi_inv e
    refine bnd e fun l e3 e => gd e fun hz e => ?_
    obtain ⟨u, rfl, xu⟩ := x.inv1
    rw [asRef_inv e1] at xu
    obtain ⟨a, rfl, ha, O⟩ := S.sr.vref e2 xu
    obtain ⟨ws, hl, hv, _⟩ := O.listE
    obtain ⟨kvs, p1, p2⟩ := pairs_S (prog := prog) (w := w) hv l e3
    have hn := p2.length
    refine call_dict_pairs hh hl p1 (by rw [sizeLine_eq]; omega) fun h' tk hd hk' => ?_
    exact (P.of e).made S hk' none_size (fun hp => .dictS _ _ _ hd (dictOf_S (p2.mono hp (.of_keep hk')) .nil List.nodup_nil) (new_none S.sr)) tk
  | list =>
    obtain ⟨y, rfl, e⟩ := one_inv e
    refine bnd e fun vs e1 e => gd e fun hz e => ?_
    obtain ⟨u, rfl, xu⟩ := x.inv1
    obtain ⟨z, t, rfl, ok, _, rfl⟩ := txt_vr e1 xu
    have hlim := lim_eq
    rw [List.length_map, Array.length_toList] at hz
    exact call_list_str hh z t (fun h' tk acc' c' hk hS' hacc => (P.of e).made S hk none_size (fun hp => .list _ _ acc' ⟨c', hS'⟩ (chars_vrs ok hacc) (new_none S.sr)) tk) (by rw [sizeLine_eq]; omega)
  | _ => cases e
end
end Mn
end
section
set_option maxRecDepth 100000
namespace Mn
open PySem PySem.W PyProof.Rows PySem.Calls SeqAt
theorem okS_of {x : String} (h : (Str.ofString x).cps.toList.all (fun c => decide (c < 256)) = true) : okS (Str.ofString x) := fun c hc => of_decide_eq_true (List.all_eq_true.mp h c hc)
theorem name_of {z : Str} {x : String} (hz : okS z) (e : code z = cd x) (h : (Str.ofString x).cps.toList.all (fun c => decide (c < 256)) = true) (e' : code (Str.ofString x) = cd x) : z = Str.ofString x :=
  code_inj hz (okS_of h) (e.trans e'.symm)
section
variable {prog : Program} {w : World} {B : Heap} {D : Ad} {adr : List Addr} {H H' : MH} {A : Around} {E : Value → Shared → Prop} {s : Shared} {env : Env} {ρ : Loc} {Q : Value → Shared → Prop}
theorem plain_noDict {h : Heap} {l : Addr} {items : Array Value} (hl : h.PlainList l items) : h.NoDictAt (.ref l) := by
  obtain ⟨n, e⟩ := hl
  exact ⟨_, e, rfl⟩
theorem getD_ok {a : Addr} {es : List (MV × MV)} {z : Str} (O : OR prog w B D adr s.heap (.dict es) a) (hz : okS z) (e : code z = cd "get") {pl : Sem Bool} {Q : Value × List Value → Shared → Prop} (h : Q (.builtin "dict.get", [.ref a]) s) :
    wpAny (model prog w) A (getMethod (.ref a) z pl) Q E s := by
  obtain rfl := name_of (x := "get") hz e (by decide +kernel) (by decide +kernel)
  obtain ⟨⟨kvs, hd, _⟩ | ⟨kvs, hd, _⟩, _⟩ := O.inv
  · exact getMethod_builtin hd.typeIs PySem.F.plainAttrs_dict PySem.F.slot_dict_get PySem.F.type_dict_get hd.mapOf.noDict h
  · exact getMethod_builtin hd.typeIs PySem.F.plainAttrs_dict PySem.F.slot_dict_get PySem.F.type_dict_get hd.mapOf.noDict h
theorem PX.turn {v : MV} {u : Value} {k : Nat} {a : Addr} {o o₀ : MO} {h' : Heap} (P : PX prog w B D adr env ρ s v (H.upd k o) Q) (S : St prog w B D adr H ρ env s.heap) (hk : adr[k]? = some a) (O₀ : OR prog w B D adr s.heap o₀ a)
    (hs : Heap.SameBut a s.heap h') (hb : Off B a) (O : SoftKeep s.heap h' → OR prog w B D adr h' o a) (x : SoftKeep s.heap h' → VR D adr h' v u) (t : Nat) : Q u ⟨h', s.gens, s.drawn, t, s.os⟩ := by
  have sk : SoftKeep s.heap h' := soft1 O₀.hard hs
  exact P adr h' t u (.turned hk hs (O sk).at) (S.turned hk O₀.hard hs hb O) (x sk)
theorem map_plain {l : Addr} {items : Array Value} {n : Nat} {h : Heap} (f : Array Value → Array Value) (ho : h.get? l = some { cls := .type "list", data := .seq items n }) : (h.update l (Obj.mapSeq f)).PlainList l (f items) := by
  obtain ⟨n', hm⟩ : ∃ n', Obj.mapSeq f { cls := .type "list", data := .seq items n } = { cls := .type "list", data := .seq (f items) n' } := ⟨_, rfl⟩
  exact ⟨n', by rw [Heap.get?_update_self _ ho (by rw [hm]; rfl), hm]⟩
inductive LI (H : MH) (k : Nat) (vs : List MV) (v : MV) (H' : MH) (z : Nat) : List MV → Prop
  | append (q : z = cd "append") (y : MV) (hz : vs.length < lim) (e : some (MV.none, H.upd k (.list (vs ++ [y]))) = some (v, H')) : LI H k vs v H' z [y]
  | pop (q : z = cd "pop") (y : MV) (hz : vs.length < lim) (e1 : vs.getLast? = some y) (e : some (y, H.upd k (.list vs.dropLast)) = some (v, H')) : LI H k vs v H' z []
  | popI (q : z = cd "pop") (i : Int) (y : MV) (hz : 0 ≤ i ∧ i < 1048576 ∧ vs.length < lim) (e1 : vs[i.toNat]? = some y) (e : some (y, H.upd k (.list (vs.eraseIdx i.toNat))) = some (v, H')) : LI H k vs v H' z [.int i]
theorem callL_inv {k : Nat} {vs as : List MV} {z : Nat} {v : MV} (e : callL H k vs z as = some (v, H')) : LI H k vs v H' z as := by
  unfold callL at e
  by_cases q : z = cd "append"
  · rw [if_pos q] at e
    obtain ⟨y, rfl, e⟩ := one_inv e
    exact gd e fun h e => .append q y h e
  · rw [if_neg q] at e
    by_cases q : z = cd "pop" ∧ as = []
    · rw [if_pos q] at e
      obtain ⟨q, rfl⟩ := q
      exact bnd e fun y e1 e => gd e fun h e => .pop q y h e1 e
    · rw [if_neg q] at e
      refine gd e fun q3 e => ?_
      obtain ⟨y, rfl, e⟩ := one_inv e
      refine bnd e fun i e1 e => gd e fun h e => bnd e fun y e2 e => ?_
      rw [asInt_inv e1]
      exact .popI q3 i y h e2 e
theorem VRs.erase {h : Heap} {vs : List MV} {us : List Value} (x : VRs D adr h vs us) (n : Nat) : VRs D adr h (vs.eraseIdx n) (us.eraseIdx n) := by
  rw [List.eraseIdx_eq_take_drop_succ, List.eraseIdx_eq_take_drop_succ]
  exact (x.take n).append (x.drop _)
theorem append_ok (S : St prog w B D adr H ρ env s.heap) {k : Nat} {a : Addr} {vs : List MV} {y : MV} {us : List Value} (e1 : H.get k = some (.list vs)) (ha : adr[k]? = some a) (hz : vs.length < lim)
    (x : VRs D adr s.heap [y] us) (P : PX prog w B D adr env ρ s .none (H.upd k (.list (vs ++ [y]))) Q) : wpAny (model prog w) A (call (.builtin "list.append") (.ref a :: us)) Q E s := by
  obtain ⟨a', ha', O⟩ := S.sr.obj k _ e1
  obtain rfl := Option.some.inj (ha.symm.trans ha')
  obtain ⟨ws, hl, hv, hb⟩ := O.listE
  have hn := hv.length.trans Array.length_toList
  obtain ⟨u, rfl, xu⟩ := x.inv1
  have hlim := lim_eq
  exact wpAny_list_append_plain hl (fun h' hl' hs => P.turn S ha O hs hb (fun sk => .list _ _ _ hl' (by rw [Array.toList_push]; exact (hv.append (.cons xu .nil)).mono (List.prefix_refl _) sk) hb) (fun _ => .none) _) (by rw [sizeLine_eq]; omega)
theorem pop_ok (S : St prog w B D adr H ρ env s.heap) {k : Nat} {a : Addr} {vs : List MV} {y : MV} (e1 : H.get k = some (.list vs)) (ha : adr[k]? = some a) (hz : vs.length < lim) (hg : vs.getLast? = some y)
    (P : PX prog w B D adr env ρ s y (H.upd k (.list vs.dropLast)) Q) : wpAny (model prog w) A (call (.builtin "list.pop") [.ref a]) Q E s := by
  obtain ⟨a', ha', O⟩ := S.sr.obj k _ e1
  obtain rfl := Option.some.inj (ha.symm.trans ha')
  obtain ⟨ws, ⟨n, ho⟩, hv, hb⟩ := O.listE
  have hn := hv.length.trans Array.length_toList
  have hlim := lim_eq
  rw [List.getLast?_eq_getElem?] at hg
  have hlen : vs.length - 1 < vs.length := (List.getElem?_eq_some_iff.mp hg).1
  obtain ⟨u, hu, xu⟩ := hv.get hg
  rw [Array.getElem?_toList, hn] at hu
  have q2 : (ws.eraseIdxIfInBounds (ws.size - 1)).toList = ws.toList.dropLast := by
    rw [Array.eraseIdxIfInBounds, dif_pos (by omega), Array.toList_eraseIdx, List.eraseIdx_eq_take_drop_succ, List.dropLast_eq_take, Array.length_toList, List.drop_eq_nil_of_le (by rw [Array.length_toList]; omega), List.append_nil]
  exact call_meets PySem.F.slot_list_pop ⟨_, ho, rfl⟩ PySem.F.entry_list_pop (PySem.F.args_list_pop_1 _) (PySem.MeetsSeq.list_pop_last a ws n u hu (by rw [sizeLine_eq]; omega))
    ⟨ho, P.turn S ha O (Heap.SameBut.update ..) hb (fun sk => .list _ _ _ (map_plain (fun xs => xs.eraseIdxIfInBounds (ws.size - 1)) ho) (by rw [q2]; exact hv.dropLast.mono (List.prefix_refl _) sk) hb) (fun sk => xu.mono (List.prefix_refl _) sk) _⟩
theorem ints_vrs {h : Heap} {us : List Value} {l : List Int} (x : IntsAre us l) : VRs D adr h (l.map .int) us :=
  IntsAre.rec .nil (fun n t _ _ _ ih => .cons (.int n t) ih) x
theorem popI_ok (S : St prog w B D adr H ρ env s.heap) {k : Nat} {a : Addr} {vs : List MV} {i : Int} {y : MV} {us : List Value} (e1 : H.get k = some (.list vs)) (ha : adr[k]? = some a) (hz : 0 ≤ i ∧ i < 1048576 ∧ vs.length < lim) (hg : vs[i.toNat]? = some y)
    (x : VRs D adr s.heap [.int i] us) (P : PX prog w B D adr env ρ s y (H.upd k (.list (vs.eraseIdx i.toNat))) Q) : wpAny (model prog w) A (call (.builtin "list.pop") (.ref a :: us)) Q E s := by
  obtain ⟨a', ha', O⟩ := S.sr.obj k _ e1
  obtain rfl := Option.some.inj (ha.symm.trans ha')
  obtain ⟨ws, ⟨n, ho⟩, hv, hb⟩ := O.listE
  have hn := hv.length.trans Array.length_toList
  have hlim := lim_eq
  obtain ⟨u', rfl, xu'⟩ := x.inv1
  obtain ⟨t, rfl⟩ := xu'.inv
  obtain ⟨u, hu, xu⟩ := hv.get hg
  rw [Array.getElem?_toList] at hu
  have hj := (Array.getElem?_eq_some_iff.mp hu).1
  have q2 : (ws.eraseIdxIfInBounds i.toNat).toList = ws.toList.eraseIdx i.toNat := by
    rw [Array.eraseIdxIfInBounds, dif_pos hj, Array.toList_eraseIdx]
  exact call_meets PySem.F.slot_list_pop ⟨_, ho, rfl⟩ PySem.F.entry_list_pop (PySem.F.args_list_pop_2 _ _) (PySem.MeetsSeq.list_pop_at a ws n i t i.toNat u (by unfold Builtin.List.listFitsIndex; simp; omega) (seqIndex_ok hz.1 hj) hu (by rw [sizeLine_eq]; omega))
    ⟨ho, P.turn S ha O (Heap.SameBut.update ..) hb (fun sk => .list _ _ _ (map_plain (fun xs => xs.eraseIdxIfInBounds i.toNat) ho) (by rw [q2]; exact (hv.erase _).mono (List.prefix_refl _) sk) hb) (fun sk => xu.mono (List.prefix_refl _) sk) _⟩
theorem get_ok {es : List (MV × MV)} {a : Addr} {k dv : MV} {uk ud : Value} {α : Type} [DecidableEq α] {knd : KeyKind prog w α} {kvs : List (α × Value)} {q : α} (K : KeyOk prog w B D adr s.heap es a k uk α knd kvs q) (S : St prog w B D adr H ρ env s.heap) (x' : VR D adr s.heap dv ud)
    (P : PX prog w B D adr env ρ s ((dGet k es).getD dv) H Q) : Q ((valueAt kvs q).getD ud) s := by
  cases hg : dGet k es with
  | none =>
    rw [hg] at P
    rw [K.miss hg]
    exact P.here S s.toks x'
  | some v =>
    rw [hg] at P
    obtain ⟨u, hu, xu⟩ := K.get v hg
    rw [hu]
    exact P.here S s.toks xu
theorem callD_inv {es : List (MV × MV)} {as : List MV} {v : MV} {z : Nat} (e : callD H es z as = some (v, H')) : z = cd "get" ∧ ∃ y, okKey y es = true ∧ ((as = [y] ∧ some ((dGet y es).getD .none, H) = some (v, H')) ∨ ∃ d, as = [y, d] ∧ some ((dGet y es).getD d, H) = some (v, H')) := by
  refine gd e fun q e => ⟨q, ?_⟩
  rcases as with _ | ⟨y, _ | ⟨d, _ | ⟨c, as⟩⟩⟩
  · cases e
  · exact gd e fun h e => ⟨y, h, .inl ⟨rfl, e⟩⟩
  · exact gd e fun h e => ⟨y, h, .inr ⟨d, rfl, e⟩⟩
  · cases e
theorem callD_ok (S : St prog w B D adr H ρ env s.heap) {k : Nat} {a : Addr} {es : List (MV × MV)} {as : List MV} {us : List Value} {v : MV} {z : Nat} (e1 : H.get k = some (.dict es)) (ha : adr[k]? = some a) (e : callD H es z as = some (v, H'))
    (x : VRs D adr s.heap as us) (P : PX prog w B D adr env ρ s v H' Q) : wpAny (model prog w) A (call (.builtin "dict.get") (.ref a :: us)) Q E s := by
  obtain ⟨a', ha', O⟩ := S.sr.obj k _ e1
  obtain rfl := Option.some.inj (ha.symm.trans ha')
  obtain ⟨_, y, hk, ⟨rfl, e'⟩ | ⟨d, rfl, e'⟩⟩ := callD_inv e
  · obtain ⟨u, rfl, xu⟩ := x.inv1
    obtain ⟨α, _, knd, kvs, q, K⟩ := key_ok O xu hk
    exact call_meetsIn PySem.F.slot_dict_get K.hd.typeIs PySem.F.entry_dict_get (PySem.F.args_dict_get_2 _ _) (meets_dict_get knd a K.is_ (not_sm K.off)) ⟨_, K.hd.mapOf, get_ok K S .none (P.of e')⟩
  · obtain ⟨u, u', rfl, xu, xu'⟩ := x.inv2
    obtain ⟨α, _, knd, kvs, q, K⟩ := key_ok O xu hk
    exact call_meetsIn PySem.F.slot_dict_get K.hd.typeIs PySem.F.entry_dict_get (PySem.F.args_dict_get_3 _ _ _) (meets_dict_get_default knd a K.is_ (not_sm K.off) _) ⟨_, K.hd.mapOf, get_ok K S xu' (P.of e')⟩
end
end Mn
end
section
set_option maxRecDepth 100000
namespace Mn
open PySem PySem.W PyProof.Rows PySem.Calls SeqAt
structure Room (A : Around) (d : Nat) : Prop where
  hh : A.handled = none
  depth : A.depth + 4 * d + 4 < recursionLimit
  units : A.units + 16 * d + 100 < cLine
noncomputable def Po (prog : Program) (w : World) (B : Heap) (D : Ad) (adr : List Addr) (env : Env) (s : Shared) (H' : MH) (ρ' : Loc) {α : Type} (R : List Addr → Heap → α → Prop) (Q : α → Shared → Prop) : Prop :=
  ∀ adr' h' t a, Tn adr env s.heap adr' h' → St prog w B D adr' H' ρ' env h' → R adr' h' a → Q a ⟨h', s.gens, s.drawn, t, s.os⟩
theorem Po.after {prog : Program} {w : World} {B : Heap} {D : Ad} {adr adr₁ : List Addr} {env : Env} {s : Shared} {H' : MH} {ρ' : Loc} {α : Type} {R : List Addr → Heap → α → Prop} {Q : α → Shared → Prop} {h₁ : Heap}
    (P : Po prog w B D adr env s H' ρ' R Q) (T : Tn adr env s.heap adr₁ h₁) (t : Nat) : Po prog w B D adr₁ env ⟨h₁, s.gens, s.drawn, t, s.os⟩ H' ρ' R Q :=
  fun adr' h' t' a T' S' x => P adr' h' t' a (T.trans T') S' x
theorem Po.here {prog : Program} {w : World} {B : Heap} {D : Ad} {adr : List Addr} {env : Env} {s : Shared} {H' : MH} {ρ' : Loc} {α : Type} {R : List Addr → Heap → α → Prop} {Q : α → Shared → Prop}
    (P : Po prog w B D adr env s H' ρ' R Q) (S : St prog w B D adr H' ρ' env s.heap) {a : α} (x : R adr s.heap a) (t : Nat) : Q a ⟨s.heap, s.gens, s.drawn, t, s.os⟩ := P adr s.heap t a (.refl ..) S x
theorem Po.of {prog : Program} {w : World} {B : Heap} {D : Ad} {adr : List Addr} {env : Env} {s : Shared} {H' H0 : MH} {ρ' : Loc} {v v' : MV} {Q : Value → Shared → Prop} (e : some (v', H0) = some (v, H')) (P : Po prog w B D adr env s H' ρ' (fun adr' h' u => VR D adr' h' v u) Q) :
    Po prog w B D adr env s H0 ρ' (fun adr' h' u => VR D adr' h' v' u) Q := PX.of e P
theorem Po.ofT {prog : Program} {w : World} {B : Heap} {D : Ad} {adr : List Addr} {env : Env} {s : Shared} {H' H0 : MH} {ρ' : Loc} {v v' : Bool} {Q : Bool → Shared → Prop} (e : some (v', H0) = some (v, H')) (P : Po prog w B D adr env s H' ρ' (fun _ _ c => c = v) Q) :
    Po prog w B D adr env s H0 ρ' (fun _ _ c => c = v') Q := by
  cases e
  exact P
noncomputable def OutR (D : Ad) (adr : List Addr) (h : Heap) : Out → Flow → Prop
  | .nxt, f => f = .next
  | .ret v, f => ∃ u, f = .ret u ∧ VR D adr h v u
theorem Po.ofS {prog : Program} {w : World} {B : Heap} {D : Ad} {adr : List Addr} {env : Env} {s : Shared} {H' H0 : MH} {ρ' ρ0 : Loc} {o o' : Out} {Q : Flow → Shared → Prop} (e : some (o', ρ0, H0) = some (o, ρ', H')) (P : Po prog w B D adr env s H' ρ' (fun adr' h' f => OutR D adr' h' o f) Q) :
    Po prog w B D adr env s H0 ρ0 (fun adr' h' f => OutR D adr' h' o' f) Q := by
  cases e
  exact P
structure FnOk (B : Heap) (D : Ad) (f : Nat) (F : MF) (o : Obj) (fd : FuncData) (body : List PySem.Stmt) (names : List Str) : Prop where
  at_ : B.get? (D.fa f) = some o
  data : o.data = .func fd
  code : B.CodeRec fd.code fd.qualname
  stm : fd.body = .stmts body
  clo : fd.closure = []
  glob : fd.globals = mainGlobals
  blt : fd.builtins = builtinsNs
  co : fd.scope.isCoroutine = false
  gen : fd.scope.isGenerator = false
  kind : fd.scope.kind = .function
  tr : all? (trS 40 fd.scope) body = some F.body
  params : F.params = names.map Mn.code
  low : ∀ x ∈ names, okS x
  nd : names.Nodup
  kinds : ∀ x ∈ names, fd.scope.names.lookup x = some .local ∨ fd.scope.names.lookup x = some .cell
  keys : (fd.scope.names.map (·.1)).Nodup
  bind : ∀ s : Shared, (∀ b o, B.get? b = some o → s.heap.get? b = some o) → ∀ vals : List Value, vals.length = names.length → BindsTo s fd ⟨vals, []⟩ (names.zip vals)
structure Cx (prog : Program) (w : World) (K : Frag) (B : Heap) (D : Ad) (P : Pg) : Prop where
  X : K.In B
  nolimit : B.NoLimit
  glb : ∃ mg mb, B.Ns mainGlobals mg ∧ B.Ns builtinsNs mb ∧ ∀ x v, okS x → P.glb (code x) = some v → ∃ u, (mg x = some u ∨ (mg x = none ∧ mb x = some u)) ∧ VR D [] B v u
  fn : ∀ f F, P.fns f = some F → ∃ o fd body names, FnOk B D f F o fd body names
  fnf : ∀ f, (P.fns f).isSome = true → keepIn K (.ref (D.fa f)) = true ∧ fnIn K (D.fa f) = true
  cls : ∀ c, ((∃ x, P.atr c x = true) ∨ ∃ x f, P.meth c x = some f) → ClsOk K D P c
section
variable {prog : Program} {w : World} {K : Frag} {B : Heap} {D : Ad} {P : Pg}
variable (prog w B D) in
noncomputable def SX (E : Ev) (d : Nat) : Prop := ∀ (m : Nat) (ex : PySem.Expr) (e : MX) (A : Around) (Er : Value → Shared → Prop) (s : Shared) (adr : List Addr) (H H' : MH) (env : Env) (ρ : Loc) (v : MV) (Q : Value → Shared → Prop),
  trE m env.scope ex = some e → E.x e ρ H = some (v, H') → Room A d → St prog w B D adr H ρ env s.heap → Po prog w B D adr env s H' ρ (fun adr' h' u => VR D adr' h' v u) Q → wpAny (model prog w) A (eval ex env) Q Er s
variable (prog w B D) in
noncomputable def ST (E : Ev) (d : Nat) : Prop := ∀ (m : Nat) (ex : PySem.Expr) (e : MX) (A : Around) (Er : Value → Shared → Prop) (s : Shared) (adr : List Addr) (H H' : MH) (env : Env) (ρ : Loc) (b : Bool) (Q : Bool → Shared → Prop),
  trE m env.scope ex = some e → E.t e ρ H = some (b, H') → Room A d → St prog w B D adr H ρ env s.heap → Po prog w B D adr env s H' ρ (fun _ _ c => c = b) Q → wpAny (model prog w) A (isTrue ex env (eval ex env)) Q Er s
variable (prog w B D) in
noncomputable def SC (E : Ev) (d : Nat) : Prop := ∀ (A : Around) (Er : Value → Shared → Prop) (s : Shared) (adr : List Addr) (H H' : MH) (env : Env) (ρ : Loc) (f v : MV) (as : List MV) (uf : Value) (us : List Value) (Q : Value → Shared → Prop),
  E.c f as H = some (v, H') → Room A d → St prog w B D adr H ρ env s.heap → VR D adr s.heap f uf → VRs D adr s.heap as us → Po prog w B D adr env s H' ρ (fun adr' h' u => VR D adr' h' v u) Q → wpAny (model prog w) A (call uf us) Q Er s
variable (prog w B D) in
noncomputable def SS (E : Ev) (d : Nat) : Prop := ∀ (m : Nat) (st : PySem.Stmt) (ms : MS) (A : Around) (Er : Value → Shared → Prop) (s : Shared) (adr : List Addr) (H H' : MH) (env : Env) (ρ ρ' : Loc) (o : Out) (Q : Flow → Shared → Prop),
  trS m env.scope st = some ms → E.s ms ρ H = some (o, ρ', H') → Room A d → St prog w B D adr H ρ env s.heap → Po prog w B D adr env s H' ρ' (fun adr' h' f => OutR D adr' h' o f) Q → wpAny (model prog w) A (exec st env) Q Er s
variable {E : Ev} {d : Nat} {A : Around} {Er : Value → Shared → Prop} {s : Shared} {adr : List Addr} {H H' : MH} {env : Env} {ρ ρ' : Loc}
theorem low_ok {z : Str} (h : low z = true) : okS z := fun c hc => of_decide_eq_true (List.all_eq_true.mp h c hc)
theorem okN_low {x : Str} (h : ¬ okN x = false) : okS x ∧ (x == ("__debug__" : Str)) = false ∧ (x == ("__classdict__" : Str)) = false := by
  rw [Bool.not_eq_false] at h
  unfold okN at h
  rw [Bool.and_eq_true, Bool.and_eq_true] at h
  exact ⟨low_ok h.1.1, by simpa using h.1.2, by simpa using h.2⟩
theorem vr_base {h : Heap} {v : MV} {u : Value} (S : SR prog w B D adr H h) (x : VR D [] B v u) : VR D adr h v u := x.mono (List.nil_prefix) (.of_keep S.base)
theorem x_cst {c : Const} {k : Nat} {pos : Pos} {v : MV} {Q : Value → Shared → Prop} (tr : trC c = some v) (S : St prog w B D adr H ρ env s.heap) (PQ : Po prog w B D adr env s H ρ (fun adr' h' u => VR D adr' h' v u) Q) :
    wpAny (model prog w) A (eval (.Constant c k pos) env) Q Er s := by
  have PQ : ∀ {v'}, some v' = some v → Po prog w B D adr env s H ρ (fun adr' h' u => VR D adr' h' v' u) Q := fun q => by rw [Option.some.inj q]; exact PQ
  cases c with
  | none => exact wpAny_Constant_none ((PQ tr).here S .none s.toks)
  | bool b => exact wpAny_Constant_bool ((PQ tr).here S (.bool _) s.toks)
  | int i => exact wpAny_Constant_int ((PQ tr).here S (.int _ _) _)
  | str z => exact gd tr fun h tr => wpAny_Constant_str ((PQ tr).here S (.str _ _ (low_ok h) _ rfl) _)
  | _ => cases tr
theorem trN_inv {sc : Scope} {x : Str} {e : MX} (tr : trN sc x = some e) : okS x ∧ (x == ("__debug__" : Str)) = false ∧ (((sc.names.lookup x = some .local ∨ sc.names.lookup x = some .cell) ∧ e = .loc (code x)) ∨ (sc.names.lookup x = some .globalImplicit ∧ e = .glb (code x))) := by
  unfold trN at tr
  by_cases hN : okN x = false
  · rw [if_pos hN] at tr; cases tr
  · rw [if_neg hN] at tr
    obtain ⟨h1, h2, _⟩ := okN_low hN
    refine ⟨h1, h2, ?_⟩
    split at tr
    · rename_i q; exact .inl ⟨.inl q, (Option.some.inj tr).symm⟩
    · rename_i q; exact .inl ⟨.inr q, (Option.some.inj tr).symm⟩
    · rename_i q; exact .inr ⟨q, (Option.some.inj tr).symm⟩
    · cases tr
theorem x_loc {x : Str} {pos : Pos} {v : MV} {Q : Value → Shared → Prop} (h1 : okS x) (h2 : (x == ("__debug__" : Str)) = false) (q : env.scope.names.lookup x = some .local ∨ env.scope.names.lookup x = some .cell) (hv : zf4 (code x) ρ = some v)
    (S : St prog w B D adr H ρ env s.heap) (PQ : Po prog w B D adr env s H ρ (fun adr' h' u => VR D adr' h' v u) Q) : wpAny (model prog w) A (eval (.Name x pos) env) Q Er s := by
  rcases q with q | q
  · obtain ⟨m, hns, hval⟩ := S.lr.ns
    obtain ⟨u, hu, xu⟩ := hval x v h1 hv q
    exact wpAny_Name (wpAny_loadName_local S.en.kind q hns hu (PQ.here S xu s.toks)) h2
  · obtain ⟨c, u, hc, hu, xu⟩ := S.lr.cv x v h1 hv q
    exact wpAny_Name (wpAny_loadName_cell S.en.kind q hc hu (PQ.here S xu s.toks)) h2
theorem x_glb (C : Cx prog w K B D P) {x : Str} {pos : Pos} {v : MV} {Q : Value → Shared → Prop} (h1 : okS x) (h2 : (x == ("__debug__" : Str)) = false) (q : env.scope.names.lookup x = some .globalImplicit) (hv : P.glb (code x) = some v)
    (S : St prog w B D adr H ρ env s.heap) (PQ : Po prog w B D adr env s H ρ (fun adr' h' u => VR D adr' h' v u) Q) : wpAny (model prog w) A (eval (.Name x pos) env) Q Er s := by
  obtain ⟨mg, mb, g1, g2, g3⟩ := C.glb
  obtain ⟨u, hu, xu⟩ := g3 x v h1 hv
  have fin := PQ.here S (vr_base S.sr xu) s.toks
  have gl : (env.globals) = mainGlobals := S.en.glob
  rcases hu with hu | ⟨hu1, hu2⟩
  · exact Name_function_global S.en.kind q (loadGlobal_global (mg := mg) (by rw [gl]; exact g1.keeps S.sr.base) hu fin) h2
  · exact Name_function_global S.en.kind q (loadGlobal_builtin (mg := mg) (mb := mb) (by rw [gl]; exact g1.keeps S.sr.base) hu1 (by rw [S.en.blt]; exact g2.keeps S.sr.base) hu2 fin) h2
theorem star_ok {m : Nat} {sc : Scope} {e : PySem.Expr} {x : MX} (h : trE m sc e = some x) (rest : List PySem.Expr) (env : Env) : starEach (e :: rest) env = (false, eval e env) :: starEach rest env := by
  cases e <;> first | rfl | (cases m <;> cases h)
theorem marks_ok {m : Nat} {sc : Scope} {e : PySem.Expr} {x : MX} (h : trE m sc e = some x) (op : CmpOp) : behindInMarks op e = false := by
  cases e <;> first | rfl | (cases m <;> cases h)
theorem all_inv {α β : Type} {f : α → Option β} {a : α} {l : List α} {r : List β} (e : all? f (a :: l) = some r) : ∃ b bs, f a = some b ∧ all? f l = some bs ∧ r = b :: bs :=
  bnd e fun b e1 e => bnd e fun bs e2 e => ⟨b, bs, e1, e2, (Option.some.inj e).symm⟩
theorem all_nil {α β : Type} {f : α → Option β} {r : List β} (e : all? f [] = some r) : r = [] := (Option.some.inj e).symm
theorem x_evs (hx : SX prog w B D E d) {m : Nat} {pos : Pos} {es : List PySem.Expr} : ∀ {ms : List MX} {s : Shared} {adr : List Addr} {H : MH} {vs : List MV} {Q : List Value → Shared → Prop}, all? (trE m env.scope) es = some ms → evs E ms ρ H = some (vs, H') → Room A d →
    St prog w B D adr H ρ env s.heap → Po prog w B D adr env s H' ρ (fun adr' h' us => VRs D adr' h' vs us) Q → wpAny (model prog w) A (spliced (backTo pos (starEach es env))) Q Er s := by
  induction es with
  | nil =>
    intro ms s adr H vs Q tr e R S PQ
    obtain rfl := all_nil tr
    have q := Option.some.inj e
    obtain rfl : H' = H := (congrArg Prod.snd q).symm
    obtain rfl : vs = [] := (congrArg Prod.fst q).symm
    exact wpAny_items_nil (PQ.here S .nil s.toks)
  | cons x es ih =>
    intro ms s adr H vs Q tr e R S PQ
    obtain ⟨a, as, t1, t2, rfl⟩ := all_inv tr
    refine bnd2 e fun v H1 e1 e => bnd2 e fun vs' H2 e2 e => ?_
    have q := Option.some.inj e
    obtain rfl : H' = H2 := (congrArg Prod.snd q).symm
    obtain rfl : vs = v :: vs' := (congrArg Prod.fst q).symm
    exact wpAny_items_cons (hx m x a A Er s adr H H1 env ρ v _ t1 e1 R S fun adr1 h1 k1 u1 T1 S1 x1 => ih (s := ⟨h1, s.gens, s.drawn, k1, s.os⟩) t2 e2 R S1 fun adr2 h2 k2 us T2 S2 x2 =>
      PQ adr2 h2 k2 (u1 :: us) (T1.trans T2) S2 (.cons (S1.vt T2 x1) x2)) (star_ok t1 es env)
theorem x_bin (hx : SX prog w B D E d) {m : Nat} {l r : PySem.Expr} {op : Operator} {pos : Pos} {a b : MX} {o : Op} {v : MV} {Q : Value → Shared → Prop} (t1 : trE m env.scope l = some a) (t2 : trOp op = some o) (t3 : trE m env.scope r = some b)
    (e : ((E.x a ρ H).bind fun u => (E.x b ρ u.2).bind fun v => binop o u.1 v.1 v.2) = some (v, H')) (R : Room A d) (S : St prog w B D adr H ρ env s.heap) (PQ : Po prog w B D adr env s H' ρ (fun adr' h' u => VR D adr' h' v u) Q) :
    wpAny (model prog w) A (eval (.BinOp l op r pos) env) Q Er s :=
  bnd2 e fun va H1 e1 e => bnd2 e fun vb H2 e2 e =>
  wpAny_BinOp (hx m l a A Er s adr H H1 env ρ va _ t1 e1 R S fun adr1 h1 k1 u1 T1 S1 x1 =>
  hx m r b A Er ⟨h1, s.gens, s.drawn, k1, s.os⟩ adr1 H1 H2 env ρ vb _ t3 e2 R S1 fun adr2 h2 k2 u2 T2 S2 x2 =>
  binop_ok (s := ⟨h2, s.gens, s.drawn, k2, s.os⟩) e t2 S2 (S1.vt T2 x1) x2 (PQ.after (T1.trans T2) k2))
theorem x_neg (hx : SX prog w B D E d) {m : Nat} {x : PySem.Expr} {pos : Pos} {a : MX} {v : MV} {Q : Value → Shared → Prop} (t1 : trE m env.scope x = some a)
    (e : ((E.x a ρ H).bind fun u => (asInt u.1).bind fun i => some (MV.int (-i), u.2)) = some (v, H')) (R : Room A d) (S : St prog w B D adr H ρ env s.heap) (PQ : Po prog w B D adr env s H' ρ (fun adr' h' u => VR D adr' h' v u) Q) :
    wpAny (model prog w) A (eval (.UnaryOp .USub x pos) env) Q Er s := by
  refine bnd2 e fun va H1 e1 e => bnd e fun i e2 e => wpAny_UnaryOp (hx m x a A Er s adr H H1 env ρ va _ t1 e1 R S fun adr1 h1 k1 u1 T1 S1 x1 => ?_)
  obtain ⟨t, rfl⟩ := asInt_vr e2 x1
  exact PyProof.Rows.neg_int (s := ⟨h1, s.gens, s.drawn, k1, s.os⟩) (((PQ.of e).after T1 k1).here S1 (.int _ _) _)
theorem truth_ok {M : Model} {v : MV} {u : Value} {b : Bool} {h : Heap} {s : Shared} {Q : Bool → Shared → Prop} (e : truth v H = some b) (x : VR D adr h v u) (hQ : Q b s) : wpAny M A (truthy u) Q Er s := by
  cases v with
  | bool c => rw [show u = .bool c from x.inv]; exact wpAny_truthy_bool ((Option.some.inj e).symm ▸ hQ)
  | _ => cases e
theorem x_not (hx : SX prog w B D E d) {m : Nat} {x : PySem.Expr} {pos : Pos} {a : MX} {v : MV} {Q : Value → Shared → Prop} (t1 : trE m env.scope x = some a)
    (e : ((E.x a ρ H).bind fun u => (truth u.1 u.2).bind fun b => some (MV.bool (!b), u.2)) = some (v, H')) (R : Room A d) (S : St prog w B D adr H ρ env s.heap) (PQ : Po prog w B D adr env s H' ρ (fun adr' h' u => VR D adr' h' v u) Q) :
    wpAny (model prog w) A (eval (.UnaryOp .Not x pos) env) Q Er s :=
  bnd2 e fun va H1 e1 e => bnd e fun b e2 e => wpAny_UnaryOp (hx m x a A Er s adr H H1 env ρ va _ t1 e1 R S fun adr1 h1 k1 u1 T1 S1 x1 =>
  not_of (s := ⟨h1, s.gens, s.drawn, k1, s.os⟩) (truth_ok e2 x1 (((PQ.of e).after T1 k1).here S1 (.bool _) _)))
theorem cmp_pair (hx : SX prog w B D E d) {m : Nat} {l r : PySem.Expr} {a b : MX} {va vb : MV} {H1 H2 : MH} {op : CmpOp} {o : Co} {g : Bool} {Q : Value → Shared → Prop} (t1 : trE m env.scope l = some a) (t2 : trCo op = some o) (t3 : trE m env.scope r = some b) (e1 : E.x a ρ H = some (va, H1)) (e2 : E.x b ρ H1 = some (vb, H2)) (e3 : compare o va vb H2 = some g)
    (R : Room A d) (S : St prog w B D adr H ρ env s.heap) (k : ∀ adr2 h2 (k2 : Nat) u2, Tn adr env s.heap adr2 h2 → St prog w B D adr2 H2 ρ env h2 → VR D adr2 h2 vb u2 → ∀ t, Q (.bool g) ⟨h2, s.gens, s.drawn, t, s.os⟩) {Q' : Value → Value → Shared → Prop}
    (kk : ∀ u1 u2 s', wpAny (model prog w) A (compareOp op u1 u2) Q Er s' → Q' u1 u2 s') :
    wpAny (model prog w) A (eval l env) (fun u1 s1 => wpAny (model prog w) A (eval r env) (fun u2 s2 => Q' u1 u2 s2) Er s1) Er s :=
  hx m l a A Er s adr H H1 env ρ va _ t1 e1 R S fun adr1 h1 k1 u1 T1 S1 x1 =>
  hx m r b A Er ⟨h1, s.gens, s.drawn, k1, s.os⟩ adr1 H1 H2 env ρ vb _ t3 e2 R S1 fun adr2 h2 k2 u2 T2 S2 x2 => kk u1 u2 _
    (compare_ok (s := ⟨h2, s.gens, s.drawn, k2, s.os⟩) e3 t2 S2.sr (S1.vt T2 x1) x2 (by have := R.units; omega) (k adr2 h2 k2 u2 (T1.trans T2) S2 x2))
theorem x_cmp (hx : SX prog w B D E d) {m : Nat} {l r : PySem.Expr} {op : CmpOp} {pos : Pos} {a b : MX} {o : Co} {v : MV} {Q : Value → Shared → Prop} (t1 : trE m env.scope l = some a) (t2 : trCo op = some o) (t3 : trE m env.scope r = some b)
    (e : ((E.x a ρ H).bind fun u => (E.x b ρ u.2).bind fun v => (compare o u.1 v.1 v.2).bind fun r => some (MV.bool r, v.2)) = some (v, H')) (R : Room A d) (S : St prog w B D adr H ρ env s.heap) (PQ : Po prog w B D adr env s H' ρ (fun adr' h' u => VR D adr' h' v u) Q) :
    wpAny (model prog w) A (eval (.Compare l [op] [r] pos) env) Q Er s :=
  bnd2 e fun va H1 e1 e => bnd2 e fun vb H2 e2 e => bnd e fun g e3 e =>
  wpAny_Compare1 (cmp_pair hx t1 t2 t3 e1 e2 e3 R S (fun adr2 h2 k2 u2 T2 S2 _ t => ((PQ.of e).after T2 k2).here S2 (.bool _) t) fun _ _ _ h => h) (marks_ok t3 op)
end
end Mn
end
section
set_option maxRecDepth 100000
namespace Mn
open PySem PySem.W PyProof.Rows PySem.Calls SeqAt
section
variable {prog : Program} {w : World} {K : Frag} {B : Heap} {D : Ad} {P : Pg}
variable {E : Ev} {d : Nat} {A : Around} {Er : Value → Shared → Prop} {s : Shared} {adr : List Addr} {H H' : MH} {env : Env} {ρ ρ' : Loc}
theorem x_bops (hx : SX prog w B D E d) {m : Nat} {pos : Pos} {op : BoolOp} {es : List PySem.Expr} : ∀ {ms : List MX} {s : Shared} {adr : List Addr} {H : MH} {v : MV} {Q : Value → Shared → Prop}, all? (trE m env.scope) es = some ms → bops E (conj op) ms ρ H = some (v, H') → Room A d →
    St prog w B D adr H ρ env s.heap → Po prog w B D adr env s H' ρ (fun adr' h' u => VR D adr' h' v u) Q → wpAny (model prog w) A (boolOp pos op (evalEach es env)) Q Er s := by
  induction es with
  | nil =>
    intro ms s adr H v Q tr e R S PQ
    obtain rfl := all_nil tr
    cases e
  | cons x es ih =>
    intro ms s adr H v Q tr e R S PQ
    obtain ⟨a, as, t1, t2, rfl⟩ := all_inv tr
    cases es with
    | nil =>
      obtain rfl := all_nil t2
      exact hx m x a A Er s adr H H' env ρ v _ t1 e R S PQ
    | cons y es =>
      obtain ⟨a', as', _, _, rfl⟩ := all_inv t2
      have e : ((E.x a ρ H).bind fun u => (truth u.1 u.2).bind fun b => if b = conj op then bops E (conj op) (a' :: as') ρ u.2 else some u) = some (v, H') := e
      refine bnd2 e fun va H1 e1 e => bnd e fun b e2 e => ?_
      show wpAny (model prog w) A (do
        let v ← eval x env
        standAt pos
        let t ← holding [v] (truthy v)
        match op, t with
        | .And, false | .Or, true => pure v
        | _, _ => boolOp pos op (evalEach (y :: es) env)) Q Er s
      refine wpAny_bind (hx m x a A Er s adr H H1 env ρ va _ t1 e1 R S fun adr1 h1 k1 u1 T1 S1 x1 => wpAny_bind (wpAny_standAt (wpAny_bind (wpAny_holding (truth_ok e2 x1 ?_)))))
      have next : ∀ b', b' = conj op → (if b' = conj op then bops E (conj op) (a' :: as') ρ H1 else some (va, H1)) = some (v, H') → wpAny (model prog w) A (boolOp pos op (evalEach (y :: es) env)) Q Er ⟨h1, s.gens, s.drawn, k1, s.os⟩ :=
        fun b' q e => ih (s := ⟨h1, s.gens, s.drawn, k1, s.os⟩) (Q := Q) t2 (by rw [if_pos q] at e; exact e) R S1 (PQ.after T1 k1)
      have last : ∀ b', b' ≠ conj op → (if b' = conj op then bops E (conj op) (a' :: as') ρ H1 else some (va, H1)) = some (v, H') → wpAny (model prog w) A (pure u1) Q Er ⟨h1, s.gens, s.drawn, k1, s.os⟩ :=
        fun b' q e => wpAny_pure (((PQ.of (by rw [if_neg q] at e; exact e)).after T1 k1).here S1 x1 k1)
      cases op with
      | And => cases b with
        | true => exact next true rfl e
        | false => exact last false Bool.false_ne_true e
      | Or => cases b with
        | true => exact last true Bool.false_ne_true.symm e
        | false => exact next false rfl e
theorem x_cmp2 (hx : SX prog w B D E d) {m : Nat} {l r r' : PySem.Expr} {op op' : CmpOp} {pos : Pos} {a b c : MX} {o o' : Co} {v : MV} {Q : Value → Shared → Prop} (t1 : trE m env.scope l = some a) (t2 : trCo op = some o) (t3 : trE m env.scope r = some b)
    (t4 : trCo op' = some o') (t5 : trE m env.scope r' = some c)
    (e : ((E.x a ρ H).bind fun u => (E.x b ρ u.2).bind fun v => (compare o u.1 v.1 v.2).bind fun r => match r with
      | true => (E.x c ρ v.2).bind fun w => (compare o' v.1 w.1 w.2).bind fun r' => some (MV.bool r', w.2)
      | false => some (MV.bool false, v.2)) = some (v, H')) (R : Room A d) (S : St prog w B D adr H ρ env s.heap) (PQ : Po prog w B D adr env s H' ρ (fun adr' h' u => VR D adr' h' v u) Q) :
    wpAny (model prog w) A (eval (.Compare l [op, op'] [r, r'] pos) env) Q Er s := by
  refine bnd2 e fun va H1 e1 e => bnd2 e fun vb H2 e2 e => bnd e fun g e3 e => ?_
  have hu : A.units + 12 < cLine := by have := R.units; omega
  refine Compare_chain (hx m l a A Er s adr H H1 env ρ va _ t1 e1 R S fun adr1 h1 k1 u1 T1 S1 x1 => ?_) (by simp [lastMarks, marks_ok t5 op'])
  refine chain_link (hx m r b A Er ⟨h1, s.gens, s.drawn, k1, s.os⟩ adr1 H1 H2 env ρ vb _ t3 e2 R S1 fun adr2 h2 k2 u2 T2 S2 x2 => ?_)
  refine compare_ok (s := ⟨h2, s.gens, s.drawn, k2, s.os⟩) e3 t2 S2.sr (S1.vt T2 x1) x2 hu fun t => wpAny_truthy_bool ?_
  cases g with
  | false => exact ((PQ.of e).after (T1.trans T2) k2).here S2 (.bool _) t
  | true =>
    exact bnd2 e fun vc H3 e4 e => bnd e fun g' e5 e => chain_last (hx m r' c A Er ⟨h2, s.gens, s.drawn, t, s.os⟩ adr2 H2 H3 env ρ vc _ t5 e4 R S2 fun adr3 h3 k3 u3 T3 S3 x3 =>
      compare_ok (s := ⟨h3, s.gens, s.drawn, k3, s.os⟩) e5 t4 S3.sr (S2.vt T3 x2) x3 hu fun t => ((PQ.of e).after ((T1.trans T2).trans T3) k3).here S3 (.bool _) t)
theorem x_ife (hx : SX prog w B D E d) (ht : ST prog w B D E d) {m : Nat} {c l r : PySem.Expr} {pos : Pos} {a b k : MX} {v : MV} {Q : Value → Shared → Prop} (t1 : trE m env.scope c = some k) (t2 : trE m env.scope l = some a) (t3 : trE m env.scope r = some b)
    (e : ((E.t k ρ H).bind fun u => match u.1 with | true => E.x a ρ u.2 | false => E.x b ρ u.2) = some (v, H')) (R : Room A d) (S : St prog w B D adr H ρ env s.heap) (PQ : Po prog w B D adr env s H' ρ (fun adr' h' u => VR D adr' h' v u) Q) :
    wpAny (model prog w) A (eval (.IfExp c l r pos) env) Q Er s := by
  refine bnd2 e fun g H1 e1 e => wpAny_IfExp (ht m c k A Er s adr H H1 env ρ g _ t1 e1 R S fun adr1 h1 k1 u1 T1 S1 x1 => ?_)
  rw [show u1 = g from x1]
  cases g with
  | true => exact hx m l a A Er ⟨h1, s.gens, s.drawn, k1, s.os⟩ adr1 H1 H' env ρ v _ t2 e R S1 (PQ.after T1 k1)
  | false => exact hx m r b A Er ⟨h1, s.gens, s.drawn, k1, s.os⟩ adr1 H1 H' env ρ v _ t3 e R S1 (PQ.after T1 k1)
theorem base_eq {o : PySem.Expr} (h : isCall o = false) (x : Str) (env : Env) (whole : Sem Value) : attributeBase o x env whole = whole := by
  cases o <;> first | rfl | cases h
theorem instAt_inv {o : MV} {q : Nat × Nat × List (MV × MV)} (e : instAt H o = some q) : ∃ k, o = .ref k ∧ H.get k = some (.inst q.1 q.2.1) ∧ H.get q.2.1 = some (.dict q.2.2) := by
  cases o with
  | ref k =>
    refine bnd e fun ob e1 e => ?_
    cases ob with
    | inst c d =>
      refine bnd e fun od e2 e => ?_
      cases od with
      | dict es => rw [← Option.some.inj e]; exact ⟨k, rfl, e1, e2⟩
      | _ => cases e
    | _ => cases e
  | _ => cases e
theorem attr_ok (C : Cx prog w K B D P) {z : Str} {o v : MV} {u : Value} (hz : okS z) (e : attr P H o (code z) = some v) (S : St prog w B D adr H ρ env s.heap) (x : VR D adr s.heap o u) {expr : Bool} {Q : Value → Shared → Prop} (PQ : Po prog w B D adr env s H ρ (fun adr' h' u => VR D adr' h' v u) Q) :
    wpAny (model prog w) A (getAttr u z expr) Q Er s := by
  refine bnd e fun q e1 e => ?_
  obtain ⟨k, rfl, e1, e2⟩ := instAt_inv e1
  refine gd e fun hk e => ?_
  have X := C.X.keeps S.sr.base
  by_cases ha : P.atr q.1 (code z) = true
  · rw [if_pos ha] at e
    exact bnd e fun v' e3 e => gd e fun hb e => attr_value X (C.cls _ (.inl ⟨_, ha⟩)) S.sr hz e1 e2 hk ha (e3.trans e) (Option.some.inj e ▸ hb) x fun u' t x' => PQ.here S x' t
  · rw [if_neg ha] at e
    exact gd e fun e3 e => bnd e fun f e4 e => attr_bound X (C.cls _ (.inr ⟨_, _, e4⟩)) S hz e1 e2 hk e4 e3 x (PX.of (congrArg (Option.map fun v => (v, H)) e) PQ)
theorem x_att (C : Cx prog w K B D P) (hx : SX prog w B D E d) {m : Nat} {o : PySem.Expr} {z : Str} {pos : Pos} {a : MX} {v : MV} {Q : Value → Shared → Prop} (hz : okS z) (hc : isCall o = false) (t1 : trE m env.scope o = some a)
    (e : ((E.x a ρ H).bind fun u => (attr P u.2 u.1 (code z)).bind fun v => some (v, u.2)) = some (v, H')) (R : Room A d) (S : St prog w B D adr H ρ env s.heap) (PQ : Po prog w B D adr env s H' ρ (fun adr' h' u => VR D adr' h' v u) Q) :
    wpAny (model prog w) A (eval (.Attribute o z pos) env) Q Er s := by
  rw [arm_eval_Attribute, base_eq hc]
  exact bnd2 e fun va H1 e1 e => bnd e fun v' e2 e => wpAny_bind (hx m o a A Er s adr H H1 env ρ va _ t1 e1 R S fun adr1 h1 k1 u1 T1 S1 x1 =>
    wpAny_bind (wpAny_standAt (wpAny_bind (wpAny_holding (attr_ok (s := ⟨h1, s.gens, s.drawn, k1, s.os⟩) C hz e2 S1 x1 fun adr2 h2 k2 u2 T2 S2 x2 => wpAny_bind (wpAny_letTemporaryGo (wpAny_pure (PQ.of e adr2 h2 k2 u2 (T1.trans T2) S2 x2))))))))
theorem slice_not {m : Nat} {sc : Scope} {i : PySem.Expr} {x : MX} (h : trE m sc i = some x) : isSlc i = false := by
  cases i with
  | Slice => cases m <;> cases h
  | _ => rfl
theorem x_sub (hx : SX prog w B D E d) {m : Nat} {o i : PySem.Expr} {pos : Pos} {a b : MX} {v : MV} {Q : Value → Shared → Prop} (t1 : trE m env.scope o = some a) (t2 : trE m env.scope i = some b)
    (e : ((E.x a ρ H).bind fun u => (E.x b ρ u.2).bind fun v => (item v.2 u.1 v.1).bind fun r => some (r, v.2)) = some (v, H')) (R : Room A d) (S : St prog w B D adr H ρ env s.heap) (PQ : Po prog w B D adr env s H' ρ (fun adr' h' u => VR D adr' h' v u) Q) :
    wpAny (model prog w) A (eval (.Subscript o i pos) env) Q Er s :=
  bnd2 e fun va H1 e1 e => bnd2 e fun vb H2 e2 e => bnd e fun r e3 e => Subscript_ (hx m o a A Er s adr H H1 env ρ va _ t1 e1 R S fun adr1 h1 k1 u1 T1 S1 x1 =>
  hx m i b A Er ⟨h1, s.gens, s.drawn, k1, s.os⟩ adr1 H1 H2 env ρ vb _ t2 e2 R S1 fun adr2 h2 k2 u2 T2 S2 x2 =>
  item_ok (s := ⟨h2, s.gens, s.drawn, k2, s.os⟩) S2.sr e3 (S1.vt T2 x1) x2 (slice_not t2) fun u t x => ((PQ.of e).after (T1.trans T2) k2).here S2 x t)
theorem x_tup (hx : SX prog w B D E d) {m : Nat} {es : List PySem.Expr} {pos : Pos} {x1} {ms : List MX} {v : MV} {Q : Value → Shared → Prop} (tr : all? (trE m env.scope) es = some ms)
    (e : ((evs E ms ρ H).bind fun v => if v.1.length ≤ lim then some (MV.tup v.1, v.2) else none) = some (v, H')) (R : Room A d) (S : St prog w B D adr H ρ env s.heap) (PQ : Po prog w B D adr env s H' ρ (fun adr' h' u => VR D adr' h' v u) Q) :
    wpAny (model prog w) A (eval (.Tuple es x1 pos) env) Q Er s :=
  bnd2 e fun vs H1 e1 e => gd e fun hz e => wpAny_Tuple_spliced (x_evs hx tr e1 R S fun adr1 h1 k1 us T1 S1 x1 => ⟨by rw [← x1.length]; exact Nat.le_trans hz (by decide),
    PX.tuple (s := ⟨h1, s.gens, s.drawn, k1, s.os⟩) (ws := us.toArray) ((PQ.of e).after T1 k1) S1 x1 k1⟩)
theorem x_lst (hx : SX prog w B D E d) {m : Nat} {es : List PySem.Expr} {pos : Pos} {ms : List MX} {v : MV} {Q : Value → Shared → Prop} (tr : all? (trE m env.scope) es = some ms)
    (e : ((evs E ms ρ H).bind fun v => newL v.2 v.1) = some (v, H')) (R : Room A d) (S : St prog w B D adr H ρ env s.heap) (PQ : Po prog w B D adr env s H' ρ (fun adr' h' u => VR D adr' h' v u) Q) :
    wpAny (model prog w) A (eval (.List es pos) env) Q Er s :=
  bnd2 e fun vs H1 e1 e => wpAny_List_spliced (x_evs hx tr e1 R S fun adr1 h1 k1 us T1 S1 x1 => PX.list (s := ⟨h1, s.gens, s.drawn, k1, s.os⟩) (ws := us.toArray) e (PQ.after T1 k1) S1 x1 k1)
theorem x_dct {pos : Pos} {Q : Value → Shared → Prop} (S : St prog w B D adr H ρ env s.heap) (PQ : Po prog w B D adr env s (H.new (.dict [])) ρ (fun adr' h' u => VR D adr' h' (.ref H.next) u) Q) :
    wpAny (model prog w) A (eval (.Dict [] [] pos) env) Q Er s := by
  rw [eval_Dict_empty]
  refine wpAny_bind (wpAny_standAt ?_)
  unfold newDict
  refine wpAny_newObj_type ?_ (by size_fits)
  exact PX.made PQ S keep_push none_size (fun hp => .dictS _ _ [] (Heap.DictOf.new s.heap) .nil (new_none S.sr)) s.toks
end
end Mn
end
section
set_option maxRecDepth 100000
namespace Mn
open PySem PySem.W PyProof.Rows PySem.Calls SeqAt
section
variable {prog : Program} {w : World} {K : Frag} {B : Heap} {D : Ad} {P : Pg}
variable {E : Ev} {d : Nat} {A : Around} {Er : Value → Shared → Prop} {s : Shared} {adr : List Addr} {H H' : MH} {env : Env} {ρ ρ' : Loc}
noncomputable def PartR (D : Ad) (adr : List Addr) (h : Heap) : Option MV → Value → Prop
  | none, u => u = .none
  | some v, u => VR D adr h v u
theorem x_evo (hx : SX prog w B D E d) {m : Nat} {eo : Option PySem.Expr} {mo : Option MX} {ov : Option MV} {Q : Value → Shared → Prop} (tr : opt? (trE m env.scope) eo = some mo) (e : evo E mo ρ H = some (ov, H')) (R : Room A d)
    (S : St prog w B D adr H ρ env s.heap) (PQ : Po prog w B D adr env s H' ρ (fun adr' h' u => PartR D adr' h' ov u) Q) : wpAny (model prog w) A (evalPart eo env) Q Er s := by
  cases eo with
  | none =>
    obtain rfl : mo = none := (Option.some.inj tr).symm
    have q := Option.some.inj e
    obtain rfl : H' = H := (congrArg Prod.snd q).symm
    obtain rfl : ov = none := (congrArg Prod.fst q).symm
    exact wpAny_evalPart_none (PQ.here S rfl s.toks)
  | some x =>
    refine bnd tr fun a t1 tr => ?_
    obtain rfl : mo = some a := (Option.some.inj tr).symm
    refine bnd2 e fun v H1 e1 e => ?_
    have q := Option.some.inj e
    obtain rfl : H' = H1 := (congrArg Prod.snd q).symm
    obtain rfl : ov = some v := (congrArg Prod.fst q).symm
    exact wpAny_evalPart_some (hx m x a A Er s adr H H' env ρ v _ t1 e1 R S PQ)
theorem PartR.mono {h h' : Heap} {adr' : List Addr} {ov : Option MV} {u : Value} (hp : adr <+: adr') (hs : SoftKeep h h') (x : PartR D adr h ov u) : PartR D adr' h' ov u := by
  cases ov with
  | none => exact x
  | some v => exact VR.mono hp hs x
theorem cut_ok {vs r : List MV} {us : List Value} {lo hi : Option MV} {ul uh : Value} {h : Heap} (e : cut vs lo hi = some r) (hv : VRs D adr h vs us) (xl : PartR D adr h lo ul) (xh : PartR D adr h hi uh) :
    ∃ l g, IsPart ul l ∧ IsPart uh g ∧ VRs D adr h r (slicePick us.toArray l g none).toList := by
  cases lo with
  | none =>
    obtain rfl : ul = .none := xl
    cases hi with
    | none => cases e
    | some v =>
      refine bnd e fun j e1 e => gd e fun hj e => ?_
      obtain ⟨t, rfl⟩ := asInt_vr e1 xh
      refine ⟨none, some j, .none, .int _ _, ?_⟩
      have q : slicePick us.toArray none (some j) none = (us.take j.toNat).toArray := by
        have := slicePick_upto' us.toArray j.toNat
        rw [show ((j.toNat : Nat) : Int) = j by omega] at this
        exact this
      rw [q, ← Option.some.inj e]
      exact hv.take _
  | some v =>
    cases hi with
    | some _ => cases e
    | none =>
      obtain rfl : uh = .none := xh
      refine bnd e fun j e1 e => gd e fun hj e => ?_
      obtain ⟨t, rfl⟩ := asInt_vr e1 xl
      refine ⟨some j, none, .int _ _, .none, ?_⟩
      have q : slicePick us.toArray (some j) none none = (us.drop j.toNat).toArray := by
        have := slicePick_from' us.toArray j.toNat
        rw [show ((j.toNat : Nat) : Int) = j by omega] at this
        exact this
      rw [q, ← Option.some.inj e]
      exact hv.drop _
theorem slice_ok {va v : MV} {vl vh : Option MV} {u1 u2 u3 : Value} {Q : Value → Shared → Prop} {value : PySem.Expr} {lo hi : Option PySem.Expr} {p : Pos} (e : slice H va vl vh = some (v, H')) (S : St prog w B D adr H ρ env s.heap) (x1 : VR D adr s.heap va u1) (x2 : PartR D adr s.heap vl u2) (x3 : PartR D adr s.heap vh u3)
    (PQ : Po prog w B D adr env s H' ρ (fun adr' h' u => VR D adr' h' v u) Q) :
    wpAny (model prog w) A (subscriptTail value (.Slice lo hi none p) u1 (.ref s.heap.objs.size)) Q Er { s with heap := s.heap.push { cls := .type "slice", data := .fields #[u2, u3, .none] } } := by
  refine bnd e fun vs e4 e => gd e fun hz e => bnd e fun r e5 e => gd e fun hz' e => ?_
  obtain ⟨k', b, ws, _, rfl, hb, hl, hv⟩ := listAt_ok S.sr e4 x1
  obtain ⟨l, g, p1, p2, p4⟩ := cut_ok e5 hv x2 x3
  have hn := hv.length.trans Array.length_toList
  have hlim := lim_eq
  refine tail_any (T := "list") (hl.push _).typeIs list_getitem_lookup (wpAny_getItem_list_slice (hl.push _) (Heap.IsSliceOf.new ..) p1 p2 .none (by simp) ?_ (by rw [sizeLine_eq]; omega)) rfl
  dsimp only
  rw [Heap.size_push]
  have k0 : ∀ b o, s.heap.get? b = some o → ((s.heap.push { cls := .type "slice", data := .fields #[u2, u3, .none] }).push { cls := .type "list", data := .seq (slicePick ws l g none) }).get? b = some o := fun b o e => Heap.get?_push_of_some _ (Heap.get?_push_of_some _ e)
  refine PX.made (a := s.heap.objs.size + 1) (PX.of e PQ) S k0 (Heap.get?_none_of_le (Nat.le_succ _)) (fun hp => .list _ _ _ ⟨0, ?_⟩ (p4.mono hp (.of_keep k0)) (off_le S.sr (Nat.le_succ _))) s.toks
  have := Heap.get?_push_size (s.heap.push { cls := .type "slice", data := .fields #[u2, u3, .none] }) (o := { cls := .type "list", data := .seq (slicePick ws l g none) }) rfl
  rw [Heap.size_push] at this
  exact this
theorem x_slc (hx : SX prog w B D E d) {m : Nat} {o : PySem.Expr} {lo hi : Option PySem.Expr} {p pos : Pos} {a : MX} {ml mh : Option MX} {v : MV} {Q : Value → Shared → Prop} (t1 : trE m env.scope o = some a) (t2 : opt? (trE m env.scope) lo = some ml) (t3 : opt? (trE m env.scope) hi = some mh)
    (e : ((E.x a ρ H).bind fun u => (evo E ml ρ u.2).bind fun v => (evo E mh ρ v.2).bind fun w => slice w.2 u.1 v.1 w.1) = some (v, H')) (R : Room A d) (S : St prog w B D adr H ρ env s.heap) (PQ : Po prog w B D adr env s H' ρ (fun adr' h' u => VR D adr' h' v u) Q) :
    wpAny (model prog w) A (eval (.Subscript o (.Slice lo hi none p) pos) env) Q Er s := by
  refine bnd2 e fun va H1 e1 e => bnd2 e fun vl H2 e2 e => bnd2 e fun vh H3 e3 e => Subscript_ (hx m o a A Er s adr H H1 env ρ _ _ t1 e1 R S fun adr1 h1 k1 u1 T1 S1 x1 =>
    wpAny_Slice (x_evo (s := ⟨h1, s.gens, s.drawn, k1, s.os⟩) hx t2 e2 R S1 fun adr2 h2 k2 u2 T2 S2 x2 => x_evo (s := ⟨h2, s.gens, s.drawn, k2, s.os⟩) hx t3 e3 R S2 fun adr3 h3 k3 u3 T3 S3 x3 => ?_))
  rw [evalPart_none]
  exact wpAny_pure (slice_ok (s := ⟨h3, s.gens, s.drawn, k3, s.os⟩) e S3 (S1.vt (T2.trans T3) x1) (x2.mono T3.pre (S2.soft T3.kp)) x3 (PQ.after ((T1.trans T2).trans T3) k3))
end
end Mn
end
section
set_option maxRecDepth 100000
namespace Mn
open PySem PySem.W PyProof.Rows PySem.Calls SeqAt
section
variable {prog : Program} {w : World} {K : Frag} {B : Heap} {D : Ad} {P : Pg}
variable {E : Ev} {d : Nat} {A : Around} {Er : Value → Shared → Prop} {s : Shared} {adr : List Addr} {H H' : MH} {env : Env} {ρ ρ' : Loc}
theorem kst_inv {k : Loc → MH → Option (Out × Loc × MH)} {o1 o : Out} {ρ1 : Loc} {H1 : MH} (e : kst k (o1, ρ1, H1) = some (o, ρ', H')) : (o1 = .nxt ∧ k ρ1 H1 = some (o, ρ', H')) ∨ ∃ v, o1 = .ret v ∧ some (Out.ret v, ρ1, H1) = some (o, ρ', H') := by
  cases o1 with
  | nxt => exact .inl ⟨rfl, e⟩
  | ret v => exact .inr ⟨v, rfl, e⟩
theorem x_stmts (hs : SS prog w B D E d) {m : Nat} {es : List PySem.Stmt} : ∀ {ms : List MS} {s : Shared} {adr : List Addr} {H : MH} {ρ : Loc} {o : Out} {Q : Flow → Shared → Prop}, all? (trS m env.scope) es = some ms → stmts E ms ρ H = some (o, ρ', H') → Room A d →
    St prog w B D adr H ρ env s.heap → Po prog w B D adr env s H' ρ' (fun adr' h' f => OutR D adr' h' o f) Q → wpAny (model prog w) A (execs es env) Q Er s := by
  induction es with
  | nil =>
    intro ms s adr H ρ o Q tr e R S PQ
    obtain rfl := all_nil tr
    exact wpAny_execs_nil ((PQ.ofS e).here S rfl s.toks)
  | cons x es ih =>
    intro ms s adr H ρ o Q tr e R S PQ
    obtain ⟨a, as, t1, t2, rfl⟩ := all_inv tr
    refine bnd3 e fun o1 ρ1 H1 e1 e => wpAny_execs_cons (hs m x a A Er s adr H H1 env ρ ρ1 o1 _ t1 e1 R S fun adr1 h1 k1 f1 T1 S1 x1 => ?_)
    rcases kst_inv e with ⟨rfl, e⟩ | ⟨v, rfl, e⟩
    · rw [show f1 = .next from x1]
      exact ih (s := ⟨h1, s.gens, s.drawn, k1, s.os⟩) t2 e R S1 (PQ.after T1 k1)
    · obtain ⟨u, rfl, xu⟩ := x1
      exact PQ.ofS e adr1 h1 k1 _ T1 S1 ⟨u, rfl, xu⟩
theorem binds_mem {h : Heap} {x : Str} {v : MV} (hx : okS x) {names : List Str} : ∀ {vs : List MV} {us : List Value}, (∀ y ∈ names, okS y) → VRs D adr h vs us → names.length = us.length → zf4 (code x) ((names.map code).zip vs) = some v → ∃ u, (x, u) ∈ names.zip us ∧ VR D adr h v u := by
  induction names with
  | nil => intro vs us _ _ _ e; cases e
  | cons n names ih =>
    intro vs us hy hv hl e
    cases vs with
    | nil => cases e
    | cons v0 vs =>
      obtain ⟨u0, us, rfl, hv, hs⟩ := hv.inv
      have e : (if code n = code x then some v0 else zf4 (code x) ((names.map code).zip vs)) = some v := (getL_ite _ _ _ _).symm.trans e
      by_cases q : code n = code x
      · rw [if_pos q] at e
        rw [code_inj (hy n (.head _)) hx q, ← Option.some.inj e]
        exact ⟨u0, .head _, hv⟩
      · rw [if_neg q] at e
        obtain ⟨u, m, r⟩ := ih (fun y h => hy y (.tail _ h)) hs (Nat.succ.inj hl) e
        exact ⟨u, .tail _ m, r⟩
theorem bindL_out {k : Str → Option NameKind} {x : Str} : ∀ {l : List (Str × Value)} {m : Str → Option Value}, x ∉ l.map (·.1) → bindL k l m x = m x
  | [], m, _ => rfl
  | (n, v) :: r, m, h => by
    rw [List.map_cons] at h
    show bindL k r _ x = _
    rw [bindL_out fun q => h (.tail _ q)]
    split
    · exact if_neg fun (e : x = n) => h (e ▸ .head _)
    · rfl
theorem bindL_mem {k : Str → Option NameKind} {x : Str} {u : Value} (hk : k x = some .local) : ∀ {l : List (Str × Value)} {m : Str → Option Value}, (l.map (·.1)).Nodup → (x, u) ∈ l → bindL k l m x = some u
  | [], _, _, h => nomatch h
  | (n, v) :: r, m, hn, h => by
    rw [List.map_cons, List.nodup_cons] at hn
    show bindL k r _ x = _
    rcases List.mem_cons.mp h with e | h
    · obtain rfl : x = n := congrArg Prod.fst e
      rw [bindL_out hn.1, if_pos hk, show u = v from congrArg Prod.snd e]
      exact if_pos rfl
    · exact bindL_mem hk hn.2 h
theorem bindC_out {k : Str → Option NameKind} {x : Str} : ∀ {l : List (Str × Value)} {m : Str → Option Value}, x ∉ l.map (·.1) → bindC k l m x = m x
  | [], m, _ => rfl
  | (n, v) :: r, m, h => by
    rw [List.map_cons] at h
    show bindC k r _ x = _
    rw [bindC_out fun q => h (.tail _ q)]
    split
    · rfl
    · exact if_neg fun (e : x = n) => h (e ▸ .head _)
theorem bindC_mem {k : Str → Option NameKind} {x : Str} {u : Value} (hk : k x = some .cell) : ∀ {l : List (Str × Value)} {m : Str → Option Value}, (l.map (·.1)).Nodup → (x, u) ∈ l → bindC k l m x = some u
  | [], _, _, h => nomatch h
  | (n, v) :: r, m, hn, h => by
    rw [List.map_cons, List.nodup_cons] at hn
    show bindC k r _ x = _
    rcases List.mem_cons.mp h with e | h
    · obtain rfl : x = n := congrArg Prod.fst e
      rw [bindC_out hn.1, if_neg (by rw [hk]; nofun), show u = v from congrArg Prod.snd e]
      exact if_pos rfl
    · exact bindC_mem hk hn.2 h
theorem cells_fst : ∀ (names : List (Str × NameKind)) (n : Nat) (acc : List (Str × Addr)), (cellsFrom n names acc).map (·.1) = ((names.filter fun p => p.2 == .cell).map (·.1)).reverse ++ acc.map (·.1)
  | [], n, acc => rfl
  | (nm, kd) :: r, n, acc => by
    unfold cellsFrom
    rw [List.filter_cons]
    by_cases q : (kd == NameKind.cell) = true
    · rw [if_pos q, if_pos q, cells_fst r, List.map_cons, List.map_cons, List.reverse_cons, List.append_assoc]; rfl
    · rw [if_neg q, if_neg q, cells_fst r]
theorem pick_nodup {α : Type} {f : Str × α → Bool} {names : List (Str × α)} (h : (names.map (·.1)).Nodup) : (((names.filter f).map Prod.fst).reverse ++ ([] : List Str)).Nodup := by
  rw [List.append_nil]
  exact List.pairwise_reverse.mpr ((List.Nodup.sublist (List.Sublist.map _ List.filter_sublist) h).imp Ne.symm)
theorem look_some {α : Type} {x : Str} : ∀ {l : List (Str × α)}, x ∈ l.map (·.1) → ∃ c, l.lookup x = some c
  | [], h => nomatch h
  | (n, c) :: r, h => by
    rw [List.lookup_cons]
    cases q : x == n with
    | true => exact ⟨c, rfl⟩
    | false => exact look_some ((List.mem_cons.mp h).elim (fun e => by rw [show x = n from e, beq_self_eq_true] at q; cases q) id)
theorem SR.grown (S : SR prog w B D adr H s.heap) {h' : Heap} (k : ∀ b o, s.heap.get? b = some o → h'.get? b = some o) : SR prog w B D adr H h' := by
  have hs : SoftKeep s.heap h' := .of_keep k
  refine ⟨fun b o e => k _ _ (S.base b o e), S.len, S.nd, fun i o e => ?_, S.full, S.st⟩
  obtain ⟨a, e1, O⟩ := S.obj i o e
  exact ⟨a, e1, O.mono (List.prefix_refl _) hs fun ob e => k _ _ e⟩
theorem St.left {env' : Env} {ρ₁ : Loc} {adr' : List Addr} {h₁ h' : Heap} (S : St prog w B D adr H ρ env s.heap) (k : ∀ b o, s.heap.get? b = some o → h₁.get? b = some o) (hf : ∀ a ∈ own env', s.heap.get? a = none)
    (T : Tn adr env' h₁ adr' h') (S' : St prog w B D adr' H' ρ₁ env' h') : Tn adr env s.heap adr' h' ∧ St prog w B D adr' H' ρ env h' := by
  have keep : ∀ b o, s.heap.get? b = some o → b ∉ adr → h'.get? b = some o := fun b o e n => T.kp.keep b o (k b o e) n fun q => by rw [hf b q] at e; cases e
  have new : ∀ a ∈ adr', a ∈ adr ∨ s.heap.get? a = none := fun a q => (T.new a q).elim .inl fun z => .inr (none_back (live_of k a) z)
  exact ⟨⟨T.pre, new, ⟨fun b o e n _ => keep b o e n, fun b e => T.kp.live b (live_of k b e)⟩⟩, ⟨S'.sr, S.lr.keep T.pre (soft_of S.sr.adr_hard keep) fun a q o e => keep a o e (S.en.offA a q), S.en.keep (S.lr.live S.en) new⟩⟩
theorem cells_held {names : List (Str × NameKind)} (n : Nat) {x : Str} (q : names.lookup x = some .cell) : ∃ c, (cellsFrom n names []).lookup x = some c := by
  refine look_some ?_
  rw [cells_fst]
  exact List.mem_append_left _ (List.mem_reverse.mpr (List.mem_map.mpr ⟨(x, .cell), List.mem_filter.mpr ⟨mem_of_lookup q, rfl⟩, rfl⟩))
theorem call_cells {s : Shared} {R : Result → Shared → Prop} {a : Addr} {o : Obj} {fd : FuncData} {body : List PySem.Stmt} {vals : List Value} {binds : List (Str × Value)}
    (hroom : A.depth < recursionLimit) (ho : s.heap.get? a = some o) (hdata : o.data = .func fd) (hlim : s.heap.NoLimit) (hcd : s.heap.CodeRec fd.code fd.qualname)
    (hbody : fd.body = .stmts body) (hbind : BindsTo s fd ⟨vals, []⟩ binds) (hclo : fd.closure = []) (hloc : ∀ x ∈ binds, fd.scope.names.lookup x.1 = some .local ∨ fd.scope.names.lookup x.1 = some .cell)
    (h : ∀ s₁, InCallC s (callEnvC fd s.heap.objs.size a).locals (bindL (callEnvC fd s.heap.objs.size a).kindOf binds fun _ => none) (callEnvC fd s.heap.objs.size a).cells
        (bindC (callEnvC fd s.heap.objs.size a).kindOf binds fun _ => none) s₁ →
      wpAny (model prog w) (A.deeper (callEnvC fd s.heap.objs.size a)) (execs body (callEnvC fd s.heap.objs.size a)) (fun f s' => R (.ok (.ret (match f with | .ret v => v | _ => .none))) s')
        (fun e s' => wpAny (model prog w) (A.deeper (callEnvC fd s.heap.objs.size a)) (leaving (callEnvC fd s.heap.objs.size a) e) (fun _ s'' => R (.error e) s'') (fun e' s'' => R (.error e') s'') s') s₁)
    (hco : fd.scope.isCoroutine = false) (hgen : fd.scope.isGenerator = false) (hk : fd.scope.kind = .function) :
    codeAny (model prog w) A (.call (.ref a) ⟨vals, []⟩) R s := by
  refine codeAny_call_function hroom ho hdata hco hgen hbody hcd (hbind _ _ _ _ ?_)
  rw [hclo]
  refine wpAny_newFunctionEnv_cells hk (fun x hx => (hloc x hx).imp id fun q => ⟨q, by obtain ⟨c, e⟩ := cells_held _ q; rw [e]; rfl⟩) fun env he s' x => ?_
  subst he
  exact ⟨hlim.keeps x.toInCall.keep, codeAny_func (h s' x)⟩
theorem krF_ok {o : Out} {ρ1 : Loc} {H1 : MH} {v : MV} {h : Heap} (e : krF (o, ρ1, H1) = some (v, H')) : H1 = H' ∧ ∀ {f : Flow}, OutR D adr h o f → VR D adr h v (match f with | .ret v => v | _ => .none) := by
  cases o with
  | nxt =>
    have q := Option.some.inj (show some (MV.none, H1) = some (v, H') from e)
    rw [← show MV.none = v from congrArg Prod.fst q]
    exact ⟨congrArg Prod.snd q, fun {f} x => by rw [show f = .next from x]; exact .none⟩
  | ret y =>
    have q := Option.some.inj (show some (y, H1) = some (v, H') from e)
    rw [← show y = v from congrArg Prod.fst q]
    exact ⟨congrArg Prod.snd q, fun x => by obtain ⟨u, rfl, x⟩ := x; exact x⟩
theorem fn_core (C : Cx prog w K B D P) (hs : SS prog w B D E d) {f : Nat} {as : List MV} {us : List Value} {v : MV} {Q : Value → Shared → Prop} (e : callF P E f as H = some (v, H')) (hd : A.depth + 4 * d + 6 < recursionLimit) (hu : A.units + 16 * d + 110 < cLine) (hh : A.handled = none)
    (S : SR prog w B D adr H s.heap) (xs : VRs D adr s.heap as us)
    (PQ : ∀ h1 env' ρ1 adr' h' t u, (∀ b o, s.heap.get? b = some o → h1.get? b = some o) → (∀ a ∈ own env', s.heap.get? a = none) → Tn adr env' h1 adr' h' → St prog w B D adr' H' ρ1 env' h' → VR D adr' h' v u → Q u ⟨h', s.gens, s.drawn, t, s.os⟩) :
    codeAny (model prog w) A (.call (.ref (D.fa f)) ⟨us, []⟩) (wants Q Er) s := by
  refine bnd e fun F e1 e => gd e fun hlen e => bnd3 e fun o1 ρ1 H1 e2 e => ?_
  obtain ⟨ob, fd, body, names, F1⟩ := C.fn f F e1
  have hnl : us.length = names.length := by rw [← xs.length, ← hlen.1, F1.params, List.length_map]
  have hin : ∀ {x u}, (x, u) ∈ names.zip us → fd.scope.names.lookup x = some .local ∨ fd.scope.names.lookup x = some .cell := fun hx => F1.kinds _ (List.of_mem_zip hx).1
  refine call_cells (by omega) (S.base _ _ F1.at_) F1.data (C.nolimit.keeps S.base) (F1.code.keeps S.base) F1.stm (F1.bind _ S.base us hnl) F1.clo (fun x hx => hin (show (x.1, x.2) ∈ names.zip us from hx)) (fun s₁ I => ?_) F1.co F1.gen F1.kind
  obtain ⟨h1, k1, rfl⟩ := I.toInCall.same
  have k : ∀ b o, s.heap.get? b = some o → h1.get? b = some o := I.toInCall.keep
  have hnd : ((callEnvC fd s.heap.objs.size (D.fa f)).cells.map (·.1)).Nodup := by
    show ((cellsFrom _ fd.scope.names []).map (·.1)).Nodup
    rw [cells_fst]
    exact pick_nodup F1.keys
  have hfr : ∀ a ∈ own (callEnvC fd s.heap.objs.size (D.fa f)), s.heap.get? a = none := fun a ha => by
    refine Heap.get?_none_of_le ?_
    rcases List.mem_cons.mp ha with e | ha
    · exact e ▸ Nat.le_refl _
    · obtain ⟨⟨n, c⟩, hm, e⟩ := List.mem_map.mp ha
      exact e ▸ Nat.le_of_lt (I.above n c hm)
  have St1 : St prog w B D adr H (F.params.zip as) (callEnvC fd s.heap.objs.size (D.fa f)) h1 := by
    have e0 : ∀ x v, okS x → zf4 (code x) (F.params.zip as) = some v → ∃ u, (x, u) ∈ names.zip us ∧ VR D adr h1 v u := fun x v ok e => by
      rw [F1.params] at e
      exact binds_mem ok F1.low (xs.mono (List.prefix_refl _) (.of_keep k)) hnl.symm e
    refine ⟨S.grown k, ⟨⟨_, I.toInCall.ns, fun x v ok e q => ?_⟩, fun n c e => ⟨_, I.cell n c e⟩, fun x v ok e q => ?_⟩, ⟨F1.kind, F1.glob, F1.blt, List.nodup_cons.mpr ⟨fun q => ?_, List.pairwise_map.mpr I.apart⟩, hnd, fun a q z => ?_, fun a q => base_none S (hfr a q), fun x q => cells_held _ q⟩⟩
    · obtain ⟨u, hm, x⟩ := e0 x v ok e
      exact ⟨u, bindL_mem q (by rw [List.map_fst_zip (Nat.le_of_eq hnl.symm)]; exact F1.nd) hm, x⟩
    · obtain ⟨u, hm, x'⟩ := e0 x v ok e
      obtain ⟨c, hc⟩ := cells_held (s.heap.objs.size + 1) q
      exact ⟨c, u, hc, bindC_mem (k := (callEnvC fd s.heap.objs.size (D.fa f)).kindOf) (m := fun _ => none) q (by rw [List.map_fst_zip (Nat.le_of_eq hnl.symm)]; exact F1.nd) hm ▸ I.cell x c hc, x'⟩
    · obtain ⟨⟨n, c⟩, hm, hc⟩ := List.mem_map.mp q
      exact Nat.lt_irrefl _ (hc ▸ I.above n c hm)
    · have := S.live a z
      rw [hfr a q] at this
      cases this
  refine x_stmts (s := ⟨h1, s.gens, s.drawn, k1, s.os⟩) hs (m := 40) (ms := F.body) F1.tr e2 ⟨hh, ?_, ?_⟩ St1 fun adr' h' t fl T' S' x' => ?_
  · show A.depth + 1 + 4 * d + 4 < _
    omega
  · show A.units + 3 + 16 * d + 100 < _
    omega
  · obtain ⟨q1, x2⟩ := krF_ok (D := D) (adr := adr') (h := h') e
    rw [q1] at S'
    exact PQ h1 _ ρ1 adr' h' t _ k hfr T' S' (x2 x')
theorem fn_call (C : Cx prog w K B D P) (hs : SS prog w B D E d) {f : Nat} {as : List MV} {us : List Value} {v : MV} {Q : Value → Shared → Prop} (e : callF P E f as H = some (v, H')) (hd : A.depth + 4 * d + 6 < recursionLimit) (hu : A.units + 16 * d + 110 < cLine) (hh : A.handled = none)
    (S : St prog w B D adr H ρ env s.heap) (xs : VRs D adr s.heap as us) (PQ : Po prog w B D adr env s H' ρ (fun adr' h' u => VR D adr' h' v u) Q) : codeAny (model prog w) A (.call (.ref (D.fa f)) ⟨us, []⟩) (wants Q Er) s :=
  fn_core C hs e hd hu hh S.sr xs fun h1 env' ρ1 adr' h' t u k hz T' S' x => PQ adr' h' t u (S.left k hz T' S').1 (S.left k hz T' S').2 x
end
end Mn
end
section
set_option maxRecDepth 100000
namespace Mn
open PySem PySem.W PyProof.Rows PySem.Calls SeqAt
theorem under_depth (A : Around) (C : Addr) (vals : List Value) : (A.under (.builtin "type.__call__" ⟨.ref C :: vals, []⟩)).depth = A.depth + 1 := depth_under_kw A C vals []
theorem under_units (A : Around) (C : Addr) (vals : List Value) : (A.under (.builtin "type.__call__" ⟨.ref C :: vals, []⟩)).units ≤ A.units + 4 := by
  show A.units + (Code.builtin "type.__call__" ⟨.ref C :: vals, []⟩).cUnits ≤ _
  exact Nat.add_le_add_left (Nat.le_of_ble_eq_true (by kernel_rfl)) _
section
variable {prog : Program} {w : World} {K : Frag} {B : Heap} {D : Ad} {P : Pg}
variable {E : Ev} {d : Nat} {A : Around} {Er : Value → Shared → Prop} {s : Shared} {adr : List Addr} {H H' : MH} {env : Env} {ρ ρ' : Loc}
theorem callF_zero {f : Nat} {as : List MV} : callF P Ev.zero f as H = none := by
  unfold callF
  cases P.fns f with
  | none => rfl
  | some F =>
    show (if _ then _ else _) = _
    split
    · rename_i h
      cases hb : F.body with
      | nil => rw [hb] at h; cases h.2
      | cons x r => rfl
    · rfl
inductive Dp (prog : Program) (w : World) (B : Heap) (D : Ad) : Ev → Nat → Prop
  | zero (d : Nat) : Dp prog w B D Ev.zero d
  | succ {E : Ev} {d : Nat} (h : SS prog w B D E d) : Dp prog w B D E (d + 1)
theorem dp_call (C : Cx prog w K B D P) (hs : Dp prog w B D E d) {f : Nat} {as : List MV} {us : List Value} {v : MV} {Q : Value → Shared → Prop} (e : callF P E f as H = some (v, H')) (hd : A.depth + 4 * d + 2 < recursionLimit) (hu : A.units + 16 * d + 94 < cLine) (hh : A.handled = none)
    (S : St prog w B D adr H ρ env s.heap) (xs : VRs D adr s.heap as us) (PQ : Po prog w B D adr env s H' ρ (fun adr' h' u => VR D adr' h' v u) Q) : codeAny (model prog w) A (.call (.ref (D.fa f)) ⟨us, []⟩) (wants Q Er) s := by
  cases hs with
  | zero d => rw [callF_zero] at e; cases e
  | succ h => exact fn_call C h e (by omega) (by omega) hh S xs PQ
theorem kin_ok {k : Nat} {r v : MV} {H1 : MH} (e : kin k (r, H1) = some (v, H')) : r = .none ∧ some (MV.ref k, H1) = some (v, H') := by
  cases r with
  | none => exact ⟨rfl, e⟩
  | _ => cases e
theorem make_ok (C : Cx prog w K B D P) {E' : Ev} (hs : Dp prog w B D E' d) {c f : Nat} {as : List MV} {us : List Value} {v : MV} {Q : Value → Shared → Prop} (e1 : P.meth c (cd "__init__") = some f)
    (e : (callF P E' f (.ref (H.next + 1) :: as) ((H.new (.dict [])).new (.inst c H.next))).bind (kin (H.next + 1)) = some (v, H')) (R : Room A d) (S : St prog w B D adr H ρ env s.heap) (xs : VRs D adr s.heap as us) (PQ : Po prog w B D adr env s H' ρ (fun adr' h' u => VR D adr' h' v u) Q) :
    wpAny (model prog w) A (call (.ref (D.ca c)) us) Q Er s := by
  refine bnd2 e fun r H1 e2 e => ?_
  obtain ⟨rfl, e⟩ := kin_ok e
  have Cl := C.cls c (.inr ⟨_, f, e1⟩)
  have X := C.X.keeps S.sr.base
  obtain ⟨m1, m2, _⟩ := Cl.meth (Str.ofString "__init__") f (okS_of (by decide +kernel)) (by rw [show code (Str.ofString "__init__") = cd "__init__" by decide +kernel]; exact e1)
  obtain ⟨h, g, dr, t, os⟩ := s
  refine wpAny_call (make_core (makes_of X Cl.makes) (looks_findIn X m1) (fun self => bind_fn X self m2) (.inl rfl) ?_)
  have S1 : St prog w B D (adr ++ [h.objs.size]) (H.new (.dict [])) ρ env (h.push emptyDict) := S.made keep_push none_size (.dictS [] _ [] (Heap.DictOf.new h) .nil (off_le S.sr (Nat.le_refl _)))
  have hz : (h.push emptyDict).objs.size = h.objs.size + 1 := Heap.size_push ..
  have hn : (h.push emptyDict).get? (h.objs.size + 1) = none := Heap.get?_none_of_le (Nat.le_of_eq hz)
  have hx : ((h.push emptyDict).push (instObj (D.ca c) h.objs.size)).get? (h.objs.size + 1) = some (instObj (D.ca c) h.objs.size) := hz ▸ Heap.get?_push_size (h.push emptyDict) (o := instObj (D.ca c) h.objs.size) rfl
  have hlen := S.sr.len
  have i0 : (adr ++ [h.objs.size] ++ [h.objs.size + 1])[H.next]? = some h.objs.size := by rw [← hlen]; simp
  have i1 : (adr ++ [h.objs.size] ++ [h.objs.size + 1])[H.next + 1]? = some (h.objs.size + 1) := by rw [← hlen, List.getElem?_append_right (by simp)]; simp
  have S2 : St prog w B D (adr ++ [h.objs.size] ++ [h.objs.size + 1]) ((H.new (.dict [])).new (.inst c H.next)) ρ env ((h.push emptyDict).push (instObj (D.ca c) h.objs.size)) :=
    S1.made keep_push hn (.inst c H.next _ h.objs.size i0 hx)
  have T2 : Tn adr env h (adr ++ [h.objs.size] ++ [h.objs.size + 1]) ((h.push emptyDict).push (instObj (D.ca c) h.objs.size)) := (Tn.made keep_push none_size).trans (Tn.made keep_push hn)
  have xk : VR D (adr ++ [h.objs.size] ++ [h.objs.size + 1]) ((h.push emptyDict).push (instObj (D.ca c) h.objs.size)) (.ref (H.next + 1)) (.ref (h.objs.size + 1)) := .ref _ _ i1
  have hu := under_units A (D.ca c) us
  have hd := under_depth A (D.ca c) us
  have hR1 := R.depth
  have hR2 := R.units
  refine codeAny_mono (dp_call (s := ⟨(h.push emptyDict).push (instObj (D.ca c) h.objs.size), g, dr, t, os⟩) (Q := fun u s' => u = .none ∧ Q (.ref (h.objs.size + 1)) s') (Er := Er) C hs e2 (by omega) (by omega) R.hh S2 (.cons xk (S.vts T2 xs)) fun adr' h' t' u T' S' x' => ?_) fun r s' z => ?_
  · exact ⟨x'.inv, PQ.of e adr' h' t' _ (T2.trans T') S' (S2.vt T' xk)⟩
  · rcases r with r | (r | r | r | r) <;> first | exact z | exact z.elim
theorem sc_step {E' : Unit → Ev} (C : Cx prog w K B D P) (hs : Dp prog w B D (E' ()) d) : SC prog w B D (Ev.step P E E') d := by
  intro A Er s adr H H' env ρ f v as uf us Q e R S xf xs PQ
  have hR1 := R.depth
  have hR2 := R.units
  cases f with
  | fn f =>
    rw [show uf = _ from xf.inv]
    exact wpAny_call (dp_call C hs e (by omega) (by omega) R.hh S xs PQ)
  | bm k f =>
    obtain ⟨x, a, rfl, e1, hm⟩ := xf.inv
    exact wpAny_call (method_call hm (dp_call C hs e (by omega) (by omega) R.hh S (.cons (.ref k x e1) xs) PQ))
  | bi b =>
    rw [show uf = _ from xf.inv]
    exact callB_ok S R.hh e xs PQ
  | cls c =>
    rw [show uf = _ from xf.inv]
    exact bnd e fun f e1 e => make_ok C hs e1 e R S xs PQ
  | _ => cases e
theorem any_star {m : Nat} {pos : Pos} {sc : Scope} {es : List PySem.Expr} : ∀ {ms : List MX}, all? (trE m sc) es = some ms → ((backTo pos (starEach es env)).any (·.1)) = false ∧ (backTo pos (starEach es env)).all (fun x => !x.1) = true := by
  induction es with
  | nil => intro ms _; exact ⟨rfl, rfl⟩
  | cons x es ih =>
    intro ms tr
    obtain ⟨a, as, t1, t2, _⟩ := all_inv tr
    rw [star_ok t1]
    exact ih t2
theorem x_args (hx : SX prog w B D E d) {m : Nat} {pos : Pos} {f : Value} {es : List PySem.Expr} {ms : List MX} {vs : List MV} {Q : Args → Shared → Prop} (tr : all? (trE m env.scope) es = some ms) (e : evs E ms ρ H = some (vs, H')) (R : Room A d)
    (S : St prog w B D adr H ρ env s.heap) (PQ : Po prog w B D adr env s H' ρ (fun adr' h' us => VRs D adr' h' vs us) fun us s' => Q ⟨us, []⟩ s') : wpAny (model prog w) A (evalArgs f true (backTo pos (starEach es env)) []) Q Er s := by
  cases es with
  | nil =>
    obtain rfl := all_nil tr
    have q := Option.some.inj e
    obtain rfl : H' = H := (congrArg Prod.snd q).symm
    obtain rfl : vs = [] := (congrArg Prod.fst q).symm
    exact evalArgs_nil3 (PQ.here S .nil s.toks)
  | cons x es =>
    obtain ⟨a, as, t1, _, _⟩ := all_inv tr
    have h := x_evs (pos := pos) (Q := fun us s' => Q ⟨us, []⟩ s') (Er := Er) hx tr e R S PQ
    rw [star_ok t1] at h ⊢
    exact evalArgs_plain h
noncomputable def KpAt (M : Model) (h : Heap) (u : Value) : Prop := ∃ k, (k = Keeper.frame ∨ k = Keeper.machine ∨ k = Keeper.boundFrame) ∧ Looks M h (keeperOf u) k
theorem keeper_ok (C : Cx prog w K B D P) {M : Model} {h : Heap} (X : K.In h) {f : MV} {uf : Value} (x : VR D adr h f uf) (hf : okFn P f = true) : KpAt M h uf := by
  replace x := x.inv
  cases f with
  | fn f => rw [show uf = _ from x]; exact keeps_K (C.fnf f hf).1 h X
  | cls c =>
    obtain ⟨f, hf⟩ := Option.isSome_iff_exists.mp hf
    rw [show uf = _ from x]
    exact keeps_K (C.cls c (.inr ⟨_, f, hf⟩)).keep h X
  | bm k f =>
    obtain ⟨x, a, rfl, e, hm⟩ := x
    exact keeps_M (self := .ref x) (C.fnf f hf).2 h ⟨hm, X⟩
  | bi b =>
    rw [show uf = _ from x]
    refine ⟨.machine, .inr (.inl rfl), ?_⟩
    cases b <;> exact Looks.of_pure rfl
  | _ => cases hf
theorem x_with (C : Cx prog w K B D P) (hx : SX prog w B D E d) (hc : SC prog w B D E d) {m : Nat} {es : List PySem.Expr} {pos : Pos} {f : MV} {uf : Value} {ms : List MX} {v : MV} {Q : Value → Shared → Prop} {fs : List MV} {ufs : List Value} (t2 : all? (trE m env.scope) es = some ms)
    (e : ((evs E ms ρ H).bind fun v => E.c f (fs ++ v.1) v.2) = some (v, H')) (hf : okFn P f = true) (R : Room A d) (S : St prog w B D adr H ρ env s.heap) (xf : VR D adr s.heap f uf) (xs : VRs D adr s.heap fs ufs) (PQ : Po prog w B D adr env s H' ρ (fun adr' h' u => VR D adr' h' v u) Q) :
    wpAny (model prog w) A (callWith pos uf ufs (backTo pos (starEach es env)) []) Q Er s :=
  bnd2 e fun vs H2 e2 e => callWith_of (P := fun h => KpAt (model prog w) h uf) (by rw [(any_star t2).1]; rfl) (fun _ x => x) (x_args hx t2 e2 R S fun adr2 h2 k2 us T2 S2 x2 =>
    ⟨keeper_ok (adr := adr2) C (C.X.keeps S2.sr.base) (S.vt T2 xf) hf, hc A Er ⟨h2, s.gens, s.drawn, k2, s.os⟩ adr2 H2 H' env ρ f v (fs ++ vs) uf (ufs ++ us) Q e R S2 (S.vt T2 xf) ((S.vts T2 xs).append x2) (PQ.after T2 k2)⟩)
theorem call_eq {f : PySem.Expr} (h : isAttr f = false) (as : List PySem.Expr) (pos : Pos) : eval (.Call f as [] pos) env = (do callWith pos (← eval f env) [] (backTo pos (starEach as env)) (backToKw pos (keywordEach [] env))) := by
  cases f with
  | Attribute => cases h
  | _ => rfl
theorem x_call (C : Cx prog w K B D P) (hx : SX prog w B D E d) (hc : SC prog w B D E d) {m : Nat} {f : PySem.Expr} {es : List PySem.Expr} {pos : Pos} {a : MX} {ms : List MX} {v : MV} {Q : Value → Shared → Prop} (hA : isAttr f = false) (t1 : trE m env.scope f = some a) (t2 : all? (trE m env.scope) es = some ms)
    (e : ((E.x a ρ H).bind fun u => if okFn P u.1 = true then (evs E ms ρ u.2).bind fun v => E.c u.1 v.1 v.2 else none) = some (v, H')) (R : Room A d) (S : St prog w B D adr H ρ env s.heap) (PQ : Po prog w B D adr env s H' ρ (fun adr' h' u => VR D adr' h' v u) Q) :
    wpAny (model prog w) A (eval (.Call f es [] pos) env) Q Er s := by
  rw [call_eq hA]
  exact bnd2 e fun vf H1 e1 e => gd e fun hf e => wpAny_bind (hx m f a A Er s adr H H1 env ρ vf _ t1 e1 R S fun adr1 h1 k1 u1 T1 S1 x1 =>
    x_with (fs := []) (s := ⟨h1, s.gens, s.drawn, k1, s.os⟩) C hx hc t2 e hf R S1 x1 .nil (PQ.after T1 k1))
end
end Mn
end
section
set_option maxRecDepth 100000
namespace Mn
open PySem PySem.W PyProof.Rows PySem.Calls SeqAt
section
variable {prog : Program} {w : World} {K : Frag} {B : Heap} {D : Ad} {P : Pg}
variable {E : Ev} {d : Nat} {A : Around} {Er : Value → Shared → Prop} {s : Shared} {adr : List Addr} {H H' : MH} {env : Env} {ρ ρ' : Loc}
theorem mth_eq {o : PySem.Expr} {z : Str} {ap pos : Pos} {es : List PySem.Expr} (h : isCall o = false) (hl : (ap.endLine == pos.line) = true) (hn : es.length < 30) {m : Nat} {sc : Scope} {ms : List MX} (tr : all? (trE m sc) es = some ms) :
    ∃ pl : Sem Bool, eval (.Call (.Attribute o z ap) es [] pos) env = (do
      let ov ← eval o env
      standAt ap.atName
      let (f, first) ← holding [ov] (getMethod ov z pl)
      callWith pos f first (backTo pos (starEach es env)) []) := by
  refine ⟨do return (← importBound o env).getD true, ?_⟩
  rw [arm_eval_Call, base_eq h]
  have q : methodCallForm (es.length + ([] : List Keyword).length) (backTo pos (starEach es env)) (backToKw pos (keywordEach [] env)) = true := by
    unfold methodCallForm
    rw [(any_star (env := env) tr).2]
    exact decide_eq_true hn
  congr 1
  funext ov
  unfold methodCall
  rw [q]
  unfold calleeOf methodCallPos
  simp only [if_true, hl, Bool.or_true]
  rfl
theorem x_mth (C : Cx prog w K B D P) (hx : SX prog w B D E d) (hc : SC prog w B D E d) {m : Nat} {o : PySem.Expr} {z : Str} {ap pos : Pos} {es : List PySem.Expr} {a : MX} {ms : List MX} {v : MV} {Q : Value → Shared → Prop} (hz : okS z) (hC : isCall o = false)
    (hl : (ap.endLine == pos.line) = true) (hn : es.length < 30) (t1 : trE m env.scope o = some a) (t2 : all? (trE m env.scope) es = some ms)
    (e : ((E.x a ρ H).bind fun u => (asRef u.1).bind fun k => (u.2.get k).bind (kmo P E (code z) ms ρ k u.2)) = some (v, H')) (R : Room A d) (S : St prog w B D adr H ρ env s.heap) (PQ : Po prog w B D adr env s H' ρ (fun adr' h' u => VR D adr' h' v u) Q) :
    wpAny (model prog w) A (eval (.Call (.Attribute o z ap) es [] pos) env) Q Er s := by
  refine bnd2 e fun vo H1 e1 e => bnd e fun k e2 e => bnd e fun ob e3 e => ?_
  obtain ⟨pl, he⟩ := mth_eq (env := env) (z := z) hC hl hn t2
  rw [he]
  refine wpAny_bind (hx m o a A Er s adr H H1 env ρ vo _ t1 e1 R S fun adr1 h1 k1 u1 T1 S1 x1 => wpAny_bind (wpAny_standAt (wpAny_bind (wpAny_holding ?_))))
  replace x1 : VR D adr1 h1 (.ref k) u1 := (show vo = .ref k from asRef_inv e2) ▸ x1
  have PQ1 := PQ.after T1 k1
  clear PQ
  cases ob with
  | inst c dd =>
    refine bnd e fun q e4 e => gd e fun hk e => bnd e fun f e5 e => gd e fun hf e => ?_
    obtain ⟨_, e6, e7, e8⟩ := instAt_inv (show instAt H1 (.ref k) = some q from (congrArg (Option.bind · (katd H1)) e3).trans e4)
    obtain rfl : k = _ := congrArg refOf e6
    exact method_ok (s := ⟨h1, s.gens, s.drawn, k1, s.os⟩) (C.X.keeps S1.sr.base) (C.cls q.1 (.inr ⟨_, _, e5⟩)) S1 hz e7 e8 hk.1 e5 hk.2 x1
      (x_with (f := .fn f) (fs := [.ref k]) (s := ⟨h1, s.gens, s.drawn, k1, s.os⟩) C hx hc t2 e hf R S1 (.fn f) (.cons x1 .nil) PQ1)
  | list vs0 =>
    refine bnd2 e fun vs H2 e4 e => bnd e fun ob' e5 e => ?_
    obtain ⟨b, rfl, hb, O⟩ := SR.vref (s := ⟨h1, s.gens, s.drawn, k1, s.os⟩) S1.sr e3 x1
    obtain ⟨ws, hl', _, _⟩ := O.listE
    cases ob' with
    | list vs' =>
      cases callL_inv (show callL H2 k vs' (code z) vs = some (v, H') from e) with
      | append q y hz' e' =>
        obtain rfl := name_of (x := "append") hz q (by decide +kernel) (by decide +kernel)
        exact getMethod_list_of PySem.F.slot_list_append PySem.F.type_list_append hl'.isList (plain_noDict hl') (callWith_builtin (any_star t2).1 (x_args (s := ⟨h1, s.gens, s.drawn, k1, s.os⟩) hx t2 e4 R S1 fun adr2 h2 k2 us T2 S2 x2 =>
          append_ok (s := ⟨h2, s.gens, s.drawn, k2, s.os⟩) S2 e5 (pre_get T2.pre hb) hz' x2 (PX.of e' (PQ1.after T2 k2))))
      | pop q y hz' hg e' =>
        obtain rfl := name_of (x := "pop") hz q (by decide +kernel) (by decide +kernel)
        refine getMethod_list_of PySem.F.slot_list_pop PySem.F.type_list_pop hl'.isList (plain_noDict hl') (callWith_builtin (any_star t2).1 (x_args (s := ⟨h1, s.gens, s.drawn, k1, s.os⟩) hx t2 e4 R S1 fun adr2 h2 k2 us T2 S2 x2 => ?_))
        rw [show us = [] from x2.inv]
        exact pop_ok (s := ⟨h2, s.gens, s.drawn, k2, s.os⟩) S2 e5 (pre_get T2.pre hb) hz' hg (PX.of e' (PQ1.after T2 k2))
      | popI q i y hz' hg e' =>
        obtain rfl := name_of (x := "pop") hz q (by decide +kernel) (by decide +kernel)
        exact getMethod_list_of PySem.F.slot_list_pop PySem.F.type_list_pop hl'.isList (plain_noDict hl') (callWith_builtin (any_star t2).1 (x_args (s := ⟨h1, s.gens, s.drawn, k1, s.os⟩) hx t2 e4 R S1 fun adr2 h2 k2 us T2 S2 x2 =>
          popI_ok (s := ⟨h2, s.gens, s.drawn, k2, s.os⟩) S2 e5 (pre_get T2.pre hb) hz' hg x2 (PX.of e' (PQ1.after T2 k2))))
    | _ => cases e
  | dict es0 =>
    refine bnd2 e fun vs H2 e4 e => bnd e fun ob' e5 e => ?_
    obtain ⟨b, rfl, hb, O⟩ := SR.vref (s := ⟨h1, s.gens, s.drawn, k1, s.os⟩) S1.sr e3 x1
    cases ob' with
    | dict es' =>
      exact getD_ok (s := ⟨h1, s.gens, s.drawn, k1, s.os⟩) O hz (callD_inv e).1 (callWith_builtin (any_star t2).1 (x_args (s := ⟨h1, s.gens, s.drawn, k1, s.os⟩) hx t2 e4 R S1 fun adr2 h2 k2 us T2 S2 x2 =>
        callD_ok (A := A) (E := Er) (s := ⟨h2, s.gens, s.drawn, k2, s.os⟩) S2 e5 (pre_get T2.pre hb) e x2 (PQ1.after T2 k2)))
    | _ => cases e
  | frz _ => cases e
end
end Mn
end
section
set_option maxRecDepth 100000
namespace Mn
open PySem PySem.W PyProof.Rows PySem.Calls SeqAt
inductive TrI (m : Nat) (sc : Scope) : PySem.Expr → MX → Prop
  | cst {c : Const} {k : Nat} {p : Pos} {v : MV} (t : trC c = some v) : TrI m sc (.Constant c k p) (.cst v)
  | nam {x : Str} {p : Pos} {e : MX} (t : trN sc x = some e) : TrI m sc (.Name x p) e
  | bin {l r : PySem.Expr} {op : Operator} {p : Pos} {a b : MX} {o : Op} (t1 : trE m sc l = some a) (t2 : trOp op = some o) (t3 : trE m sc r = some b) : TrI m sc (.BinOp l op r p) (.bin o a b)
  | neg {x : PySem.Expr} {p : Pos} {a : MX} (t : trE m sc x = some a) : TrI m sc (.UnaryOp .USub x p) (.neg a)
  | not {x : PySem.Expr} {p : Pos} {a : MX} (t : trE m sc x = some a) : TrI m sc (.UnaryOp .Not x p) (.not a)
  | bop {op : BoolOp} {es : List PySem.Expr} {p : Pos} {ms : List MX} (t : all? (trE m sc) es = some ms) : TrI m sc (.BoolOp op es p) (.bop (conj op) ms)
  | cmp {l r : PySem.Expr} {op : CmpOp} {p : Pos} {a b : MX} {o : Co} (t1 : trE m sc l = some a) (t2 : trCo op = some o) (t3 : trE m sc r = some b) : TrI m sc (.Compare l [op] [r] p) (.cmp a o b)
  | cmp2 {l r r' : PySem.Expr} {op op' : CmpOp} {p : Pos} {a b c : MX} {o o' : Co} (t1 : trE m sc l = some a) (t2 : trCo op = some o) (t3 : trE m sc r = some b) (t4 : trCo op' = some o') (t5 : trE m sc r' = some c) : TrI m sc (.Compare l [op, op'] [r, r'] p) (.cmp2 a o b o' c)
  | ife {c a b : PySem.Expr} {p : Pos} {mc ma mb : MX} (t1 : trE m sc c = some mc) (t2 : trE m sc a = some ma) (t3 : trE m sc b = some mb) : TrI m sc (.IfExp c a b p) (.ife mc ma mb)
  | att {x : PySem.Expr} {n : Str} {p : Pos} {a : MX} (g1 : low n = true) (g2 : (!isCall x) = true) (t : trE m sc x = some a) : TrI m sc (.Attribute x n p) (.att a (code n))
  | slc {x : PySem.Expr} {lo hi : Option PySem.Expr} {q p : Pos} {a : MX} {l h : Option MX} (t1 : trE m sc x = some a) (t2 : opt? (trE m sc) lo = some l) (t3 : opt? (trE m sc) hi = some h) : TrI m sc (.Subscript x (.Slice lo hi none q) p) (.slc a l h)
  | sub {x i : PySem.Expr} {p : Pos} {a j : MX} (g : isSlc i = false) (t1 : trE m sc x = some a) (t2 : trE m sc i = some j) : TrI m sc (.Subscript x i p) (.sub a j)
  | mth {o : PySem.Expr} {n : Str} {ap p : Pos} {as : List PySem.Expr} {a : MX} {ms : List MX} (g : (low n && !isCall o && (ap.endLine == p.line) && decide (as.length < 30)) = true) (t1 : trE m sc o = some a) (t2 : all? (trE m sc) as = some ms) : TrI m sc (.Call (.Attribute o n ap) as [] p) (.mth a (code n) ms)
  | call {f : PySem.Expr} {p : Pos} {as : List PySem.Expr} {a : MX} {ms : List MX} (g : isAttr f = false) (t1 : trE m sc f = some a) (t2 : all? (trE m sc) as = some ms) : TrI m sc (.Call f as [] p) (.call a ms)
  | tup {es : List PySem.Expr} {q : Nat} {p : Pos} {ms : List MX} (t : all? (trE m sc) es = some ms) : TrI m sc (.Tuple es q p) (.tup ms)
  | lst {es : List PySem.Expr} {p : Pos} {ms : List MX} (t : all? (trE m sc) es = some ms) : TrI m sc (.List es p) (.lst ms)
  | dct {p : Pos} : TrI m sc (.Dict [] [] p) .dct
  | cmpr {e t it : PySem.Expr} {ifs : List PySem.Expr} {sc' : Scope} {p : Pos} {me mi : MX} {mt : CT} {ms : List MX} (hO : OkComp sc' sc) (t1 : trE m (relab sc' sc) e = some me) (t2 : trCT (relab sc' sc) t = some mt) (t3 : trE m sc it = some mi) (t4 : all? (trE m (relab sc' sc)) ifs = some ms) (hL : OkLoc sc' mt) : TrI m sc (.ListComp e [⟨t, it, ifs, 0⟩] sc' p) (.cmpr me mt mi ms)
theorem TrI.of {m : Nat} {sc : Scope} {x : PySem.Expr} {e e' : MX} (h : some e' = some e) (k : TrI m sc x e') : TrI m sc x e := by rw [← Option.some.inj h]; exact k
theorem trE_inv {m : Nat} {sc : Scope} {ex : PySem.Expr} {e : MX} (tr : trE (m + 1) sc ex = some e) : TrI m sc ex e := by
  cases ex with
  | Constant c k p => exact bnd (f := fun v => some (MX.cst v)) tr fun v t1 tr => .of tr (.cst t1)
  | Name x p => exact .nam tr
  | BinOp l op r p => exact bnd (f := fun a => (trOp op).bind fun o => (trE m sc r).bind fun b => some (MX.bin o a b)) tr fun a t1 tr => bnd tr fun o t2 tr => bnd tr fun b t3 tr => .of tr (.bin t1 t2 t3)
  | UnaryOp op x p =>
    cases op with
    | USub => exact bnd (f := fun a => some (MX.neg a)) tr fun a t1 tr => .of tr (.neg t1)
    | Not => exact bnd (f := fun a => some (MX.not a)) tr fun a t1 tr => .of tr (.not t1)
    | _ => cases tr
  | BoolOp op es p => exact bnd (f := fun es => some (MX.bop (conj op) es)) tr fun ms t1 tr => .of tr (.bop t1)
  | Compare l ops rs p =>
    rcases ops with _ | ⟨op, _ | ⟨op', _ | ⟨op'', ops⟩⟩⟩
    · cases tr
    · rcases rs with _ | ⟨r, _ | ⟨r', rs⟩⟩
      · cases tr
      · exact bnd (f := fun a => (trCo op).bind fun o => (trE m sc r).bind fun b => some (MX.cmp a o b)) tr fun a t1 tr => bnd tr fun o t2 tr => bnd tr fun b t3 tr => .of tr (.cmp t1 t2 t3)
      · cases tr
    · rcases rs with _ | ⟨r, _ | ⟨r', _ | ⟨r'', rs⟩⟩⟩
      · cases tr
      · cases tr
      · exact bnd (f := fun a => (trCo op).bind fun o => (trE m sc r).bind fun b => (trCo op').bind fun o' => (trE m sc r').bind fun c => some (MX.cmp2 a o b o' c)) tr fun a t1 tr => bnd tr fun o t2 tr => bnd tr fun b t3 tr => bnd tr fun o' t4 tr => bnd tr fun c t5 tr => .of tr (.cmp2 t1 t2 t3 t4 t5)
      · cases tr
    · cases tr
  | IfExp c a b p => exact bnd (f := fun c => (trE m sc a).bind fun a => (trE m sc b).bind fun b => some (MX.ife c a b)) tr fun x t1 tr => bnd tr fun y t2 tr => bnd tr fun z t3 tr => .of tr (.ife t1 t2 t3)
  | Attribute x n p => exact gd (o := (trE m sc x).bind fun a => some (MX.att a (code n))) tr fun g tr => bnd tr fun a t1 tr => .of tr (.att (Bool.and_eq_true_iff.mp g).1 (Bool.and_eq_true_iff.mp g).2 t1)
  | Subscript x i p =>
    cases hz : isSlc i with
    | false =>
      have tr : ((trE m sc x).bind fun a => (trE m sc i).bind fun i => some (MX.sub a i)) = some e := by
        cases i with
        | Slice => cases hz
        | _ => exact tr
      exact bnd tr fun a t1 tr => bnd tr fun j t2 tr => .of tr (.sub hz t1 t2)
    | true =>
      cases i with
      | Slice lo hi st q =>
        cases st with
        | none => exact bnd (f := fun a => (opt? (trE m sc) lo).bind fun lo => (opt? (trE m sc) hi).bind fun hi => some (MX.slc a lo hi)) tr fun a t1 tr => bnd tr fun l t2 tr => bnd tr fun h t3 tr => .of tr (.slc t1 t2 t3)
        | some st => exact bnd (f := fun a => (trE m sc (.Slice lo hi (some st) q)).bind fun i => some (MX.sub a i)) tr fun a t1 tr => bnd tr fun j t2 tr => by cases m <;> cases t2
      | _ => cases hz
  | Call f as kws p =>
    cases kws with
    | cons k ks => cases f <;> cases tr
    | nil =>
      cases hf : isAttr f with
      | false =>
        have tr : ((trE m sc f).bind fun f => (all? (trE m sc) as).bind fun as => some (MX.call f as)) = some e := by
          cases f with
          | Attribute => cases hf
          | _ => exact tr
        exact bnd tr fun a t1 tr => bnd tr fun ms t2 tr => .of tr (.call hf t1 t2)
      | true =>
        cases f with
        | Attribute o n ap => exact gd (o := (trE m sc o).bind fun o => (all? (trE m sc) as).bind fun as => some (MX.mth o (code n) as)) tr fun g tr => bnd tr fun a t1 tr => bnd tr fun ms t2 tr => .of tr (.mth g t1 t2)
        | _ => cases hf
  | Tuple es q p => exact bnd (f := fun es => some (MX.tup es)) tr fun ms t1 tr => .of tr (.tup t1)
  | List es p => exact bnd (f := fun es => some (MX.lst es)) tr fun ms t1 tr => .of tr (.lst t1)
  | Dict ks vs p =>
    rcases ks with _ | ⟨k, ks⟩
    · rcases vs with _ | ⟨v, vs⟩
      · exact .of tr .dct
      · cases tr
    · cases tr
  | ListComp e gens sc' p =>
    rcases gens with _ | ⟨⟨t, it, ifs, na⟩, _ | ⟨g, gens⟩⟩
    · cases tr
    · refine gd (o := (trE m (relab sc' sc) e).bind fun e => (trCT (relab sc' sc) t).bind fun t => (trE m sc it).bind fun it => (all? (trE m (relab sc' sc)) ifs).bind fun ifs => if OkLoc sc' t then some (MX.cmpr e t it ifs) else none) tr fun hO tr => bnd tr fun a t1 tr => bnd tr fun b t2 tr => bnd tr fun c t3 tr => bnd tr fun ms t4 tr => gd tr fun hL tr9 => ?_
      obtain ⟨rfl, hO⟩ := hO
      exact .of tr9 (.cmpr hO t1 t2 t3 t4 hL)
    · cases tr
  | _ => cases tr
end Mn
end
section
set_option maxRecDepth 100000
namespace Mn
open PySem PySem.W PyProof.Rows PySem.Calls SeqAt
section
variable {prog : Program} {w : World} {K : Frag} {B : Heap} {D : Ad} {P : Pg}
variable {E : Ev} {d : Nat} {A : Around} {Er : Value → Shared → Prop} {s : Shared} {adr : List Addr} {H H' : MH} {env : Env} {ρ ρ' : Loc}
theorem not_tt {b : Bool} (h : (!b) = true) : b = false := by cases b with | false => rfl | true => cases h
variable (prog w B D P) in
noncomputable def SKo (E : Ev) (d : Nat) : Prop := ∀ (m : Nat) (e t it : PySem.Expr) (ifs : List PySem.Expr) (sc' : Scope) (p : Pos) (me mi : MX) (mt : CT) (ms : List MX) (A : Around) (Er : Value → Shared → Prop) (s : Shared) (adr : List Addr) (H H' : MH) (env : Env) (ρ : Loc) (v : MV) (Q : Value → Shared → Prop),
  OkComp sc' env.scope → trE m (relab sc' env.scope) e = some me → trCT (relab sc' env.scope) t = some mt → trE m env.scope it = some mi → all? (trE m (relab sc' env.scope)) ifs = some ms → OkLoc sc' mt → evC P E me mt mi ms ρ H = some (v, H') → Room A d → St prog w B D adr H ρ env s.heap →
    Po prog w B D adr env s H' ρ (fun adr' h' u => VR D adr' h' v u) Q → wpAny (model prog w) A (eval (.ListComp e [⟨t, it, ifs, 0⟩] sc' p) env) Q Er s
theorem sx_step {E' : Unit → Ev} (C : Cx prog w K B D P) (hx : SX prog w B D E d) (ht : ST prog w B D E d) (hc : SC prog w B D E d) (hk : SKo prog w B D P E d) : SX prog w B D (Ev.step P E E') d := by
  intro m ex e A Er s adr H H' env ρ v Q tr ev R S PQ
  cases m with
  | zero => cases tr
  | succ m =>
  cases trE_inv tr with
  | cst t => exact x_cst t S (PQ.of ev)
  | nam t =>
    obtain ⟨h1, h2, ⟨q, rfl⟩ | ⟨q, rfl⟩⟩ := trN_inv t
    · exact bnd (f := fun v => some (v, H)) ev fun v' e1 e2 => x_loc h1 h2 q e1 S (PQ.of e2)
    · exact bnd (f := fun v => some (v, H)) ev fun v' e1 e2 => x_glb C h1 h2 q e1 S (PQ.of e2)
  | bin t1 t2 t3 => exact x_bin hx t1 t2 t3 ev R S PQ
  | neg t1 => exact x_neg hx t1 ev R S PQ
  | not t1 => exact x_not hx t1 ev R S PQ
  | bop t1 =>
    rw [arm_eval_BoolOp]
    exact x_bops hx t1 ev R S PQ
  | cmp t1 t2 t3 => exact x_cmp hx t1 t2 t3 ev R S PQ
  | cmp2 t1 t2 t3 t4 t5 => exact x_cmp2 hx t1 t2 t3 t4 t5 ev R S PQ
  | ife t1 t2 t3 => exact x_ife hx ht t1 t2 t3 ev R S PQ
  | att g1 g2 t1 => exact x_att C hx (low_ok g1) (not_tt g2) t1 ev R S PQ
  | slc t1 t2 t3 => exact x_slc hx t1 t2 t3 ev R S PQ
  | sub _ t1 t2 => exact x_sub hx t1 t2 ev R S PQ
  | mth hg t1 t2 =>
    rw [Bool.and_eq_true, Bool.and_eq_true, Bool.and_eq_true] at hg
    exact x_mth C hx hc (low_ok hg.1.1.1) (not_tt hg.1.1.2) hg.1.2 (of_decide_eq_true hg.2) t1 t2 ev R S PQ
  | call hg t1 t2 => exact x_call C hx hc hg t1 t2 ev R S PQ
  | tup t1 => exact x_tup hx t1 ev R S PQ
  | lst t1 => exact x_lst hx t1 ev R S PQ
  | dct => exact x_dct S (PQ.of ev)
  | cmpr hO t1 t2 t3 t4 hL => exact hk m _ _ _ _ _ _ _ _ _ _ A Er s adr H H' env ρ v Q hO t1 t2 t3 t4 hL ev R S PQ
theorem x_tops (ht : ST prog w B D E d) {m : Nat} {op : BoolOp} {es : List PySem.Expr} : ∀ {ms : List MX} {s : Shared} {adr : List Addr} {H : MH} {b : Bool} {Q : Bool → Shared → Prop}, all? (trE m env.scope) es = some ms → tops E (conj op) ms ρ H = some (b, H') → Room A d →
    St prog w B D adr H ρ env s.heap → Po prog w B D adr env s H' ρ (fun _ _ c => c = b) Q → wpAny (model prog w) A (allTrue op es env) Q Er s := by
  induction es with
  | nil =>
    intro ms s adr H b Q tr e R S PQ
    obtain rfl := all_nil tr
    cases op with
    | And => exact wpAny_allTrue_And_nil ((PQ.ofT e).here S rfl s.toks)
    | Or => exact wpAny_allTrue_Or_nil ((PQ.ofT e).here S rfl s.toks)
  | cons x es ih =>
    intro ms s adr H b Q tr e R S PQ
    obtain ⟨a, as, t1, t2, rfl⟩ := all_inv tr
    refine bnd2 e fun c H1 e1 e => ?_
    have go : wpAny (model prog w) A (do
        match op, ← isTrue x env (eval x env) with
        | .And, false => pure false
        | .Or, true => pure true
        | _, _ => allTrue op es env) Q Er s := by
      refine wpAny_bind (ht m x a A Er s adr H H1 env ρ c _ t1 e1 R S fun adr1 h1 k1 u1 T1 S1 x1 => ?_)
      rw [show u1 = c from x1]
      have next : ∀ b', b' = conj op → (if b' = conj op then tops E (conj op) as ρ H1 else some (b', H1)) = some (b, H') → wpAny (model prog w) A (allTrue op es env) Q Er ⟨h1, s.gens, s.drawn, k1, s.os⟩ :=
        fun b' q e => ih (s := ⟨h1, s.gens, s.drawn, k1, s.os⟩) (Q := Q) t2 (by rw [if_pos q] at e; exact e) R S1 (PQ.after T1 k1)
      have last : ∀ b', b' ≠ conj op → (if b' = conj op then tops E (conj op) as ρ H1 else some (b', H1)) = some (b, H') → wpAny (model prog w) A (pure b') Q Er ⟨h1, s.gens, s.drawn, k1, s.os⟩ :=
        fun b' q e => wpAny_pure (((PQ.ofT (by rw [if_neg q] at e; exact e)).after T1 k1).here S1 rfl k1)
      cases op with
      | And => cases c with
        | true => exact next true rfl e
        | false => exact last false Bool.false_ne_true e
      | Or => cases c with
        | true => exact last true Bool.false_ne_true.symm e
        | false => exact next false rfl e
    exact go
theorem t_value {E' : Unit → Ev} (hx : SX prog w B D E d) {m : Nat} {ex : PySem.Expr} {e : MX} {b : Bool} {Q : Bool → Shared → Prop} (tr : trE m env.scope ex = some e) (hT : isTrue ex env (eval ex env) = (do let v ← eval ex env; standAt ex.pos; holding [v] (truthy v)))
    (ev : ((E.x e ρ H).bind fun u => (truth u.1 u.2).bind fun b => some (b, u.2)) = some (b, H')) (R : Room A d) (S : St prog w B D adr H ρ env s.heap) (PQ : Po prog w B D adr env s H' ρ (fun _ _ c => c = b) Q) :
    wpAny (model prog w) A (isTrue ex env (eval ex env)) Q Er s := by
  rw [hT]
  exact bnd2 ev fun v H1 e1 ev => bnd ev fun c e2 ev => wpAny_bind (hx m ex e A Er s adr H H1 env ρ v _ tr e1 R S fun adr1 h1 k1 u1 T1 S1 x1 =>
    wpAny_bind (wpAny_standAt (wpAny_holding (truth_ok e2 x1 (((PQ.ofT ev).after T1 k1).here S1 rfl k1)))))
theorem t_cmp2 (hx : SX prog w B D E d) {m : Nat} {l r r' : PySem.Expr} {op op' : CmpOp} {pos : Pos} {a b c : MX} {o o' : Co} {v : Bool} {Q : Bool → Shared → Prop} (t1 : trE m env.scope l = some a) (t2 : trCo op = some o) (t3 : trE m env.scope r = some b)
    (t4 : trCo op' = some o') (t5 : trE m env.scope r' = some c)
    (e : ((E.x a ρ H).bind fun u => (E.x b ρ u.2).bind fun v => (compare o u.1 v.1 v.2).bind fun r => match r with
      | true => (E.x c ρ v.2).bind fun w => (compare o' v.1 w.1 w.2).bind fun r' => some (r', w.2)
      | false => some (false, v.2)) = some (v, H')) (R : Room A d) (S : St prog w B D adr H ρ env s.heap) (PQ : Po prog w B D adr env s H' ρ (fun _ _ c => c = v) Q) :
    wpAny (model prog w) A (isTrue (.Compare l [op, op'] [r, r'] pos) env (eval (.Compare l [op, op'] [r, r'] pos) env)) Q Er s := by
  refine bnd2 e fun va H1 e1 e => bnd2 e fun vb H2 e2 e => bnd e fun g e3 e => ?_
  have hu : A.units + 12 < cLine := by have := R.units; omega
  refine isTrue_chain (hx m l a A Er s adr H H1 env ρ va _ t1 e1 R S fun adr1 h1 k1 u1 T1 S1 x1 => ?_) (by simp [lastMarks, marks_ok t5 op'])
  refine test_link (hx m r b A Er ⟨h1, s.gens, s.drawn, k1, s.os⟩ adr1 H1 H2 env ρ vb _ t3 e2 R S1 fun adr2 h2 k2 u2 T2 S2 x2 => ?_)
  refine compare_ok (s := ⟨h2, s.gens, s.drawn, k2, s.os⟩) e3 t2 S2.sr (S1.vt T2 x1) x2 hu fun t => wpAny_truthy_bool ?_
  cases g with
  | false => exact ((PQ.ofT e).after (T1.trans T2) k2).here S2 rfl t
  | true =>
    exact bnd2 e fun vc H3 e4 e => bnd e fun g' e5 e => test_last (hx m r' c A Er ⟨h2, s.gens, s.drawn, t, s.os⟩ adr2 H2 H3 env ρ vc _ t5 e4 R S2 fun adr3 h3 k3 u3 T3 S3 x3 =>
      compare_ok (s := ⟨h3, s.gens, s.drawn, k3, s.os⟩) e5 t4 S3.sr (S2.vt T3 x2) x3 hu fun t => wpAny_truthy_bool (((PQ.ofT e).after ((T1.trans T2).trans T3) k3).here S3 rfl t))
theorem st_step {E' : Unit → Ev} (hx : SX prog w B D E d) (ht : ST prog w B D E d) : ST prog w B D (Ev.step P E E') d := by
  intro m ex e A Er s adr H H' env ρ b Q tr ev R S PQ
  have tr0 := tr
  cases m with
  | zero => cases tr
  | succ m =>
  cases trE_inv tr with
  | nam t =>
    obtain ⟨h1, h2, ⟨q, rfl⟩ | ⟨q, rfl⟩⟩ := trN_inv t
    · exact t_value (E' := E') hx tr0 rfl ev R S PQ
    · exact t_value (E' := E') hx tr0 rfl ev R S PQ
  | @not _ _ a t1 =>
    exact bnd2 (f := fun u => some (!u.1, u.2)) ev fun c H1 e1 ev => wpAny_isTrue_Not (ht m _ a A Er s adr H H1 env ρ c _ t1 e1 R S fun adr1 h1 k1 u1 T1 S1 x1 => (PQ.ofT ev) adr1 h1 k1 _ T1 S1 (by rw [show u1 = c from x1]))
  | bop t1 => exact wpAny_isTrue_BoolOp (x_tops ht t1 ev R S PQ)
  | @cmp l r op p a c o t1 t2 t3 =>
    exact bnd2 (f := fun u => (E.x c ρ u.2).bind fun v => (compare o u.1 v.1 v.2).bind fun r => some (r, v.2)) ev fun va H1 e1 ev => bnd2 ev fun vb H2 e2 ev => bnd ev fun g e3 ev =>
      wpAny_isTrue_Compare1 (cmp_pair hx t1 t2 t3 e1 e2 e3 R S (fun adr2 h2 k2 u2 T2 S2 _ t => wpAny_truthy_bool (((PQ.ofT ev).after T2 k2).here S2 rfl t)) fun _ _ _ h => h) (marks_ok t3 op)
  | cmp2 t1 t2 t3 t4 t5 => exact t_cmp2 hx t1 t2 t3 t4 t5 ev R S PQ
  | @ife c l r p k a a' t1 t2 t3 =>
    rw [arm_isTrue_IfExp]
    have ev : ((E.t k ρ H).bind fun u => match u.1 with | true => E.t a ρ u.2 | false => E.t a' ρ u.2) = some (b, H') := ev
    refine bnd2 ev fun g H1 e1 ev => wpAny_bind (ht m c k A Er s adr H H1 env ρ g _ t1 e1 R S fun adr1 h1 k1 u1 T1 S1 x1 => ?_)
    rw [show u1 = g from x1]
    cases g with
    | true => exact ht m l a A Er ⟨h1, s.gens, s.drawn, k1, s.os⟩ adr1 H1 H' env ρ b _ t2 ev R S1 (PQ.after T1 k1)
    | false => exact ht m r a' A Er ⟨h1, s.gens, s.drawn, k1, s.os⟩ adr1 H1 H' env ρ b _ t3 ev R S1 (PQ.after T1 k1)
  | _ => exact t_value (E' := E') hx tr0 rfl ev R S PQ
end
end Mn
end
section
set_option maxRecDepth 100000
namespace Mn
open PySem PySem.W PyProof.Rows PySem.Calls SeqAt
section
variable {prog : Program} {w : World} {K : Frag} {B : Heap} {D : Ad} {P : Pg}
variable {E : Ev} {d : Nat} {A : Around} {Er : Value → Shared → Prop} {s : Shared} {adr : List Addr} {H H' : MH} {env : Env} {ρ ρ' : Loc}
theorem getL_set (x y : Nat) (v : MV) : ∀ (ρ : Loc), zf4 y (zf5 x v ρ) = if y = x then some v else zf4 y ρ
  | [] => by
    show zf4 y [(x, v)] = if y = x then some v else none
    rw [getL_ite]
    by_cases q : x = y
    · rw [if_pos q, if_pos q.symm]
    · rw [if_neg q, if_neg fun e => q e.symm]
      rfl
  | (z, u) :: r => by
    rw [setL_ite, getL_ite y z u r]
    by_cases q : z = x
    · rw [if_pos q, getL_ite]
      subst q
      by_cases q' : z = y
      · rw [if_pos q', if_pos q'.symm]
      · rw [if_neg q', if_neg q', if_neg fun e => q' e.symm]
    · rw [if_neg q, getL_ite, getL_set x y v r]
      by_cases q' : z = y
      · rw [if_pos q', if_pos q', if_neg fun e => q (q'.trans e)]
      · rw [if_neg q', if_neg q']
theorem LR.same {h : Heap} {ρ₂ : Loc} (L : LR D adr h env ρ) (e : ∀ y, zf4 y ρ₂ = zf4 y ρ) : LR D adr h env ρ₂ := by
  obtain ⟨m, a, c⟩ := L.ns
  exact ⟨⟨m, a, fun s v ok q => c s v ok ((e _).symm.trans q)⟩, L.cl, fun s v ok q => L.cv s v ok ((e _).symm.trans q)⟩
theorem own_cell_ne (S : EnvOk B adr env) {n n' : Str} {c : Addr} (e : env.cells.lookup n = some c) (e' : env.cells.lookup n' = some c) : n = n' :=
  name_of_addr (List.pairwise_map.mp (List.nodup_cons.mp S.nd).2) (mem_of_lookup e) (mem_of_lookup e')
theorem cell_locals (S : EnvOk B adr env) {n : Str} {c : Addr} (e : env.cells.lookup n = some c) : c ≠ env.locals := fun z =>
  (List.nodup_cons.mp S.nd).1 (z ▸ List.mem_map.mpr ⟨(n, c), mem_of_lookup e, rfl⟩)
theorem St.own_turn {a : Addr} {h' : Heap} (S : St prog w B D adr H ρ env s.heap) (ha : a ∈ own env) (hs : Heap.SameBut a s.heap h') (hl : (h'.get? a).isSome = true) (L : SoftKeep s.heap h' → LR D adr h' env ρ') :
    Tn adr env s.heap adr h' ∧ St prog w B D adr H ρ' env h' := by
  have sk : SoftKeep s.heap h' := soft1 (own_hard S.lr S.en a ha) hs
  have keep : ∀ b o, s.heap.get? b = some o → b ≠ a → h'.get? b = some o := fun b o e n => (hs.2 b n).trans e
  refine ⟨⟨List.prefix_refl _, fun _ q => .inl q, ⟨fun b o e _ n => keep b o e fun z => n (z ▸ ha), live_but hs hl⟩⟩, ⟨⟨fun b o e => keep b o (S.sr.base b o e) fun z => ?_, S.sr.len, S.sr.nd, fun i o e => ?_, S.sr.full, S.sr.st⟩, L sk, S.en⟩⟩
  · have := S.en.offB a ha
    rw [← z, e] at this
    cases this
  · obtain ⟨b, e1, O⟩ := S.sr.obj i o e
    exact ⟨b, e1, O.mono (List.prefix_refl _) sk fun ob e => keep b ob e fun z => S.en.offA a ha (z ▸ List.mem_of_getElem? e1)⟩
theorem set_cases {x y : Str} {v v' : MV} (ok : okS y) (hx : okS x) (e : zf4 (code y) (zf5 (code x) v ρ) = some v') : (y = x ∧ v = v') ∨ (y ≠ x ∧ zf4 (code y) ρ = some v') := by
  rw [getL_set] at e
  by_cases z : y = x
  · rw [z, if_pos rfl] at e
    exact .inl ⟨z, Option.some.inj e⟩
  · rw [if_neg fun c => z (code_inj ok hx c)] at e
    exact .inr ⟨z, e⟩
theorem store_ok {x : Str} {v : MV} {u : Value} {Q : Unit → Shared → Prop} (hx : okS x) (hk : env.kindOf x = some .local ∨ env.kindOf x = some .cell) (S : St prog w B D adr H ρ env s.heap) (xv : VR D adr s.heap v u)
    (PQ : Po prog w B D adr env s H (zf5 (code x) v ρ) (fun _ _ _ => True) Q) : wpAny (model prog w) A (storeName env x u) Q Er s := by
  obtain ⟨m, hns, hval⟩ := S.lr.ns
  rcases hk with hk | hk
  · refine wpAny_storeName_local hk hns (fun h' hn' hs => ?_) (by rw [S.en.kind]; rfl)
    obtain ⟨T, S'⟩ := S.own_turn (ρ' := zf5 (code x) v ρ) own_locals hs (by obtain ⟨o, _, _, e, _⟩ := hn'; exact some_of e) fun sk => by
      have ck : ∀ {n c}, env.cells.lookup n = some c → ∀ {v}, s.heap.IsCell c v → h'.IsCell c v := fun e _ x => cell_keep x fun o e' => (hs.2 _ (cell_locals S.en e)).trans e'
      refine ⟨⟨_, hn', fun y v' ok e q => ?_⟩, fun n c e => ?_, fun y v' ok e q => ?_⟩
      · rcases set_cases ok hx e with ⟨rfl, rfl⟩ | ⟨z, e⟩
        · exact ⟨u, if_pos rfl, xv.mono (List.prefix_refl _) sk⟩
        · obtain ⟨u', e1, x1⟩ := hval y v' ok e q
          exact ⟨u', (if_neg z).trans e1, x1.mono (List.prefix_refl _) sk⟩
      · obtain ⟨v, x⟩ := S.lr.cl n c e
        exact ⟨v, ck e x⟩
      · rcases set_cases ok hx e with ⟨rfl, rfl⟩ | ⟨z, e⟩
        · rw [hk] at q; cases q
        · obtain ⟨c, u', e1, x1, x2⟩ := S.lr.cv y v' ok e q
          exact ⟨c, u', e1, ck e1 x1, x2.mono (List.prefix_refl _) sk⟩
    exact PQ adr h' _ () T S' trivial
  · obtain ⟨c, hcc⟩ := S.en.held x hk
    obtain ⟨v0, hc0⟩ := S.lr.cl x c hcc
    refine wpAny_storeName_cell S.en.kind hk hcc hc0 fun h' hv' hs => ?_
    obtain ⟨T, S'⟩ := S.own_turn (ρ' := zf5 (code x) v ρ) (own_cell hcc) hs (by obtain ⟨o, e, _⟩ := hv'; exact some_of e) fun sk => by
      have ck : ∀ {n c'}, n ≠ x → env.cells.lookup n = some c' → ∀ {v}, s.heap.IsCell c' v → h'.IsCell c' v := fun z e _ x => cell_keep x fun o e' => (hs.2 _ fun q => z (own_cell_ne S.en (q ▸ e) hcc)).trans e'
      refine ⟨⟨m, hns.sameBut hs (cell_locals S.en hcc).symm, fun y v' ok e q => ?_⟩, fun n c' e => ?_, fun y v' ok e q => ?_⟩
      · rcases set_cases ok hx e with ⟨rfl, rfl⟩ | ⟨z, e⟩
        · rw [hk] at q; cases q
        · obtain ⟨u', e1, x1⟩ := hval y v' ok e q
          exact ⟨u', e1, x1.mono (List.prefix_refl _) sk⟩
      · by_cases z : n = x
        · exact ⟨_, Option.some.inj ((z ▸ hcc).symm.trans e) ▸ hv'⟩
        · obtain ⟨v, x⟩ := S.lr.cl n c' e
          exact ⟨v, ck z e x⟩
      · rcases set_cases ok hx e with ⟨rfl, rfl⟩ | ⟨z, e⟩
        · exact ⟨c, u, hcc, hv', xv.mono (List.prefix_refl _) sk⟩
        · obtain ⟨c', u', e1, x1, x2⟩ := S.lr.cv y v' ok e q
          exact ⟨c', u', e1, ck z e1 x1, x2.mono (List.prefix_refl _) sk⟩
    exact PQ adr h' s.toks () T S' trivial
theorem each_ok {m : Nat} {sc : Scope} {t : PySem.Expr} {x : MT} (h : trT m sc t = some x) (rest : List PySem.Expr) (env : Env) : assignEach (t :: rest) env = (false, assign t env) :: assignEach rest env := by
  cases t with
  | Starred => cases m <;> cases h
  | _ => rfl
theorem each_all {m : Nat} {sc : Scope} {ts : List PySem.Expr} : ∀ {xs : List MT}, all? (trT m sc) ts = some xs → (assignEach ts env).length = xs.length ∧ (assignEach ts env).findIdx? (·.1) = none := by
  induction ts with
  | nil => intro xs tr; obtain rfl := all_nil tr; exact ⟨rfl, rfl⟩
  | cons t ts ih =>
    intro xs tr
    obtain ⟨a, as, t1, t2, rfl⟩ := all_inv tr
    rw [each_ok t1]
    obtain ⟨i1, i2⟩ := ih t2
    refine ⟨congrArg Nat.succ i1, ?_⟩
    rw [List.findIdx?_cons, i2]
    rfl
theorem setAttr_okP (C : Cx prog w K B D P) {z : Str} {o v : MV} {u uv : Value} {Q : Unit → Shared → Prop} (hz : okS z) (e : setAttr P H o (code z) v = some H') (S : St prog w B D adr H ρ env s.heap) (xo : VR D adr s.heap o u) (xv : VR D adr s.heap v uv)
    (PQ : PU prog w B D adr env ρ s H' Q) : wpAny (model prog w) A (PySem.setAttr u z uv) Q Er s := by
  refine bnd e fun q e1 e4 => gd e4 fun hg e5 => ?_
  obtain ⟨k, rfl, e1, e2⟩ := instAt_inv e1
  exact setAttr_ok (C.X.keeps S.sr.base) (C.cls _ (.inl ⟨_, hg.1⟩)) S hz e1 e2 hg.2.1 hg.1 hg.2.2 xo xv (by rw [Option.some.inj e5]; exact PQ)
inductive TtI (m : Nat) (sc : Scope) : PySem.Expr → MT → Prop
  | nam {x : Str} {p : Pos} (ok : okS x) (hl : sc.names.lookup x = some .local ∨ sc.names.lookup x = some .cell) : TtI m sc (.Name x p) (.nam (code x))
  | tup {ts : List PySem.Expr} {q : Nat} {p : Pos} {xs : List MT} (t : all? (trT m sc) ts = some xs) : TtI m sc (.Tuple ts q p) (.tup xs)
  | sub {o i : PySem.Expr} {p : Pos} {a j : MX} (t1 : trE m sc o = some a) (t2 : trE m sc i = some j) : TtI m sc (.Subscript o i p) (.sub a j)
  | att {o : PySem.Expr} {x : Str} {p : Pos} {a : MX} (ok : okS x) (t : trE m sc o = some a) : TtI m sc (.Attribute o x p) (.att a (code x))
theorem TtI.of {m : Nat} {sc : Scope} {x : PySem.Expr} {e e' : MT} (h : some e' = some e) (k : TtI m sc x e') : TtI m sc x e := by rw [← Option.some.inj h]; exact k
theorem trT_inv {m : Nat} {sc : Scope} {tx : PySem.Expr} {t : MT} (tr : trT (m + 1) sc tx = some t) : TtI m sc tx t := by
  cases tx with
  | Name x p =>
    have tr : (if okN x = false then none else (match sc.names.lookup x with | some .local => some (MT.nam (code x)) | some .cell => some (MT.nam (code x)) | _ => none)) = some t := tr
    by_cases hN : okN x = false
    · rw [if_pos hN] at tr; cases tr
    · rw [if_neg hN] at tr
      split at tr
      · rename_i q; exact .of tr (.nam (okN_low hN).1 (.inl q))
      · rename_i q; exact .of tr (.nam (okN_low hN).1 (.inr q))
      · cases tr
  | Tuple ts q p => exact bnd (f := fun ts => some (MT.tup ts)) tr fun xs t1 tr => .of tr (.tup t1)
  | Subscript o i p =>
    have tr : (if isSlc i = true then none else (trE m sc o).bind fun a => (trE m sc i).bind fun i => some (MT.sub a i)) = some t := tr
    by_cases h : isSlc i = true
    · rw [if_pos h] at tr; cases tr
    · rw [if_neg h] at tr
      exact bnd tr fun a t1 tr => bnd tr fun j t2 tr => .of tr (.sub t1 t2)
  | Attribute o x p => exact gd (o := (trE m sc o).bind fun a => some (MT.att a (code x))) tr fun g tr => bnd tr fun a t1 tr => .of tr (.att (low_ok (Bool.and_eq_true_iff.mp g).1) t1)
  | _ => cases tr
theorem puts_cons {t : MT} {ts : List MT} {vs : List MV} {q : Loc × MH} (e : puts P E (t :: ts) vs ρ H = some q) : ∃ v vs' ρ1 H1, vs = v :: vs' ∧ put P E t v ρ H = some (ρ1, H1) ∧ puts P E ts vs' ρ1 H1 = some q := by
  cases vs with
  | nil => cases e
  | cons v vs =>
    rw [puts] at e
    exact bnd2 e fun ρ1 H1 e1 e => ⟨v, vs, ρ1, H1, rfl, e1, e⟩
theorem puts_nil {vs : List MV} {q : Loc × MH} (e : puts P E [] vs ρ H = some q) : vs = [] ∧ some (ρ, H) = some q := by
  cases vs with
  | nil => rw [puts] at e; exact ⟨rfl, e⟩
  | cons v vs => cases e
theorem puts_len {ts : List MT} : ∀ {vs : List MV} {ρ : Loc} {H : MH} {q : Loc × MH}, puts P E ts vs ρ H = some q → ts.length = vs.length := by
  induction ts with
  | nil => intro vs ρ H q e; rw [(puts_nil e).1]; rfl
  | cons t ts ih =>
    intro vs ρ H q e
    obtain ⟨v, vs', ρ1, H1, rfl, _, e⟩ := puts_cons e
    exact congrArg Nat.succ (ih e)
theorem Po.ofU {α : Type} {H0 : MH} {ρ0 : Loc} {R : List Addr → Heap → α → Prop} {Q : α → Shared → Prop} (e : some (ρ0, H0) = some (ρ', H')) (P : Po prog w B D adr env s H' ρ' R Q) : Po prog w B D adr env s H0 ρ0 R Q := by
  cases e
  exact P
theorem put_ok (C : Cx prog w K B D P) (hx : SX prog w B D E d) (R : Room A d) : ∀ (m : Nat) {tx : PySem.Expr} {t : MT} {s : Shared} {adr : List Addr} {H H' : MH} {ρ ρ' : Loc} {v : MV} {u : Value} {Q : Unit → Shared → Prop}, trT m env.scope tx = some t → put P E t v ρ H = some (ρ', H') →
    St prog w B D adr H ρ env s.heap → VR D adr s.heap v u → Po prog w B D adr env s H' ρ' (fun _ _ _ => True) Q → wpAny (model prog w) A (assign tx env u) Q Er s := by
  intro m
  induction m with
  | zero => intro tx t s adr H H' ρ ρ' v u Q tr; cases tr
  | succ m ih =>
    intro tx t s adr H H' ρ ρ' v u Q tr e S xv PQ
    have rows : ∀ {ts : List PySem.Expr} {xs : List MT} {s : Shared} {adr : List Addr} {H : MH} {ρ : Loc} {vs : List MV} {us : List Value}, all? (trT m env.scope) ts = some xs → puts P E xs vs ρ H = some (ρ', H') →
        St prog w B D adr H ρ env s.heap → VRs D adr s.heap vs us → Po prog w B D adr env s H' ρ' (fun _ _ _ => True) Q → wpAny (model prog w) A (assignInOrder ((assignEach ts env).map (·.2)) us) Q Er s := by
      intro ts
      induction ts with
      | nil =>
        intro xs s adr H ρ vs us tr e S xs' PQ
        obtain rfl := all_nil tr
        obtain ⟨rfl, e⟩ := puts_nil e
        rw [show us = [] from xs'.inv]
        exact wpAny_assignInOrder_none ((PQ.ofU e).here S trivial s.toks)
      | cons t ts ih2 =>
        intro xs s adr H ρ vs us tr e S xs' PQ
        obtain ⟨a, as, t1, t2, rfl⟩ := all_inv tr
        rw [each_ok t1]
        obtain ⟨v, vs', ρ1, H1, rfl, e1, e⟩ := puts_cons e
        obtain ⟨uv, us, rfl, xv, xs'⟩ := xs'.inv
        exact wpAny_assignInOrder_more (ih t1 e1 S xv fun adr1 h1 k1 _ T1 S1 _ => ih2 (s := ⟨h1, s.gens, s.drawn, k1, s.os⟩) t2 e S1 (S.vts T1 xs') (PQ.after T1 k1))
    cases trT_inv tr with
    | nam ok hl =>
      rw [put] at e
      exact wpAny_assign_Name (store_ok ok hl S xv (PQ.ofU e))
    | tup t1 =>
      rw [put] at e
      refine bnd e fun vs e1 e => ?_
      obtain ⟨a, ws, rfl, ht, hv⟩ := ((asTup_inv e1 ▸ xv : VR D adr s.heap (.tup vs) u)).inv
      obtain ⟨i1, i2⟩ := each_all (env := env) t1
      refine wpAny_assign_Tuple R.hh ht (i1.trans ((puts_len e).trans (hv.length.trans Array.length_toList))) i2 fun h' hs => ?_
      have k : ∀ b o, s.heap.get? b = some o → h'.get? b = some o := fun b o e => hs b o (Nat.ne_of_lt (Heap.lt_size e)) e
      exact rows (s := ⟨h', s.gens, s.drawn, s.toks, s.os⟩) t1 e (S.grown k) (hv.mono (List.prefix_refl _) (.of_keep k)) (PQ.after (Tn.grown k) s.toks)
    | @sub o i p a j t1 t2 =>
      rw [put] at e
      rw [arm_assign_Subscript]
      exact bnd2 e fun vo H1 e1 e => bnd2 e fun vi H2 e2 e => bnd e fun H3 e3 e => wpAny_bind (wpAny_holding (hx m o a A Er s adr H H1 env ρ vo _ t1 e1 R S fun adr1 h1 k1 u1 T1 S1 x1 =>
        wpAny_bind (wpAny_holding (hx m i j A Er ⟨h1, s.gens, s.drawn, k1, s.os⟩ adr1 H1 H2 env ρ vi _ t2 e2 R S1 fun adr2 h2 k2 u2 T2 S2 x2 =>
        wpAny_bind (wpAny_standAt (wpAny_bind (wpAny_holding (setItem_ok (s := ⟨h2, s.gens, s.drawn, k2, s.os⟩) e3 S2 (S1.vt T2 x1) x2 (S.vt (T1.trans T2) xv) fun adr3 h3 k3 T3 S3 =>
        wpAny_release ((PQ.ofU e) adr3 h3 k3 () ((T1.trans T2).trans T3) S3 trivial)))))))))
    | @att o x p a ok t1 =>
      rw [put] at e
      rw [arm_assign_Attribute]
      exact bnd2 e fun vo H1 e1 e => bnd e fun H3 e3 e => wpAny_bind (wpAny_holding (hx m _ a A Er s adr H H1 env ρ vo _ t1 e1 R S fun adr1 h1 k1 u1 T1 S1 x1 =>
        wpAny_bind (wpAny_standAt (wpAny_bind (wpAny_holding (setAttr_okP (s := ⟨h1, s.gens, s.drawn, k1, s.os⟩) C ok e3 S1 x1 (S.vt T1 xv) fun adr2 h2 k2 T2 S2 =>
        wpAny_release ((PQ.ofU e) adr2 h2 k2 () (T1.trans T2) S2 trivial)))))))
end
end Mn
end
section
set_option maxRecDepth 100000
namespace Mn
open PySem PySem.W PyProof.Rows PySem.Calls SeqAt
noncomputable def ItR (D : Ad) (adr : List Addr) (h : Heap) : It → Value → List Addr → Prop
  | .lst k i, u, pts => ∃ it l, u = .ref it ∧ pts = [it] ∧ adr[k]? = some l ∧ h.IsListIter it l i
  | .tup vs, u, pts => ∃ it t i ws, u = .ref it ∧ pts = [it] ∧ h.IsTupleIter it t i ∧ h.IsTuple t ws ∧ VRs D adr h vs (ws.toList.drop i)
  | .rng x step n, u, pts => ∃ it, u = .ref it ∧ pts = [it] ∧ IsRangeIter h it x n step
  | .enu i k, u, pts => ∃ e it l old, u = .ref e ∧ pts = [e, it] ∧ adr[k]? = some l ∧ IsEnum h e it i old ∧ h.IsListIter it l i ∧ e ≠ it
  | .txt vs, u, pts => ∃ it x t i, u = .ref it ∧ pts = [it] ∧ h.IsStrIter it "str_ascii_iterator" x t i ∧ okS x ∧ vs = (x.cps.toList.drop i).map chv
  | .ent i vs, u, pts => ∃ e it x t old, u = .ref e ∧ pts = [e, it] ∧ IsEnum h e it i old ∧ h.IsStrIter it "str_ascii_iterator" x t i ∧ e ≠ it ∧ okS x ∧ vs = (x.cps.toList.drop i).map chv ∧ i ≤ x.cps.size
section
variable {prog : Program} {w : World} {K : Frag} {B : Heap} {D : Ad} {P : Pg}
variable {E : Ev} {d : Nat} {A : Around} {Er : Value → Shared → Prop} {s : Shared} {adr adr' : List Addr} {H H' : MH} {env : Env} {ρ ρ' : Loc} {h h' : Heap}
theorem tupIter_hard {a l : Addr} {i : Nat} (x : h.IsTupleIter a l i) : Hard h a := by
  obtain ⟨o, e, hc, hd⟩ := x
  exact hard_of e (by rw [hc]; simp) (by rw [hc]; simp)
theorem lit_at {a l : Addr} {i : Nat} (x : h.IsListIter a l i) : (h.get? a).isSome = true := by obtain ⟨o, e, _⟩ := x; exact some_of e
theorem mem1 {a b : Addr} {C : Addr → Prop} (h : C b) (q : a ∈ [b]) : C a := List.mem_singleton.mp q ▸ h
theorem mem2 {a b c : Addr} {C : Addr → Prop} (h : C b) (h' : C c) (q : a ∈ [b, c]) : C a := (List.mem_cons.mp q).elim (fun e => e ▸ h) fun q => mem1 h' q
noncomputable abbrev Pt (h : Heap) (a : Addr) : Prop := Hard h a ∧ (h.get? a).isSome = true
theorem strIter_hard {a : Addr} {x : Str} {t : Tok} {i : Nat} (y : h.IsStrIter a "str_ascii_iterator" x t i) : Hard h a ∧ (h.get? a).isSome = true := by
  obtain ⟨o, e, hc, hd⟩ := y
  exact ⟨hard_of e (by rw [hc]; simp) (by rw [hc]; simp), some_of e⟩
theorem ItR.at {it : It} {u : Value} {pts : List Addr} (x : ItR D adr h it u pts) : ∀ a ∈ pts, Hard h a ∧ (h.get? a).isSome = true := by
  cases it with
  | lst k i => obtain ⟨it, l, _, rfl, e, hi⟩ := x; exact fun a => mem1 (C := Pt h) ⟨iter_hard hi, lit_at hi⟩
  | tup vs => obtain ⟨it, t, i, ws, _, rfl, hi, _⟩ := x; exact fun a => mem1 (C := Pt h) ⟨tupIter_hard hi, by obtain ⟨o, e, _⟩ := hi; exact some_of e⟩
  | rng x step n => obtain ⟨it, _, rfl, hi⟩ := x; exact fun a => mem1 (C := Pt h) ⟨hard_of hi (by simp) (by simp), some_of hi⟩
  | enu i k => obtain ⟨e, it, l, old, _, rfl, q, he, hi, hne⟩ := x; exact fun a => mem2 (C := Pt h) ⟨hard_of he (by simp) (by simp), some_of he⟩ ⟨iter_hard hi, lit_at hi⟩
  | txt vs => obtain ⟨it, x, t, i, _, rfl, hi, _⟩ := x; exact fun a => mem1 (C := Pt h) (strIter_hard hi)
  | ent i vs => obtain ⟨e, it, x, t, old, _, rfl, he, hi, hne, _⟩ := x; exact fun a => mem2 (C := Pt h) ⟨hard_of he (by simp) (by simp), some_of he⟩ (strIter_hard hi)
theorem ItR.hard {it : It} {u : Value} {pts : List Addr} (x : ItR D adr h it u pts) : ∀ a ∈ pts, Hard h a := fun a q => (x.at a q).1
theorem ItR.live {it : It} {u : Value} {pts : List Addr} (x : ItR D adr h it u pts) : ∀ a ∈ pts, (h.get? a).isSome = true := fun a q => (x.at a q).2
theorem ItR.mono {it : It} {u : Value} {pts : List Addr} (x : ItR D adr h it u pts) (hp : adr <+: adr') (hs : SoftKeep h h') (k : ∀ a ∈ pts, ∀ o, h.get? a = some o → h'.get? a = some o) : ItR D adr' h' it u pts := by
  cases it with
  | lst k' i => obtain ⟨it, l, e1, rfl, e, hi⟩ := x; exact ⟨it, l, e1, rfl, pre_get hp e, hi.at fun o e => k _ (.head _) o e⟩
  | tup vs =>
    obtain ⟨it, t, i, ws, e1, rfl, ⟨o, e, r⟩, ht, hv⟩ := x
    exact ⟨it, t, i, ws, e1, rfl, ⟨o, k _ (.head _) o e, r⟩, hs.1 _ _ ht, hv.mono hp hs⟩
  | rng x step n => obtain ⟨it, e1, rfl, hi⟩ := x; exact ⟨it, e1, rfl, k _ (.head _) _ hi⟩
  | enu i k' =>
    obtain ⟨e, it, l, old, e1, rfl, q, he, hi, hne⟩ := x
    exact ⟨e, it, l, old, e1, rfl, pre_get hp q, k _ (.head _) _ he, hi.at fun o e => k _ (.tail _ (.head _)) o e, hne⟩
  | txt vs => obtain ⟨it, x, t, i, e1, rfl, ⟨o, e, r⟩, hv⟩ := x; exact ⟨it, x, t, i, e1, rfl, ⟨o, k _ (.head _) o e, r⟩, hv⟩
  | ent i vs => obtain ⟨e, it, x, t, old, e1, rfl, he, ⟨o, e2, r⟩, hv⟩ := x; exact ⟨e, it, x, t, old, e1, rfl, k _ (.head _) _ he, ⟨o, k _ (.tail _ (.head _)) o e2, r⟩, hv⟩
theorem St.aside {l : List Addr} (S : St prog w B D adr H ρ env h) (hl : ∀ a ∈ l, Hard h a) (k : ∀ b o, b ∉ l → h.get? b = some o → h'.get? b = some o) (ha : ∀ a ∈ l, a ∉ adr) (ho : ∀ a ∈ l, a ∉ own env) (hb : ∀ a ∈ l, B.get? a = none) : St prog w B D adr H ρ env h' := by
  have hs : SoftKeep h h' := soft_of hl fun b o e n => k b o n e
  refine ⟨⟨fun b o e => k _ _ (fun q => ?_) (S.sr.base b o e), S.sr.len, S.sr.nd, fun i o e => ?_, S.sr.full, S.sr.st⟩, S.lr.keep (List.prefix_refl _) hs fun a q o e => k _ _ (fun z => ho a z q) e, S.en⟩
  · rw [hb b q] at e; cases e
  · obtain ⟨a, e1, O⟩ := S.sr.obj i o e
    exact ⟨a, e1, O.mono (List.prefix_refl _) hs fun ob e => k _ _ (fun z => ha a z (List.mem_of_getElem? e1)) e⟩
noncomputable def isTupE : PySem.Expr → Bool
  | .Tuple .. => true
  | _ => false
noncomputable def isNameE : PySem.Expr → Bool
  | .Name .. => true
  | _ => false
theorem go_name {t : PySem.Expr} (h : isNameE t = true) (it v : Value) : letOwnedTupleGo t it v = pure () := by
  cases t with
  | Name => rfl
  | _ => cases h
noncomputable def tupE (tx : PySem.Expr) : It → Bool
  | .enu _ _ => isTupE tx
  | .ent _ _ => isTupE tx
  | .lst _ _ => isTupE tx || isNameE tx
  | _ => isNameE tx
theorem tupE_ok {m : Nat} {sc : Scope} {tx : PySem.Expr} {t : MT} {it : It} (tr : trT m sc tx = some t) (h : tupOk t it = true) : tupE tx it = true := by
  cases m with
  | zero => cases tr
  | succ m =>
    cases trT_inv tr with
    | nam => cases it <;> first | rfl | cases h
    | tup => cases it <;> first | rfl | cases h
    | _ => cases it <;> cases h
theorem isTupE_inv {tx : PySem.Expr} (h : isTupE tx = true) : ∃ a b c, tx = .Tuple a b c := by
  cases tx with
  | Tuple a b c => exact ⟨a, b, c, rfl⟩
  | _ => cases h
noncomputable def Nx (prog : Program) (w : World) (A : Around) (Er : Value → Shared → Prop) (tx : PySem.Expr) (u : Value) (Qn : Shared → Prop) (Qs : Value → Shared → Prop) (s : Shared) : Prop :=
  wpAny (model prog w) A (pyNext u) (fun r s₁ => match r with | none => Qn s₁ | some v => wpAny (model prog w) A (letOwnedTupleGo tx u v) (fun _ s₂ => Qs v s₂) Er s₁) Er s
noncomputable def NxQ (D : Ad) (adr : List Addr) (s : Shared) (tx : PySem.Expr) (u : Value) (pts : List Addr) (r : Option (MV × It)) (Qn : Shared → Prop) (Qs : Value → Shared → Prop) : Prop := match r with
  | none => ∀ h', (∀ b o, b ∉ pts → s.heap.get? b = some o → h'.get? b = some o) → Qn ⟨h', s.gens, s.drawn, s.toks, s.os⟩
  | some p => ∀ h' t uv, (∀ b o, b ∉ pts → s.heap.get? b = some o → h'.get? b = some o) → ItR D adr h' p.2 u pts → VR D adr h' p.1 uv → tupE tx p.2 = true → Qs uv ⟨h', s.gens, s.drawn, t, s.os⟩
theorem NxQ.of {tx : PySem.Expr} {u : Value} {pts : List Addr} {r r' : Option (MV × It)} {Qn : Shared → Prop} {Qs : Value → Shared → Prop} (e : some r' = some r) (h : NxQ D adr s tx u pts r Qn Qs) : NxQ D adr s tx u pts r' Qn Qs := by rw [Option.some.inj e]; exact h
theorem off1 {a b : Addr} (h : b ∉ [a]) : b ≠ a := fun e => h (e ▸ .head _)
theorem off2 {a c b : Addr} (h : b ∉ [a, c]) : b ≠ a ∧ b ≠ c := ⟨fun e => h (e ▸ .head _), fun e => h (e ▸ .tail _ (.head _))⟩
theorem go_any {it l : Addr} {i : Nat} {tx : PySem.Expr} {uv : Value} {Q : Unit → Shared → Prop} (hT : (isTupE tx || isNameE tx) = true) (hi : s.heap.IsListIter it l i) (h : Q () s) : wpAny (model prog w) A (letOwnedTupleGo tx (.ref it) uv) Q Er s := by
  rcases Bool.or_eq_true_iff.mp hT with ht | ht
  · obtain ⟨_, _, _, rfl⟩ := isTupE_inv ht
    cases uv with
    | ref T => exact wpAny_letOwnedTupleGo_listiter hi h
    | _ => exact wpAny_pure h
  · rw [go_name ht]
    exact wpAny_pure h
theorem next_lst {k i : Nat} {r : Option (MV × It)} {u : Value} {pts : List Addr} {tx : PySem.Expr} {Qn : Shared → Prop} {Qs : Value → Shared → Prop} (e : It.next H (.lst k i) = some r) (S : SR prog w B D adr H s.heap) (x : ItR D adr s.heap (.lst k i) u pts) (hh : A.handled = none) (hT : tupE tx (.lst k i) = true)
    (h : NxQ D adr s tx u pts r Qn Qs) : Nx prog w A Er tx u Qn Qs s := by
  refine bnd e fun vs e1 e => ?_
  obtain ⟨it, l, rfl, rfl, q, hi⟩ := x
  obtain ⟨k', l', ws, q1, q2, q3, hl, hv⟩ := listAt_ok S e1 (.ref k l q)
  cases q2
  have h := h.of e
  cases hvi : vs[i]? with
  | some v =>
    rw [hvi] at h
    obtain ⟨uv, hu, xu⟩ := hv.get hvi
    rw [Array.getElem?_toList] at hu
    exact wpAny_pyNext_list_item hi hl hu fun h' hi' hsb => go_any hT hi' (h h' s.toks uv (fun b o n e => (hsb.2 b (off1 n)).trans e) ⟨it, l, rfl, rfl, q, hi'⟩ (xu.mono (List.prefix_refl _) (soft1 (iter_hard hi) hsb)) hT)
  | none =>
    rw [hvi] at h
    exact wpAny_pyNext_list_end hh hi hl (Array.getElem?_toList.symm.trans (hv.none_get hvi)) fun h' he => h h' fun b o n e => he b o (off1 n) e
theorem next_enu {k i : Nat} {r : Option (MV × It)} {u : Value} {pts : List Addr} {tx : PySem.Expr} {Qn : Shared → Prop} {Qs : Value → Shared → Prop} (e : It.next H (.enu i k) = some r) (S : SR prog w B D adr H s.heap) (x : ItR D adr s.heap (.enu i k) u pts) (hh : A.handled = none) (hT : isTupE tx = true)
    (h : NxQ D adr s tx u pts r Qn Qs) : Nx prog w A Er tx u Qn Qs s := by
  refine bnd e fun vs e1 e => ?_
  obtain ⟨ea, it, l, old, rfl, rfl, q, he, hi, hne⟩ := x
  obtain ⟨k', l', ws, q1, q2, q3, hl, hv⟩ := listAt_ok S e1 (.ref k l q)
  cases q2
  have h := h.of e
  cases hvi : vs[i]? with
  | some v =>
    rw [hvi] at h
    obtain ⟨uv, hu, xu⟩ := hv.get hvi
    rw [Array.getElem?_toList] at hu
    refine wpAny_pyNext_enum_item he hi hl hu hne fun h' ho hi' ht hz hk => ?_
    obtain ⟨_, _, _, rfl⟩ := isTupE_inv hT
    show wpAny _ _ (letOwnedTupleGo _ (.ref ea) (.ref s.heap.objs.size)) _ _ _
    refine wpAny_letOwnedTupleGo_enum ho fun h2 he2 hsb => ?_
    have hea : (s.heap.objs.size) ≠ ea := fun e => Nat.lt_irrefl _ (e ▸ Heap.lt_size he)
    have keep : ∀ b o, b ∉ [ea, it] → s.heap.get? b = some o → h2.get? b = some o := fun b o n e => (hsb.2 b (off2 n).1).trans (hk b o (off2 n).1 (off2 n).2 e)
    have sk : SoftKeep s.heap h2 := soft_of (l := [ea, it]) (fun b => mem2 (C := Hard s.heap) (hard_of he (by simp) (by simp)) (iter_hard hi)) fun b ob e n => keep b ob n e
    exact h h2 _ _ keep ⟨ea, it, l, uv, rfl, rfl, q, he2, hi'.at fun o e => (hsb.2 it hne.symm).trans e, hne⟩ (.tup _ _ #[.int i s.toks, uv] ⟨_, (hsb.2 _ hea).trans ht, rfl, 0, rfl⟩ (.cons (.int _ _) (.cons (xu.mono (List.prefix_refl _) sk) .nil))) rfl
  | none =>
    rw [hvi] at h
    exact wpAny_pyNext_enum_end hh he hi hl (Array.getElem?_toList.symm.trans (hv.none_get hvi)) fun h' hx => h h' fun b o n e => hx b o (off2 n).2 e
theorem next_ent {i : Nat} {vs : List MV} {r : Option (MV × It)} {u : Value} {pts : List Addr} {tx : PySem.Expr} {Qn : Shared → Prop} {Qs : Value → Shared → Prop} (e : It.next H (.ent i vs) = some r) (x : ItR D adr s.heap (.ent i vs) u pts) (hh : A.handled = none) (hT : isTupE tx = true)
    (h : NxQ D adr s tx u pts r Qn Qs) : Nx prog w A Er tx u Qn Qs s := by
  obtain ⟨ea, it, x, t, old, rfl, rfl, he, hi, hne, ok, hv, hz⟩ := x
  have Dr := Draws.strAscii (prog := prog) (w := w) (A := A.in1) hh it x t
  cases hd : x.cps.toList.drop i with
  | nil =>
    rw [hd] at hv
    subst hv
    rw [List.drop_eq_nil_iff, Array.length_toList] at hd
    obtain rfl : i = x.cps.size := Nat.le_antisymm hz hd
    exact wpAny_pyNext_enum_endD Dr he hi fun h' hx => h.of e h' fun b o n e => hx b o (off2 n).2 e
  | cons c cs =>
    rw [hd] at hv
    subst hv
    have hu : x.cps[i]? = some c := by rw [← Array.getElem?_toList, ← List.head?_drop, hd]; rfl
    have hlt := (Array.getElem?_eq_some_iff.mp hu).1
    refine wpAny_pyNext_enum_itemD Dr he hi hlt hne (fun q => hne (List.mem_singleton.mp q)) fun uv h' tk hP ho hi' ht hz' hk => ?_
    obtain ⟨c', tu, e1, rfl⟩ := hP
    obtain rfl : c = c' := Option.some.inj (hu.symm.trans e1)
    obtain ⟨_, _, _, rfl⟩ := isTupE_inv hT
    show wpAny _ _ (letOwnedTupleGo _ (.ref ea) (.ref s.heap.objs.size)) _ _ _
    refine wpAny_letOwnedTupleGo_enum ho fun h2 he2 hsb => ?_
    have hea : (s.heap.objs.size) ≠ ea := fun e => Nat.lt_irrefl _ (e ▸ Heap.lt_size he)
    have hc : c < 256 := ok c (List.mem_of_getElem? (by rw [Array.getElem?_toList]; exact hu))
    have hi2 : h2.IsStrIter it "str_ascii_iterator" x t (i + 1) := by
      obtain ⟨o, e3, r⟩ := hi'
      exact ⟨o, (hsb.2 it hne.symm).trans e3, r⟩
    exact h.of e h2 _ _ (fun b o n e => (hsb.2 b (off2 n).1).trans (hk b o (off2 n).1 (off2 n).2 e)) ⟨ea, it, x, t, _, rfl, rfl, he2, hi2, hne, ok, by rw [← List.drop_drop, hd]; rfl, hlt⟩
      (.tup _ _ #[.int i tk, .str ⟨#[c]⟩ tu] ⟨_, (hsb.2 _ hea).trans ht, rfl, 0, rfl⟩ (.cons (.int _ _) (.cons (char_vr hc _) .nil))) rfl
theorem next_txt {vs : List MV} {r : Option (MV × It)} {u : Value} {pts : List Addr} {tx : PySem.Expr} {Qn : Shared → Prop} {Qs : Value → Shared → Prop} (e : It.next H (.txt vs) = some r) (x : ItR D adr s.heap (.txt vs) u pts) (hh : A.handled = none) (hT : isNameE tx = true)
    (h : NxQ D adr s tx u pts r Qn Qs) : Nx prog w A Er tx u Qn Qs s := by
  obtain ⟨it, x, t, i, rfl, rfl, hi, ok, hv⟩ := x
  cases hd : x.cps.toList.drop i with
  | nil =>
    rw [hd] at hv
    subst hv
    exact wpAny_pyNext_ascii_end hh hi (Array.getElem?_eq_none (by rw [List.drop_eq_nil_iff] at hd; simpa using hd)) fun h' he => h.of e h' fun b o n e => he b o (off1 n) e
  | cons c cs =>
    rw [hd] at hv
    subst hv
    have hu : x.cps[i]? = some c := by rw [← Array.getElem?_toList, ← List.head?_drop, hd]; rfl
    have hc : c < 256 := ok c (List.mem_of_getElem? (by rw [Array.getElem?_toList]; exact hu))
    refine wpAny_pyNext_ascii_item hi hu fun h' hi' hsb => ?_
    show wpAny _ _ (letOwnedTupleGo tx (.ref it) _) _ _ _
    rw [go_name hT]
    exact wpAny_pure (h.of e h' _ _ (fun b o n e => (hsb.2 b (off1 n)).trans e) ⟨it, x, t, i + 1, rfl, rfl, hi', ok, by rw [← List.drop_drop, hd]; rfl⟩ (char_vr hc _) hT)
theorem next_tup {vs : List MV} {r : Option (MV × It)} {u : Value} {pts : List Addr} {tx : PySem.Expr} {Qn : Shared → Prop} {Qs : Value → Shared → Prop} (e : It.next H (.tup vs) = some r) (x : ItR D adr s.heap (.tup vs) u pts) (hh : A.handled = none) (hT : isNameE tx = true)
    (h : NxQ D adr s tx u pts r Qn Qs) : Nx prog w A Er tx u Qn Qs s := by
  obtain ⟨it, t, i, ws, rfl, rfl, hi, ht, hv⟩ := x
  cases vs with
  | nil =>
    have hd : ws.toList.drop i = [] := hv.inv
    exact wpAny_pyNext_tuple_end hh hi ht (Array.getElem?_eq_none (by rw [List.drop_eq_nil_iff] at hd; simpa using hd)) fun h' he => h.of e h' fun b o n e => he b o (off1 n) e
  | cons v vs =>
    obtain ⟨uv, us, hd, xu, xs⟩ := hv.inv
    have hu : ws[i]? = some uv := by rw [← Array.getElem?_toList, ← List.head?_drop, hd]; rfl
    refine wpAny_pyNext_tuple_item hi ht hu fun h' hi' hsb => ?_
    have sk : SoftKeep s.heap h' := soft1 (tupIter_hard hi) hsb
    show wpAny _ _ (letOwnedTupleGo tx (.ref it) uv) _ _ _
    rw [go_name hT]
    refine wpAny_pure (h.of e h' s.toks uv (fun b o n e => (hsb.2 b (off1 n)).trans e) ⟨it, t, i + 1, ws, rfl, rfl, hi', sk.1 _ _ ht, ?_⟩ (xu.mono (List.prefix_refl _) sk) hT)
    rw [← List.drop_drop, hd]
    exact xs.mono (List.prefix_refl _) sk
theorem next_rng {a step : Int} {n : Nat} {r : Option (MV × It)} {u : Value} {pts : List Addr} {tx : PySem.Expr} {Qn : Shared → Prop} {Qs : Value → Shared → Prop} (e : It.next H (.rng a step n) = some r) (x : ItR D adr s.heap (.rng a step n) u pts) (hh : A.handled = none) (hT : isNameE tx = true)
    (h : NxQ D adr s tx u pts r Qn Qs) : Nx prog w A Er tx u Qn Qs s := by
  obtain ⟨it, rfl, rfl, hi⟩ := x
  cases n with
  | zero => exact wpAny_pyNext_range_end hh hi (Int.le_refl _) fun h' he => h.of e h' fun b o n e => he b o (off1 n) e
  | succ n =>
    refine wpAny_pyNext_range_item hi (Int.natCast_pos.mpr (Nat.succ_pos n)) fun h' hi' hsb => ?_
    show wpAny _ _ (letOwnedTupleGo tx (.ref it) _) _ _ _
    rw [go_name hT]
    have q : ((n + 1 : Nat) : Int) - 1 = n := Int.add_sub_cancel (n : Int) 1
    rw [q] at hi'
    exact wpAny_pure (h.of e h' _ _ (fun b o n e => (hsb.2 b (off1 n)).trans e) ⟨it, rfl, rfl, hi'⟩ (.int _ _) hT)
theorem next_ok {it : It} {r : Option (MV × It)} {u : Value} {pts : List Addr} {tx : PySem.Expr} {Qn : Shared → Prop} {Qs : Value → Shared → Prop} (e : it.next H = some r) (S : SR prog w B D adr H s.heap) (x : ItR D adr s.heap it u pts) (hh : A.handled = none) (hT : tupE tx it = true)
    (h : NxQ D adr s tx u pts r Qn Qs) : Nx prog w A Er tx u Qn Qs s := by
  cases it with
  | lst => exact next_lst e S x hh hT h
  | tup => exact next_tup e x hh hT h
  | rng => exact next_rng e x hh hT h
  | enu => exact next_enu e S x hh hT h
  | txt => exact next_txt e x hh hT h
  | ent => exact next_ent e x hh hT h
end
end Mn
end
section
set_option maxRecDepth 100000
namespace Mn
open PySem PySem.W PyProof.Rows PySem.Calls SeqAt
section
variable {prog : Program} {w : World} {K : Frag} {B : Heap} {D : Ad} {P : Pg}
variable {E : Ev} {d : Nat} {A : Around} {Er : Value → Shared → Prop} {s : Shared} {adr adr' : List Addr} {H H' : MH} {env : Env} {ρ ρ' : Loc} {h h' : Heap}
noncomputable def GlbI (sc : Scope) (x : PySem.Expr) : MX → Prop
  | .glb f => ∃ z p, x = .Name z p ∧ trN sc z = some (.glb f)
  | _ => True
theorem glb_inv {m : Nat} {sc : Scope} {x : PySem.Expr} {e : MX} (tr : trE m sc x = some e) : GlbI sc x e := by
  cases m with
  | zero => cases tr
  | succ m =>
    cases trE_inv tr with
    | nam t =>
      obtain ⟨_, _, ⟨_, rfl⟩ | ⟨_, rfl⟩⟩ := trN_inv t
      · trivial
      · exact ⟨_, _, rfl, t⟩
    | _ => trivial
noncomputable def PI (D : Ad) (adr : List Addr) (s : Shared) (i : It) (Q : Value → Shared → Prop) : Prop :=
  ∀ h' t uu pts, (∀ b o, s.heap.get? b = some o → h'.get? b = some o) → ItR D adr h' i uu pts → (∀ a ∈ pts, s.heap.get? a = none) → Q uu ⟨h', s.gens, s.drawn, t, s.os⟩
theorem PI.of {i i' : It} {Q : Value → Shared → Prop} (e : some i' = some i) (h : PI D adr s i Q) : PI D adr s i' Q := by rw [Option.some.inj e]; exact h
theorem one_none : ∀ a ∈ [s.heap.objs.size], s.heap.get? a = none := fun a q => by rw [List.mem_singleton.mp q]; exact none_size
theorem iter_ok (S : St prog w B D adr H ρ env s.heap) {v : MV} {u : Value} {i : It} {Q : Value → Shared → Prop} (e : iterOf H v = some i) (x : VR D adr s.heap v u) (hQ : PI D adr s i Q) : wpAny (model prog w) A (pyIter u) Q Er s := by
  cases v with
  | tup vs =>
    obtain ⟨a, ws, rfl, ht, hv⟩ := x.inv
    refine wpAny_pyIter_tuple ht (hQ.of e _ _ _ _ keep_push ⟨_, a, 0, ws, rfl, rfl, ⟨_, Heap.get?_push_size _ rfl, rfl, rfl⟩, ?_, hv.mono (List.prefix_refl _) (.of_keep keep_push)⟩ one_none)
    obtain ⟨o, ho, r⟩ := ht
    exact ⟨o, keep_push _ _ ho, r⟩
  | ref k =>
    refine bnd e fun vs e1 e => ?_
    obtain ⟨k', l, ws, q, rfl, ha, hl, hv⟩ := listAt_ok S.sr e1 x
    obtain rfl : k = k' := congrArg refOf q
    exact wpAny_pyIter_list hl (hQ.of e _ _ _ _ keep_push ⟨_, l, rfl, rfl, ha, ⟨_, Heap.get?_push_size _ rfl, rfl, rfl⟩⟩ one_none)
  | str n =>
    refine bnd e fun vs e1 e => ?_
    obtain ⟨z, t, rfl, ok, hall, rfl⟩ := txt_vr e1 x
    exact wpAny_pyIter_ascii hall (hQ.of e _ _ _ _ keep_push ⟨_, z, t, 0, rfl, rfl, ⟨_, Heap.get?_push_size _ rfl, rfl, rfl⟩, ok, rfl⟩ one_none)
  | _ => cases e
theorem near_ok {i : Int} (h : near i = true) : i.natAbs < 1073741824 := of_decide_eq_true h
theorem size_down (a b : Int) : Builtin.Range.rangeSize a b (-1) = ((a - b).toNat : Int) := by
  unfold Builtin.Range.rangeSize
  rw [if_neg (by decide)]
  split
  · rw [show (-(-1 : Int)) = 1 by rfl, Int.ediv_one]; omega
  · omega
theorem small_down {a b : Int} (ha : a.natAbs < 1073741824) (hb : b.natAbs < 1073741824) : Builtin.Range.small a b (-1) = true := by
  unfold Builtin.Range.small
  rw [size_down]
  unfold Builtin.Range.rangeFitsLong
  simp only [show ¬ ((-1 : Int) > 0) by decide, if_false, Bool.and_eq_true, Bool.or_eq_true, decide_eq_true_eq]
  refine ⟨⟨⟨⟨⟨by omega, by omega⟩, by omega, by omega⟩, by omega, by omega⟩, by omega, by omega⟩, .inr ⟨by omega, by omega⟩⟩
theorem x_callB (C : Cx prog w K B D P) (hx : SX prog w B D E d) {m : Nat} {z : Str} {p pos : Pos} {es : List PySem.Expr} {f : Nat} {b : BI} {ms : List MX} {vs : List MV} {Q : Value → Shared → Prop} (tz : trN env.scope z = some (.glb f)) (hb : P.glb f = some (.bi b)) (t2 : all? (trE m env.scope) es = some ms)
    (e2 : evs E ms ρ H = some (vs, H')) (R : Room A d) (S : St prog w B D adr H ρ env s.heap) (PQ : Po prog w B D adr env s H' ρ (fun adr' h' us => VRs D adr' h' vs us) fun us s' => wpAny (model prog w) A (call (biV b) us) Q Er s') :
    wpAny (model prog w) A (eval (.Call (.Name z p) es [] pos) env) Q Er s := by
  rw [call_eq rfl]
  obtain ⟨h1, h2, ⟨q, e⟩ | ⟨q, e⟩⟩ := trN_inv tz
  · cases e
  · refine wpAny_bind (x_glb C h1 h2 q (v := .bi b) (by cases e; exact hb) S fun adr1 h1 k1 u1 T1 S1 x1 => ?_)
    rw [show u1 = _ from VR.inv x1]
    exact callWith_of (P := fun h => KpAt (model prog w) h (biV b)) (by rw [(any_star t2).1]; rfl) (fun _ x => x) (x_args (s := ⟨h1, s.gens, s.drawn, k1, s.os⟩) hx t2 e2 R S1 fun adr2 h2 k2 us T2 S2 x2 =>
      ⟨keeper_ok (adr := adr2) C (C.X.keeps S2.sr.base) (.bi b _ rfl) rfl, PQ adr2 h2 k2 us (T1.trans T2) S2 x2⟩)
theorem ints_inv {h : Heap} {vs : List MV} {us : List Value} (x : VRs D adr h vs us) : ∀ {l : List Int}, intsOf vs = some l → (l = [] ∧ us = []) ∨ ∃ i l' t us', l = i :: l' ∧ us = .int i t :: us' ∧ ∃ vs', intsOf vs' = some l' ∧ VRs D adr h vs' us' := by
  cases x with
  | nil => exact fun e => .inl ⟨(Option.some.inj e).symm, rfl⟩
  | @cons v u vs us hv hs =>
    intro l e
    refine bnd e fun i e1 e => bnd e fun l' e2 e => ?_
    obtain ⟨t, rfl⟩ := asInt_vr e1 hv
    exact .inr ⟨i, l', t, us, (Option.some.inj e).symm, rfl, vs, e2, hs⟩
theorem range_fin {o : Obj} {x step : Int} {n : Nat} {left : Int} {Q : Value → Shared → Prop} (hQ : PI D adr s (.rng x step n) Q) (hl : left = n) (t : Nat) :
    Q (.ref (s.heap.push o).objs.size) ⟨(s.heap.push o).push { cls := .type "range_iterator", data := .fields #[rawInt x, rawInt left, rawInt step] }, s.gens, s.drawn, t, s.os⟩ := by
  subst hl
  exact hQ _ t _ [(s.heap.push o).objs.size] (fun b o e => keep_push _ _ (keep_push _ _ e)) ⟨_, rfl, rfl, Heap.get?_push_size _ rfl⟩ fun a q => by rw [List.mem_singleton.mp q, Heap.size_push]; exact Heap.get?_none_of_le (Nat.le_succ _)
theorem range_ok {as : List MV} {us : List Value} {i : It} {Q : Value → Shared → Prop} (e : rangeOf as = some i) (x : VRs D adr s.heap as us) (hQ : PI D adr s i Q) :
    wpAny (model prog w) A (call (biV .range) us) (fun r s' => wpAny (model prog w) A (pyIter r) Q Er s') Er s := by
  refine bnd e fun l e1 e => ?_
  rcases ints_inv x e1 with ⟨rfl, _⟩ | ⟨a, l1, t1, us1, rfl, rfl, vs1, e2, x2⟩
  · cases e
  rcases ints_inv x2 e2 with ⟨rfl, rfl⟩ | ⟨b, l2, t2, us2, rfl, rfl, vs2, e3, x3⟩
  · refine gd e fun hb e => ?_
    have hb := near_ok hb
    exact call_range_1 (wpAny_pyIter_range (IsRange.new ..) (small_one (by decide) (by decide) (by omega) (by omega)) (range_fin (hQ.of e) (by rw [rangeSize_one]; split <;> omega) _))
  rcases ints_inv x3 e3 with ⟨rfl, rfl⟩ | ⟨c, l3, t3, us3, rfl, rfl, vs3, e4, x4⟩
  · refine gd e fun hab e => ?_
    rw [Bool.and_eq_true] at hab
    have ha := near_ok hab.1
    have hb := near_ok hab.2
    exact call_range_2 (wpAny_pyIter_range (IsRange.new ..) (small_one (by omega) (by omega) (by omega) (by omega)) (range_fin (hQ.of e) (by rw [rangeSize_one]; split <;> omega) _))
  rcases ints_inv x4 e4 with ⟨rfl, rfl⟩ | ⟨_, l4, _, _, rfl, _⟩
  · refine gd e fun hab e => ?_
    rw [Bool.and_eq_true, Bool.and_eq_true] at hab
    have ha := near_ok hab.1.1
    have hb := near_ok hab.1.2
    rw [of_decide_eq_true hab.2]
    exact call_range_3 (by decide) (wpAny_pyIter_range (IsRange.new ..) (small_down ha hb) (range_fin (hQ.of e) (size_down a b) _)) (.inl (PyProof.noPylong_small (by decide)))
  · cases e
noncomputable def PJ (prog : Program) (w : World) (B : Heap) (D : Ad) (adr : List Addr) (env : Env) (ρ : Loc) (s : Shared) (H' : MH) (i : It) (Q : Value → Shared → Prop) : Prop :=
  ∀ adr' h' t u pts, Tn adr env s.heap adr' h' → St prog w B D adr' H' ρ env h' → ItR D adr' h' i u pts → (∀ a ∈ pts, s.heap.get? a = none ∧ a ∉ adr' ∧ a ∉ own env) → Q u ⟨h', s.gens, s.drawn, t, s.os⟩
theorem PJ.fin {i : It} {Q : Value → Shared → Prop} (hQ : PJ prog w B D adr env ρ s H' i Q) {h1 : Heap} {k1 : Nat} (T1 : Tn adr env s.heap adr' h1) (S1 : St prog w B D adr' H' ρ env h1) : PI D adr' ⟨h1, s.gens, s.drawn, k1, s.os⟩ i Q :=
  fun h' t uu pts k x hn => hQ adr' h' t uu pts (T1.trans (Tn.grown k)) (S1.grown k) x fun a ha => ⟨none_back (T1.kp.live a) (hn a ha), fun q => (by have := S1.sr.live a q; rw [hn a ha] at this; cases this), fun q => (by have := S1.lr.live S1.en a q; rw [hn a ha] at this; cases this)⟩
theorem PJ.of {i i' : It} {H0 : MH} {Q : Value → Shared → Prop} (e : some (i', H0) = some (i, H')) (h : PJ prog w B D adr env ρ s H' i Q) : PJ prog w B D adr env ρ s H0 i' Q := by
  cases e
  exact h
theorem evP_ok (hx : SX prog w B D E d) {m : Nat} {itx : PySem.Expr} {mi : MX} {i : It} {Q : Value → Shared → Prop} (tr : trE m env.scope itx = some mi) (e : evP E mi ρ H = some (i, H')) (R : Room A d) (S : St prog w B D adr H ρ env s.heap) (hQ : PJ prog w B D adr env ρ s H' i Q) :
    wpAny (model prog w) A (eval itx env) (fun x s₁ => wpAny (model prog w) A (pyIter x) Q Er s₁) Er s :=
  bnd2 e fun v H1 e1 e => bnd e fun i' e2 e => hx m itx mi A Er s adr H H1 env ρ v _ tr e1 R S fun adr1 h1 k1 u1 T1 S1 x1 =>
    iter_ok (s := ⟨h1, s.gens, s.drawn, k1, s.os⟩) S1 e2 x1 ((hQ.of e).fin T1 S1)
theorem kie2_inv {k : Nat} {o : MO} {q : It} (e : kie2 k o = some q) : ∃ vs, o = .list vs ∧ some (It.enu 0 k) = some q := by
  cases o with
  | list vs => exact ⟨vs, rfl, e⟩
  | _ => cases e
theorem enu_ok (S : St prog w B D adr H ρ env s.heap) {v : MV} {u : Value} {i : It} {Q : Value → Shared → Prop} (e : enuOf H v = some i) (x : VR D adr s.heap v u) (hQ : PI D adr s i Q) : wpAny (model prog w) A (call (biV .enum) [u]) (fun r s' => wpAny (model prog w) A (pyIter r) Q Er s') Er s := by
  cases v with
  | ref k =>
    refine bnd e fun o e4 e => ?_
    obtain ⟨l, rfl, e⟩ := kie2_inv e
    obtain ⟨a, rfl, ha, O⟩ := SR.vref S.sr e4 x
    obtain ⟨ws, ⟨n, hl⟩, hv, _⟩ := O.listE
    exact call_enumerate_1 hl fun h' he hi hz hk => wpAny_pyIter_enum he (hQ.of e h' s.toks _ [s.heap.objs.size + 1, s.heap.objs.size] hk ⟨_, _, a, .none, rfl, rfl, ha, he, hi, Nat.succ_ne_self _⟩ fun b => mem2 (C := fun b => s.heap.get? b = none) (Heap.get?_none_of_le (Nat.le_succ _)) none_size)
  | str n =>
    refine bnd (f := fun vs => some (It.ent 0 vs)) e fun vs e1 e => ?_
    obtain ⟨z, t, rfl, ok, hall, rfl⟩ := txt_vr e1 x
    refine call_enumerate_str fun h' he hi hz hk => wpAny_pyIter_enum he (hQ.of e h' s.toks _ [s.heap.objs.size + 1, s.heap.objs.size] hk ⟨_, _, z, t, .none, rfl, rfl, he, ?_, Nat.succ_ne_self _, ok, rfl, Nat.zero_le _⟩ fun b => mem2 (C := fun b => s.heap.get? b = none) (Heap.get?_none_of_le (Nat.le_succ _)) none_size)
    rw [show strIterType z = "str_ascii_iterator" from if_pos hall] at hi
    exact hi
  | _ => cases e
theorem evG_ok (C : Cx prog w K B D P) (hx : SX prog w B D E d) {m : Nat} {z : Str} {p pos : Pos} {es : List PySem.Expr} {g : Nat} {b : BI} {as : List MX} {i : It} {Q : Value → Shared → Prop} (tz : trN env.scope z = some (.glb g)) (hb : P.glb g = some (.bi b)) (t2 : all? (trE m env.scope) es = some as)
    (e : evG E as ρ H b = some (i, H')) (R : Room A d) (S : St prog w B D adr H ρ env s.heap) (hQ : PJ prog w B D adr env ρ s H' i Q) :
    wpAny (model prog w) A (eval (.Call (.Name z p) es [] pos) env) (fun x s₁ => wpAny (model prog w) A (pyIter x) Q Er s₁) Er s := by
  cases b with
  | range =>
    exact bnd2 e fun vs H1 e1 e => bnd e fun i' e2 e => x_callB C hx tz hb t2 e1 R S fun adr1 h1 k1 us T1 S1 x1 =>
      range_ok (s := ⟨h1, s.gens, s.drawn, k1, s.os⟩) e2 x1 ((hQ.of e).fin T1 S1)
  | enum =>
    refine bnd2 e fun vs H1 e1 e => ?_
    obtain ⟨v, rfl, e⟩ := one_inv (show one vs (fun v => (enuOf H1 v).bind fun i => some (i, H1)) = some (i, H') from e)
    refine bnd e fun i' e3 e => x_callB C hx tz hb t2 e1 R S fun adr1 h1 k1 us T1 S1 x1 => ?_
    obtain ⟨u, rfl, xu⟩ := x1.inv1
    exact enu_ok (s := ⟨h1, s.gens, s.drawn, k1, s.os⟩) S1 e3 xu ((hQ.of e).fin T1 S1)
  | _ => cases e
theorem evI_ok (C : Cx prog w K B D P) (hx : SX prog w B D E d) {m : Nat} {itx : PySem.Expr} {mi : MX} {i : It} {Q : Value → Shared → Prop} (tr : trE m env.scope itx = some mi) (e : evI P E mi ρ H = some (i, H')) (R : Room A d) (S : St prog w B D adr H ρ env s.heap) (hQ : PJ prog w B D adr env ρ s H' i Q) :
    wpAny (model prog w) A (eval itx env) (fun x s₁ => wpAny (model prog w) A (pyIter x) Q Er s₁) Er s := by
  cases m with
  | zero => cases tr
  | succ m =>
    have tr0 := tr
    cases trE_inv tr with
    | call _ t1 t2 =>
      refine bnd (f := fun g => (P.glb g).bind fun v => (asBi v).bind (evG E _ ρ H)) e fun g e1 e => bnd e fun v e2 e => bnd e fun b e3 e => ?_
      rw [asGlb_inv e1] at t1
      rw [asBi_inv e3] at e2
      obtain ⟨z, p, rfl, tz⟩ := glb_inv t1
      exact evG_ok C hx tz e2 t2 e R S hQ
    | nam t =>
      obtain ⟨_, _, ⟨_, rfl⟩ | ⟨_, rfl⟩⟩ := trN_inv t
      · exact evP_ok hx tr0 e R S hQ
      · exact evP_ok hx tr0 e R S hQ
    | _ => exact evP_ok hx tr0 e R S hQ
end
end Mn
end
section
set_option maxRecDepth 100000
namespace Mn
open PySem PySem.W PyProof.Rows PySem.Calls SeqAt
noncomputable def setAll : List Nat → List MV → Loc → Loc
  | x :: xs, v :: vs, ρ => setAll xs vs (zf5 x v ρ)
  | _, _, ρ => ρ
theorem getL_all_out {y : Nat} : ∀ {xs : List Nat} {vs : List MV} {ρ : Loc}, y ∉ xs → zf4 y (setAll xs vs ρ) = zf4 y ρ
  | [], _, _, _ => by simp [setAll]
  | x :: xs, [], _, _ => by simp [setAll]
  | x :: xs, v :: vs, ρ, h => by
    show zf4 y (setAll xs vs (zf5 x v ρ)) = _
    rw [getL_all_out fun q => h (.tail _ q), getL_set, if_neg fun e => h (by rw [e]; exact .head _)]
theorem getL_all_in {y : Nat} {v : MV} : ∀ {xs : List Nat} {vs : List MV} {ρ : Loc}, xs.Nodup → (y, v) ∈ xs.zip vs → zf4 y (setAll xs vs ρ) = some v
  | [], _, _, _, h => by cases h
  | x :: xs, [], _, _, h => by cases h
  | x :: xs, u :: vs, ρ, hn, h => by
    rw [List.nodup_cons] at hn
    show zf4 y (setAll xs vs (zf5 x u ρ)) = _
    rcases List.mem_cons.mp h with e | h
    · injection e with e1 e2
      subst e1 e2
      rw [getL_all_out hn.1, getL_set, if_pos rfl]
    · exact getL_all_in hn.2 h
theorem zip_rev {α β : Type} : ∀ {xs : List α} {vs : List β}, xs.length = vs.length → xs.reverse.zip vs.reverse = (xs.zip vs).reverse
  | [], [], _ => rfl
  | [], _ :: _, h => by cases h
  | _ :: _, [], h => by cases h
  | x :: xs, v :: vs, h => by
    have h' : xs.length = vs.length := by simpa using h
    rw [List.reverse_cons, List.reverse_cons, List.zip_append (by simpa using h'), zip_rev h']
    show _ = ((x, v) :: xs.zip vs).reverse
    rw [List.reverse_cons]
    rfl
theorem getL_all_rev {xs : List Nat} {vs : List MV} {ρ : Loc} (hn : xs.Nodup) (hl : xs.length = vs.length) (y : Nat) : zf4 y (setAll xs vs ρ) = zf4 y (setAll xs.reverse vs.reverse ρ) := by
  by_cases hy : y ∈ xs
  · obtain ⟨v, hv⟩ : ∃ v, (y, v) ∈ xs.zip vs := by
      obtain ⟨i, hi, e⟩ := List.getElem_of_mem hy
      refine ⟨vs[i]'(hl ▸ hi), ?_⟩
      rw [← e]
      have : (xs.zip vs)[i]'(by simp [hl]; omega) = (xs[i], vs[i]'(hl ▸ hi)) := List.getElem_zip
      rw [← this]
      exact List.getElem_mem _
    rw [getL_all_in hn hv, getL_all_in (List.pairwise_reverse.mpr (List.Pairwise.imp (fun h => Ne.symm h) hn))]
    rw [zip_rev hl]
    exact List.mem_reverse.mpr hv
  · rw [getL_all_out hy, getL_all_out fun q => hy (List.mem_reverse.mp q)]
section
variable {prog : Program} {w : World} {K : Frag} {B : Heap} {D : Ad} {P : Pg}
variable {E : Ev} {d : Nat} {A : Around} {Er : Value → Shared → Prop} {s : Shared} {adr adr' : List Addr} {H H' : MH} {env : Env} {ρ ρ' : Loc} {h h' : Heap}
theorem puts_nams : ∀ {names : List Nat} {vs : List MV} {ρ : Loc}, puts P E (names.map .nam) vs ρ H = some (ρ', H') → names.length = vs.length ∧ some (setAll names vs ρ, H) = some (ρ', H')
  | [], vs, ρ, e => by
    obtain ⟨rfl, e⟩ := puts_nil e
    exact ⟨rfl, e⟩
  | n :: names, vs, ρ, e => by
    obtain ⟨v, vs', ρ1, H1, rfl, e1, e⟩ := puts_cons e
    rw [put] at e1
    have q := Option.some.inj e1
    obtain rfl : zf5 n v ρ = ρ1 := congrArg Prod.fst q
    obtain rfl : H = H1 := congrArg Prod.snd q
    obtain ⟨a, b⟩ := puts_nams e
    exact ⟨congrArg Nat.succ a, b⟩
theorem stores_ok {names : List Str} : ∀ {vs : List MV} {us : List Value} {s : Shared} {adr : List Addr} {ρ : Loc} {Q : Unit → Shared → Prop}, (∀ n ∈ names, okS n ∧ env.kindOf n = some .local) → names.length = vs.length → St prog w B D adr H ρ env s.heap → VRs D adr s.heap vs us →
    Po prog w B D adr env s H (setAll (names.map code) vs ρ) (fun _ _ _ => True) Q → wpAny (model prog w) A (assignInOrder (names.map fun n => bindName env n) us) Q Er s := by
  induction names with
  | nil =>
    intro vs us s adr ρ Q _ hl S xs PQ
    obtain rfl := List.length_eq_zero_iff.mp hl.symm
    rw [show us = [] from xs.inv]
    exact wpAny_assignInOrder_none (PQ.here S trivial s.toks)
  | cons n names ih =>
    intro vs us s adr ρ Q hn hl S xs PQ
    cases vs with
    | nil => cases hl
    | cons v vs =>
      obtain ⟨uv, us, rfl, xv, xs⟩ := xs.inv
      obtain ⟨hn1, hn2⟩ := hn n (.head _)
      exact wpAny_assignInOrder_more (wpAny_bindName (store_ok hn1 (.inl hn2) S xv fun adr1 h1 k1 _ T1 S1 _ => ih (s := ⟨h1, s.gens, s.drawn, k1, s.os⟩) (fun x hx => hn x (.tail _ hx)) (Nat.succ.inj hl) S1 (S.vts T1 xs) (PQ.after T1 k1)))
theorem comp_no {e : PySem.Expr} (h : isComp e = false) (t : Option PySem.Expr) (line : Nat) (env : Env) : swapsWith e t line env = pure false := by
  cases e with
  | ListComp => cases h
  | SetComp => cases h
  | DictComp => cases h
  | _ => rfl
theorem sole_no {e t : PySem.Expr} (h : isComp e = false) (line : Nat) (env : Env) : swapsWithSole [t] e line env = pure false := by
  cases e with
  | ListComp => cases h
  | SetComp => cases h
  | DictComp => cases h
  | _ => rfl
theorem swp_ok {t value : PySem.Expr} {r : Option (List Str)} (h : swp t value env.scope = some r) : swappedStores [t] value env = pure r := by
  have e : swappedStores [t] value env = swappedStores [t] value { scope := env.scope, locals := 0, globals := 0, cells := [] } := by kernel_rfl
  rw [e]
  unfold swp at h
  split at h
  · rename_i q
    rw [q, Option.some.inj h]; rfl
  · cases h
theorem St.same {ρ₂ : Loc} (S : St prog w B D adr H ρ env h) (e : ∀ y, zf4 y ρ₂ = zf4 y ρ) : St prog w B D adr H ρ₂ env h := ⟨S.sr, S.lr.same e, S.en⟩
theorem VRs.rev {l : List MV} {r : List Value} (x : VRs D adr h l r) : VRs D adr h l.reverse r.reverse :=
  x.ind (motive := fun l r => VRs D adr h l.reverse r.reverse) .nil fun v u vs us hv _ ih => by
    rw [List.reverse_cons, List.reverse_cons]
    exact ih.append (.cons hv .nil)
theorem asg_head {m : Nat} {t e : PySem.Expr} {pos : Pos} {me : MX} {sw : Option (List Str)} {v : MV} {H1 : MH} {Q : Flow → Shared → Prop} (hx : SX prog w B D E d) (hc : isComp e = false) (hsw : swp t e env.scope = some sw) (t2 : trE m env.scope e = some me) (e1 : E.x me ρ H = some (v, H1)) (R : Room A d) (S : St prog w B D adr H ρ env s.heap)
    (k : ∀ adr1 h1 k1 u1, Tn adr env s.heap adr1 h1 → St prog w B D adr1 H1 ρ env h1 → VR D adr1 h1 v u1 → wpAny (model prog w) A (assignStores env u1 sw ((assignEach [t] env).map (·.2))) Q Er ⟨h1, s.gens, s.drawn, k1, s.os⟩) :
    wpAny (model prog w) A (exec (.Assign [t] e pos) env) Q Er s := by
  rw [exec_Assign_arm]
  refine wpAny_bind (wpAny_standAt ?_)
  rw [sole_no hc]
  refine wpAny_bind (wpAny_pure ?_)
  rw [if_neg (by decide)]
  refine wpAny_bind (hx m e me A Er s adr H H1 env ρ v _ t2 e1 R S fun adr1 h1 k1 u1 T1 S1 x1 => ?_)
  rw [swp_ok hsw]
  exact wpAny_bind (wpAny_pure (k adr1 h1 k1 u1 T1 S1 x1))
theorem s_asg (C : Cx prog w K B D P) (hx : SX prog w B D E d) {m : Nat} {t e : PySem.Expr} {pos : Pos} {mt : MT} {me : MX} {Q : Flow → Shared → Prop} (hc : isComp e = false) (hsw : swp t e env.scope = some none) (t1 : trT m env.scope t = some mt) (t2 : trE m env.scope e = some me)
    {o : Out} (ev : ((E.x me ρ H).bind fun u => (put P E mt u.1 ρ u.2).bind fun r => some (Out.nxt, r.1, r.2)) = some (o, ρ', H')) (R : Room A d) (S : St prog w B D adr H ρ env s.heap) (PQ : Po prog w B D adr env s H' ρ' (fun adr' h' f => OutR D adr' h' o f) Q) :
    wpAny (model prog w) A (exec (.Assign [t] e pos) env) Q Er s := by
  refine bnd2 ev fun v H1 e1 ev => bnd2 ev fun ρ1 H2 e2 ev => asg_head hx hc hsw t2 e1 R S fun adr1 h1 k1 u1 T1 S1 x1 => ?_
  have he : (assignEach [t] env).map (·.2) = [assign t env] := by rw [each_ok t1]; rfl
  rw [he]
  show wpAny (model prog w) A (do assign t env u1; pure Flow.next) Q Er _
  exact wpAny_bind (put_ok C hx R m (s := ⟨h1, s.gens, s.drawn, k1, s.os⟩) t1 e2 S1 x1 fun adr2 h2 k2 _ T2 S2 _ => wpAny_pure ((PQ.ofS ev) adr2 h2 k2 _ (T1.trans T2) S2 rfl))
theorem s_asgN (hx : SX prog w B D E d) {m : Nat} {t e : PySem.Expr} {pos : Pos} {names : List Str} {me : MX} {Q : Flow → Shared → Prop} (hc : isComp e = false) (hsw : swp t e env.scope = some (some names)) (hok : swpOk env.scope names = true) (t2 : trE m env.scope e = some me)
    {o : Out} (ev : ((E.x me ρ H).bind fun u => (put P E (.tup ((names.map code).map .nam)) u.1 ρ u.2).bind fun r => some (Out.nxt, r.1, r.2)) = some (o, ρ', H')) (R : Room A d) (S : St prog w B D adr H ρ env s.heap) (PQ : Po prog w B D adr env s H' ρ' (fun adr' h' f => OutR D adr' h' o f) Q) :
    wpAny (model prog w) A (exec (.Assign [t] e pos) env) Q Er s := by
  refine bnd2 ev fun v H1 e1 ev => bnd2 ev fun ρ1 H2 e2 ev => asg_head hx hc hsw t2 e1 R S fun adr1 h1 k1 u1 T1 S1 x1 => ?_
  rw [put] at e2
  refine bnd e2 fun vals e3 e2 => ?_
  obtain ⟨hlen, e2⟩ := puts_nams e2
  rw [List.length_map] at hlen
  obtain ⟨a, ws, rfl, htp, hv⟩ := ((asTup_inv e3 ▸ x1 : VR D adr1 h1 (.tup vals) u1)).inv
  rw [swpOk, Bool.and_eq_true, List.all_eq_true] at hok
  have q2 : ∀ n ∈ names, okS n ∧ env.kindOf n = some .local := fun n hn => by
    have q := Bool.and_eq_true_iff.mp (hok.1 n hn)
    exact ⟨(okN_low (fun z => by rw [q.1] at z; cases z)).1, eq_of_beq q.2⟩
  show wpAny (model prog w) A (do
    rule "assign.swapped-stores"
    let items ← unpackItems (.ref a) names.length none
    assignInOrder (names.reverse.map fun n => bindName env n) items.reverse
    pure Flow.next) Q Er _
  rw [show names.length = ws.size from hlen.trans (hv.length.trans Array.length_toList)]
  refine wpAny_bind (wpAny_rule (wpAny_bind (wpAny_unpackItems_tuple R.hh htp fun h' hs' => ?_)))
  have kk : ∀ b o, h1.get? b = some o → h'.get? b = some o := fun b o e => hs' b o (Nat.ne_of_lt (Heap.lt_size e)) e
  have q := Option.some.inj e2
  obtain rfl : H1 = H2 := congrArg Prod.snd q
  obtain rfl : setAll (names.map code) vals ρ = ρ1 := congrArg Prod.fst q
  exact wpAny_bind (stores_ok (s := ⟨h', s.gens, s.drawn, k1, s.os⟩) (vs := vals.reverse) (fun n hn => q2 n (List.mem_reverse.mp hn)) (by rw [List.length_reverse, List.length_reverse, hlen]) (S1.grown kk) ((hv.mono (List.prefix_refl _) (.of_keep kk)).rev) fun adr2 h2 k2 _ T2 S2 _ =>
    wpAny_pure ((PQ.ofS ev) adr2 h2 k2 _ (T1.trans ((Tn.grown kk).trans T2)) (S2.same fun y => by rw [List.map_reverse]; exact getL_all_rev (of_decide_eq_true hok.2) (by rw [List.length_map, hlen]) y) rfl))
end
end Mn
end
section
set_option maxRecDepth 100000
namespace Mn
open PySem PySem.W PyProof.Rows PySem.Calls SeqAt
section
variable {prog : Program} {w : World} {K : Frag} {B : Heap} {D : Ad} {P : Pg}
variable {E : Ev} {d : Nat} {A : Around} {Er : Value → Shared → Prop} {s : Shared} {adr adr' : List Addr} {H H' : MH} {env : Env} {ρ ρ' : Loc} {h h' : Heap}
noncomputable def Away (adr : List Addr) (env : Env) (pts : List Addr) : Prop := ∀ a ∈ pts, a ∉ adr ∧ a ∉ own env
theorem ItR.turn {it : It} {u : Value} {pts : List Addr} (x : ItR D adr h it u pts) (S : St prog w B D adr H ρ env h) (T : Tn adr env h adr' h') (hf : Away adr env pts) : ItR D adr' h' it u pts ∧ Away adr' env pts :=
  ⟨x.mono T.pre (S.soft T.kp) fun a q o e => T.kp.keep a o e (hf a q).1 (hf a q).2, fun a q => ⟨fun z => (T.new a z).elim (hf a q).1 fun z => (by have := x.live a q; rw [z] at this; cases this), (hf a q).2⟩⟩
theorem Tn.aside {adr₀ : List Addr} {h₀ : Heap} {pts : List Addr} (T : Tn adr₀ env h₀ adr h) (k : ∀ b o, b ∉ pts → h.get? b = some o → h'.get? b = some o) (hn : ∀ a ∈ pts, h₀.get? a = none) : Tn adr₀ env h₀ adr h' := by
  have kk : ∀ b, (h₀.get? b).isSome = true → b ∉ pts := fun b e q => by rw [hn b q] at e; cases e
  refine ⟨T.pre, T.new, ⟨fun b o e n m => k b o (kk b (some_of e)) (T.kp.keep b o e n m), fun b e => ?_⟩⟩
  obtain ⟨o, ho⟩ := Option.isSome_iff_exists.mp (T.kp.live b e)
  exact some_of (k b o (kk b e) ho)
variable (prog w B D P) in
structure Up (N : Nat) (d : Nat) : Prop where
  x : ∀ n, n ≤ N → SX prog w B D (ev P n d) d
  t : ∀ n, n ≤ N → ST prog w B D (ev P n d) d
  s : ∀ n, n ≤ N → SS prog w B D (ev P n d) d
structure LpI (prog : Program) (w : World) (B : Heap) (D : Ad) (P : Pg) (d : Nat) (mt : MT) (mb : List MS) (tx : PySem.Expr) (u : Value) (pts : List Addr) (s₀ : Shared) (adr₀ : List Addr) (env : Env) (o : Out) (ρ' : Loc) (H' : MH) (n : Nat)
    (adr : List Addr) (H : MH) (ρ : Loc) (h : Heap) (it : It) : Prop where
  e : (ev P n d).l mt it mb ρ H = some (o, ρ', H')
  T : Tn adr₀ env s₀.heap adr h
  S : St prog w B D adr H ρ env h
  x : ItR D adr h it u pts
  f : Away adr env pts
  t : tupE tx it = true
theorem l_none {t : MT} {b : List MS} {n : Nat} {it : It} (e1 : it.next H = some none) : (ev P (n + 1) d).l t it b ρ H = some (.nxt, ρ, H) := by
  show (it.next H).bind _ = _
  rw [e1]; rfl
theorem l_some {t : MT} {b : List MS} {n : Nat} {it : It} {v : MV} {it' : It} (e1 : it.next H = some (some (v, it'))) : (ev P (n + 1) d).l t it b ρ H = (put P (ev P n d) t v ρ H).bind fun q => (stmts (ev P n d) b q.1 q.2).bind (klo3 (ev P n d) t it' b) := by
  show (it.next H).bind _ = _
  rw [e1]; rfl
theorem for_loop (C : Cx prog w K B D P) {N : Nat} (U : Up prog w B D P N d) (R : Room A d) {m : Nat} {tx : PySem.Expr} {body : List PySem.Stmt} {mt : MT} {mb : List MS} {Q : Flow → Shared → Prop} {Rr : Result → Shared → Prop} (t1 : trT m env.scope tx = some mt) (t2 : all? (trS m env.scope) body = some mb) {s₀ : Shared} {adr₀ : List Addr} {o : Out}
    {u : Value} {pts : List Addr} {it : It} (hnew : ∀ a ∈ pts, s₀.heap.get? a = none) (hb : ∀ a ∈ pts, B.get? a = none) (PQ : Po prog w B D adr₀ env s₀ H' ρ' (fun adr' h' f => OutR D adr' h' o f) Q) (hQ : ∀ f s', Q f s' → Rr (.ok f) s')
    {t : Nat} (I : LpI prog w B D P d mt mb tx u pts s₀ adr₀ env o ρ' H' N adr H ρ h it) :
    codeAny (model prog w) A (.forLoop tx u body [] env) Rr ⟨h, s₀.gens, s₀.drawn, t, s₀.os⟩ := by
  refine codeAny_forLoop_any (fun n sx => n ≤ N ∧ ∃ adr1 H1 ρ1 h1 t1 it1, sx = ⟨h1, s₀.gens, s₀.drawn, t1, s₀.os⟩ ∧ LpI prog w B D P d mt mb tx u pts s₀ adr₀ env o ρ' H' n adr1 H1 ρ1 h1 it1)
    (fun n sx hI => ?_) N ⟨Nat.le_refl _, adr, H, ρ, h, t, it, rfl, I⟩
  obtain ⟨hnN, adr1, H1, ρ1, h1, k1, it1, rfl, I⟩ := hI
  cases n with
  | zero => cases I.e
  | succ n =>
    have hn : n ≤ N := Nat.le_of_succ_le hnN
    have side : ∀ {h2 : Heap}, (∀ b o, b ∉ pts → h1.get? b = some o → h2.get? b = some o) → St prog w B D adr1 H1 ρ1 env h2 ∧ Tn adr₀ env s₀.heap adr1 h2 := fun k =>
      ⟨I.S.aside I.x.hard k (fun a q => (I.f a q).1) (fun a q => (I.f a q).2) hb, I.T.aside k hnew⟩
    cases e1 : it1.next H1 with
    | none => have e := I.e; rw [show (ev P (n + 1) d).l mt it1 mb ρ1 H1 = none from congrArg (Option.bind · _) e1] at e; cases e
    | some r =>
      refine next_ok (s := ⟨h1, s₀.gens, s₀.drawn, k1, s₀.os⟩) (Qn := fun s₁ => wpAny (model prog w) A (execs [] env) (fun f s₃ => Rr (.ok f) s₃) (notedBy (model prog w) A env fun e s' => Rr (.error e) s') s₁) e1 I.S.sr I.x R.hh I.t ?_
      cases r with
      | none =>
        intro h2 k
        obtain ⟨S2, T2⟩ := side k
        exact wpAny_execs_nil (hQ _ _ ((PQ.ofS ((l_none e1).symm.trans I.e)) adr1 h2 k1 _ T2 S2 rfl))
      | some p =>
        intro h2 t2 uv k x2 xv hT2
        obtain ⟨S2, T2⟩ := side k
        have e := I.e
        rw [l_some (v := p.1) (it' := p.2) e1] at e
        refine bnd2 e fun ρ2 H2 e2 e => bnd3 e fun o3 ρ3 H3 e3 e => ?_
        refine put_ok C (U.x n hn) R m (s := ⟨h2, s₀.gens, s₀.drawn, t2, s₀.os⟩) t1 e2 S2 xv fun adr3 h3 k3 _ T3 S3 _ => ?_
        refine x_stmts (U.s n hn) (s := ⟨h3, s₀.gens, s₀.drawn, k3, s₀.os⟩) ‹all? (trS m env.scope) body = some mb› e3 R S3 fun adr4 h4 k4 f T4 S4 x4 => ?_
        obtain ⟨x3, hf3⟩ := x2.turn S2 T3 I.f
        obtain ⟨x4', hf4⟩ := x3.turn S3 T4 hf3
        have T5 := (T2.trans T3).trans T4
        rcases kst_inv e with ⟨rfl, e⟩ | ⟨v, rfl, e⟩
        · rw [show f = .next from x4]
          exact ⟨n, Nat.lt_succ_self _, hn, adr4, H3, ρ3, h4, k4, p.2, rfl, e, T5, S4, x4', hf4, hT2⟩
        · obtain ⟨uu, rfl, xu⟩ := x4
          exact hQ _ _ ((PQ.ofS e) adr4 h4 k4 _ T5 S4 ⟨uu, rfl, xu⟩)
theorem set_not {m : Nat} {sc : Scope} {e : PySem.Expr} {x : MX} (h : trE m sc e = some x) (env : Env) (v : Value) : foldedSetIterable e env v = pure v := by
  cases e with
  | Set => cases m <;> cases h
  | _ => rfl
theorem s_for (C : Cx prog w K B D P) {N : Nat} (U : Up prog w B D P N d) {m : Nat} {tx itx : PySem.Expr} {body : List PySem.Stmt} {pos : Pos} {mt : MT} {mi : MX} {mb : List MS} {Q : Flow → Shared → Prop} {o : Out} (t1 : trT m env.scope tx = some mt) (t2 : trE m env.scope itx = some mi) (t3 : all? (trS m env.scope) body = some mb)
    (e : ((evI P (ev P N d) mi ρ H).bind fun i => if tupOk mt i.1 = true then (ev P N d).l mt i.1 mb ρ i.2 else none) = some (o, ρ', H')) (R : Room A d) (S : St prog w B D adr H ρ env s.heap) (PQ : Po prog w B D adr env s H' ρ' (fun adr' h' f => OutR D adr' h' o f) Q) :
    wpAny (model prog w) A (exec (.For tx itx body [] pos) env) Q Er s :=
  bnd2 e fun i H1 e1 e => gd e fun ht e => wpAny_For (evI_ok C (U.x N (Nat.le_refl _)) t2 e1 R S fun adr1 h1 k1 u pts T1 S1 x1 hf =>
    for_loop C U R t1 t3 (fun a q => (hf a q).1) (fun a q => base_none S.sr (hf a q).1) PQ (fun _ _ q => q) ⟨e, T1, S1, x1, fun a q => (hf a q).2, tupE_ok t1 ht⟩) (set_not t2 env)
theorem s_aug {m : Nat} {x : Str} {op : Operator} {e : PySem.Expr} {px pos : Pos} {o : Op} {me : MX} {Q : Flow → Shared → Prop} (hx : SX prog w B D E d) (hlow : okS x) (hl : env.scope.names.lookup x = some .local) (t1 : trOp op = some o) (t2 : trE m env.scope e = some me) {oo : Out}
    (ev : ((zf4 (code x) ρ).bind fun a => (E.x me ρ H).bind (kau2 (code x) o a ρ)) = some (oo, ρ', H')) (R : Room A d) (S : St prog w B D adr H ρ env s.heap) (PQ : Po prog w B D adr env s H' ρ' (fun adr' h' f => OutR D adr' h' oo f) Q) :
    wpAny (model prog w) A (exec (.AugAssign (.Name x px) op e pos) env) Q Er s := by
  refine bnd ev fun a e1 ev => bnd2 ev fun v H1 e2 ev => bnd ev fun i e3 ev => bnd ev fun j e4 ev => gd ev fun ho ev => ?_
  obtain ⟨mm, hns, hval⟩ := S.lr.ns
  obtain ⟨u, hu, xu⟩ := hval x a hlow e1 hl
  obtain ⟨t, rfl⟩ := asInt_vr e3 xu
  obtain rfl := op_add (ho ▸ t1)
  refine wpAny_AugAssign_Name (wpAny_loadName_local S.en.kind hl hns hu (hx m e me A Er s adr H H1 env ρ v _ t2 e2 R S fun adr1 h1 k1 u1 T1 S1 x1 => ?_))
  obtain ⟨t', rfl⟩ := asInt_vr e4 x1
  exact PyProof.Rows.iadd_int (s := ⟨h1, s.gens, s.drawn, k1, s.os⟩) (store_ok (s := ⟨h1, s.gens, s.drawn, k1 + 1, s.os⟩) hlow (.inl hl) S1 (.int _ _) fun adr2 h2 k2 _ T2 S2 _ => (PQ.ofS ev) adr2 h2 k2 _ (T1.trans T2) S2 rfl)
theorem s_while {N : Nat} (U : Up prog w B D P N d) {m : Nat} {c : PySem.Expr} {body : List PySem.Stmt} {pos : Pos} {mc : MX} {mb : List MS} {Q : Flow → Shared → Prop} {o : Out} (t1 : trE m env.scope c = some mc) (t3 : all? (trS m env.scope) body = some mb)
    (e : (ev P (N + 1) d).s (.whl mc mb) ρ H = some (o, ρ', H')) (R : Room A d) (S : St prog w B D adr H ρ env s.heap) (PQ : Po prog w B D adr env s H' ρ' (fun adr' h' f => OutR D adr' h' o f) Q) :
    wpAny (model prog w) A (exec (.While c body [] pos) env) Q Er s := by
  refine wpAny_While ?_
  refine codeAny_whileLoop (fun n sx => n ≤ N + 1 ∧ ∃ adr1 H1 ρ1 h1 t1, sx = ⟨h1, s.gens, s.drawn, t1, s.os⟩ ∧ (ev P n d).s (.whl mc mb) ρ1 H1 = some (o, ρ', H') ∧ Tn adr env s.heap adr1 h1 ∧ St prog w B D adr1 H1 ρ1 env h1)
    (fun n sx hI => ?_) (N + 1) ⟨Nat.le_refl _, adr, H, ρ, s.heap, s.toks, rfl, e, .refl .., S⟩
  obtain ⟨hnN, adr1, H1, ρ1, h1, k1, rfl, e, T1, S1⟩ := hI
  cases n with
  | zero => cases e
  | succ n =>
    have hn : n ≤ N := Nat.le_of_succ_le_succ hnN
    have e : (((ev P n d).t mc ρ1 H1).bind fun u => match u.1 with
      | true => (stmts (ev P n d) mb ρ1 u.2).bind (kst ((ev P n d).s (.whl mc mb)))
      | false => some (Out.nxt, ρ1, u.2)) = some (o, ρ', H') := e
    refine bnd2 e fun b H2 e1 e => U.t n hn m c mc A _ ⟨h1, s.gens, s.drawn, k1, s.os⟩ adr1 H1 H2 env ρ1 b _ t1 e1 R S1 fun adr2 h2 k2 b2 T2 S2 x2 => ?_
    rw [show b2 = b from x2]
    cases b with
    | false => exact wpAny_execs_nil ((PQ.ofS e) adr2 h2 k2 _ (T1.trans T2) S2 rfl)
    | true =>
      refine bnd3 e fun o3 ρ3 H3 e3 e => x_stmts (U.s n hn) (s := ⟨h2, s.gens, s.drawn, k2, s.os⟩) t3 e3 R S2 fun adr4 h4 k4 f T4 S4 x4 => ?_
      have T5 := (T1.trans T2).trans T4
      rcases kst_inv e with ⟨rfl, e⟩ | ⟨v, rfl, e⟩
      · rw [show f = .next from x4]
        exact ⟨n, Nat.lt_succ_self _, Nat.le_succ_of_le hn, adr4, H3, ρ3, h4, k4, rfl, e, T5, S4⟩
      · obtain ⟨uu, rfl, xu⟩ := x4
        exact (PQ.ofS e) adr4 h4 k4 _ T5 S4 ⟨uu, rfl, xu⟩
end
end Mn
end
section
set_option maxRecDepth 100000
namespace Mn
open PySem PySem.W PyProof.Rows PySem.Calls SeqAt
noncomputable def clo (env : Env) : List (Str × NameKind) → List (Str × Addr) → List (Str × Addr)
  | [], acc => acc
  | (n, k) :: r, acc => if k == .free then clo env r ((n, (env.cells.lookup n).getD 0) :: acc) else clo env r acc
theorem clo_loop {env : Env} (f : Str × NameKind → List (Str × Addr) → Sem (ForInStep (List (Str × Addr)))) (hf : ∀ n k acc, f (n, k) acc = if k == .free then (do let c ← cellOf env n; pure (.yield ((n, c) :: acc))) else pure (.yield acc)) :
    ∀ (names : List (Str × NameKind)) (acc : List (Str × Addr)), (∀ p ∈ names, p.2 = .free → ∃ c, env.cells.lookup p.1 = some c) → (forIn names acc f : Sem (List (Str × Addr))) = pure (clo env names acc)
  | [], acc, _ => by rw [List.forIn_nil]; rfl
  | (n, k) :: r, acc, h => by
    rw [List.forIn_cons, hf]
    unfold clo
    have ih := clo_loop f hf r
    by_cases q : (k == NameKind.free) = true
    · rw [if_pos q, if_pos q]
      obtain ⟨c, hc⟩ := h (n, k) (.head _) (eq_of_beq q)
      have hc : env.cells.lookup n = some c := hc
      have e : cellOf env n = pure c := by unfold cellOf; rw [hc]
      rw [e, hc]
      exact ih ((n, c) :: acc) fun p hp => h p (.tail _ hp)
    · rw [if_neg q, if_neg q]
      exact ih acc fun p hp => h p (.tail _ hp)
theorem closure_ok {env : Env} {sc : Scope} (h : ∀ p ∈ sc.names, p.2 = .free → ∃ c, env.cells.lookup p.1 = some c) : closureFor sc env = pure (clo env sc.names []) := by
  unfold closureFor
  have := clo_loop (env := env) (fun x r => match x with | (name, kind) => if kind == .free then (do let c ← cellOf env name; pure (.yield ((name, c) :: r))) else pure (.yield r)) (fun n k acc => rfl) sc.names [] h
  rw [show (do
        let mut cs := []
        for (name, kind) in sc.names do
          if kind == .free then cs := (name, ← cellOf env name) :: cs
        return cs : Sem (List (Str × Addr))) = ((forIn sc.names [] (fun x r => match x with | (name, kind) => if kind == .free then (do let c ← cellOf env name; pure (ForInStep.yield ((name, c) :: r))) else pure (ForInStep.yield r)) : Sem (List (Str × Addr))) >>= fun r => pure r) from rfl, this]; rfl
theorem clo_fst {env : Env} : ∀ (names : List (Str × NameKind)) (acc : List (Str × Addr)), (clo env names acc).map (·.1) = ((names.filter fun p => p.2 == .free).map (·.1)).reverse ++ acc.map (·.1)
  | [], acc => rfl
  | (nm, kd) :: r, acc => by
    unfold clo
    rw [List.filter_cons]
    by_cases q : (kd == NameKind.free) = true
    · rw [if_pos q, if_pos q, clo_fst r, List.map_cons, List.map_cons, List.reverse_cons, List.append_assoc]; rfl
    · rw [if_neg q, if_neg q, clo_fst r]
theorem clo_mem {env : Env} {n : Str} {c : Addr} : ∀ {names : List (Str × NameKind)} {acc : List (Str × Addr)}, (n, c) ∈ clo env names acc → (n, c) ∈ acc ∨ ((n, NameKind.free) ∈ names ∧ c = (env.cells.lookup n).getD 0)
  | [], _, h => .inl h
  | (m, k) :: r, acc, h => by
    unfold clo at h
    by_cases q : (k == NameKind.free) = true
    · rw [if_pos q] at h
      refine (clo_mem h).elim (fun h => (List.mem_cons.mp h).elim (fun h => .inr ?_) .inl) fun h => .inr ⟨.tail _ h.1, h.2⟩
      rw [show n = m from congrArg Prod.fst h, show c = _ from congrArg Prod.snd h, eq_of_beq q]
      exact ⟨.head _, rfl⟩
    · rw [if_neg q] at h
      exact (clo_mem h).elim .inl fun h => .inr ⟨.tail _ h.1, h.2⟩
theorem look_mem {α : Type} {x : Str} {u : α} : ∀ {l : List (Str × α)}, (l.map (·.1)).Nodup → (x, u) ∈ l → l.lookup x = some u
  | [], _, h => nomatch h
  | (k, v) :: l, hn, h => by
    rw [List.map_cons, List.nodup_cons] at hn
    rw [List.lookup_cons]
    rcases List.mem_cons.mp h with e | h
    · rw [← show x = k from congrArg Prod.fst e, ← show u = v from congrArg Prod.snd e, beq_self_eq_true]
    · rw [show (x == k) = false from beq_false_of_ne fun q => hn.1 (q ▸ List.mem_map.mpr ⟨(x, u), h, rfl⟩)]
      exact look_mem hn.2 h
theorem relab_look {sc : Scope} (hk : sc.kind = .function) {x : Str} : ∀ {names : List (Str × NameKind)}, (∀ p ∈ names, p.2 = .free → sc.names.lookup p.1 = some .cell) →
    (names.map fun (n, k) => if (k == .free && sc.kind == .function && sc.names.lookup n == some .cell) then (n, NameKind.cell) else (n, k)).lookup x = (names.lookup x).map fun k => if k = .free then .cell else k
  | [], _ => rfl
  | (n, k) :: r, h => by
    rw [List.map_cons, List.lookup_cons]
    have ih := relab_look hk (x := x) fun p hp => h p (.tail _ hp)
    by_cases q : k = .free
    · have e : (k == .free && sc.kind == .function && sc.names.lookup n == some .cell) = true := by
        rw [show sc.names.lookup n = some .cell from h _ (.head _) q, hk, q]; rfl
      dsimp only
      rw [if_pos e, List.lookup_cons, ih]
      cases x == n with
      | true => rw [q]; rfl
      | false => rfl
    · have e : ¬ (k == .free && sc.kind == .function && sc.names.lookup n == some .cell) = true := fun z => q (eq_of_beq (Bool.and_eq_true_iff.mp (Bool.and_eq_true_iff.mp z).1).1)
      dsimp only
      rw [if_neg e, List.lookup_cons, ih]
      cases x == n with
      | true => exact congrArg some (if_neg q).symm
      | false => rfl
section
variable {prog : Program} {w : World} {K : Frag} {B : Heap} {D : Ad} {P : Pg}
variable {E : Ev} {d : Nat} {A : Around} {Er : Value → Shared → Prop} {s : Shared} {adr adr' : List Addr} {H H' : MH} {env : Env} {ρ ρ' : Loc} {h h' : Heap} {sc' : Scope}
noncomputable abbrev cenv (sc' : Scope) (C : Addr) (env : Env) : Env := compEnvC sc' (clo env sc'.names []) C env
theorem ck_of (hO : OkComp sc' env.scope) {C : Addr} {x : Str} {k : NameKind} (e : (cenv sc' C env).kindOf x = some k) : ∃ k', sc'.names.lookup x = some k' ∧ (k' ≠ .cell ∧ ((k' = .free ∧ k = .cell) ∨ k' = k)) := by
  have e : (relab sc' env.scope).names.lookup x = some k := e
  rw [show (relab sc' env.scope).names.lookup x = _ from relab_look hO.2.1 fun p hp => (hO.2.2.2 p hp).2.2] at e
  obtain ⟨k', e1, e2⟩ := Option.map_eq_some_iff.mp e
  refine ⟨k', e1, (hO.2.2.2 _ (mem_of_lookup e1)).2.1, ?_⟩
  by_cases q : k' = .free
  · rw [if_pos q] at e2; exact .inl ⟨q, e2.symm⟩
  · rw [if_neg q] at e2; exact .inr e2
theorem ck_cell (hO : OkComp sc' env.scope) {C : Addr} {x : Str} (e : (cenv sc' C env).kindOf x = some .cell) : (x, NameKind.free) ∈ sc'.names := by
  obtain ⟨k, e1, e2, ⟨rfl, _⟩ | rfl⟩ := ck_of hO e
  · exact mem_of_lookup e1
  · exact absurd rfl e2
theorem ck_local (hO : OkComp sc' env.scope) {C : Addr} {x : Str} (e : (cenv sc' C env).kindOf x = some .local) : (x, NameKind.local) ∈ sc'.names := by
  obtain ⟨k, e1, e2, ⟨_, q⟩ | rfl⟩ := ck_of hO e
  · cases q
  · exact mem_of_lookup e1
theorem ck_free (hO : OkComp sc' env.scope) {C : Addr} {x : Str} (e : (x, NameKind.free) ∈ sc'.names) : (cenv sc' C env).kindOf x = some .cell := by
  show (relab sc' env.scope).names.lookup x = _
  rw [show (relab sc' env.scope).names.lookup x = _ from relab_look hO.2.1 fun p hp => (hO.2.2.2 p hp).2.2, look_mem hO.2.2.1 e]
  rfl
theorem free_held (S : EnvOk B adr env) (hO : OkComp sc' env.scope) : ∀ p ∈ sc'.names, p.2 = .free → ∃ c, env.cells.lookup p.1 = some c := fun p hp q => S.held p.1 ((hO.2.2.2 p hp).2.2 q)
theorem clo_names (hO : OkComp sc' env.scope) : ((clo env sc'.names []).map (·.1)).Nodup := by
  rw [clo_fst]
  exact pick_nodup hO.2.2.1
theorem clo_cell (S : EnvOk B adr env) (hO : OkComp sc' env.scope) {n : Str} {c : Addr} (e : (n, c) ∈ clo env sc'.names []) : (n, NameKind.free) ∈ sc'.names ∧ env.cells.lookup n = some c := by
  refine (clo_mem e).elim (fun h => nomatch h) fun h => ⟨h.1, ?_⟩
  obtain ⟨c', hc⟩ := free_held S hO _ h.1 rfl
  have hc : env.cells.lookup n = some c' := hc
  rw [h.2, hc]; rfl
theorem clo_look (S : EnvOk B adr env) (hO : OkComp sc' env.scope) {n : Str} (e : (n, NameKind.free) ∈ sc'.names) : ∃ c, (clo env sc'.names []).lookup n = some c ∧ env.cells.lookup n = some c := by
  obtain ⟨c, hc⟩ := look_some (l := clo env sc'.names []) (x := n) (by
    rw [clo_fst]
    exact List.mem_append_left _ (List.mem_reverse.mpr (List.mem_map.mpr ⟨(n, .free), List.mem_filter.mpr ⟨e, rfl⟩, rfl⟩)))
  exact ⟨c, hc, (clo_cell S hO (mem_of_lookup hc)).2⟩
theorem cenv_own (S : EnvOk B adr env) (hO : OkComp sc' env.scope) {C a : Addr} (ha : a ∈ own (cenv sc' C env)) : a = C ∨ ∃ n, (n, NameKind.free) ∈ sc'.names ∧ env.cells.lookup n = some a := by
  rcases List.mem_cons.mp ha with e | ha
  · exact .inl e
  · obtain ⟨⟨n, c⟩, hm, e⟩ := List.mem_map.mp ha
    exact .inr ⟨n, e ▸ clo_cell S hO hm⟩
theorem cenv_own' (S : EnvOk B adr env) (hO : OkComp sc' env.scope) {C a : Addr} (ha : a ∈ own (cenv sc' C env)) : a = C ∨ a ∈ own env :=
  (cenv_own S hO ha).imp id fun ⟨_, _, e⟩ => own_cell e
theorem cenv_ok (S : EnvOk B adr env) (hO : OkComp sc' env.scope) {C : Addr} (h1 : C ∉ own env) (h2 : C ∉ adr) (h3 : B.get? C = none) : EnvOk B adr (cenv sc' C env) := by
  refine ⟨hO.1, S.glob, S.blt, List.nodup_cons.mpr ⟨fun q => ?_, ?_⟩, clo_names hO, fun a ha => ?_, fun a ha => ?_, fun x hx => ?_⟩
  · obtain ⟨⟨n, c⟩, hm, e⟩ := List.mem_map.mp q
    exact h1 ((show c = C from e) ▸ own_cell (clo_cell S hO hm).2)
  · refine List.pairwise_map.mpr (List.Pairwise.imp_of_mem (fun {x y} hx hy hne e => ?_) (List.pairwise_map.mp (clo_names (env := env) hO)))
    exact hne (own_cell_ne S (clo_cell S hO (show (x.1, x.2) ∈ _ from hx)).2 ((show x.2 = y.2 from e) ▸ (clo_cell S hO (show (y.1, y.2) ∈ _ from hy)).2))
  · exact (cenv_own' S hO ha).elim (fun e => e ▸ h2) (S.offA a)
  · exact (cenv_own' S hO ha).elim (fun e => e ▸ h3) (S.offB a)
  · obtain ⟨c, e, _⟩ := clo_look S hO (ck_cell hO hx)
    exact ⟨c, e⟩
theorem cenv_in (S : St prog w B D adr H ρ env h) (hO : OkComp sc' env.scope) {C : Addr} (h1 : C ∉ own env) (h2 : C ∉ adr) (h3 : B.get? C = none) (hns : h.Ns C fun _ => none) {t : CT} (hL : OkLoc sc' t) (hu : ubnd t ρ = true) :
    St prog w B D adr H ρ (cenv sc' C env) h := by
  refine ⟨S.sr, ⟨⟨_, hns, fun x v ok e q => ?_⟩, fun n c e => S.lr.cl n c (clo_cell S.en hO (mem_of_lookup e)).2, fun x v ok e q => ?_⟩, cenv_ok S.en hO h1 h2 h3⟩
  · have := List.all_eq_true.mp hu _ (hL _ (ck_local hO q) rfl)
    rw [show zf4 (code (x, NameKind.local).1) ρ = some v from e] at this
    cases this
  · have hm := ck_cell hO q
    obtain ⟨c, u, e1, x1, x2⟩ := S.lr.cv x v ok e ((hO.2.2.2 _ hm).2.2 rfl)
    obtain ⟨c', e2, e3⟩ := clo_look S.en hO hm
    rw [Option.some.inj (e1.symm.trans e3)] at x1
    exact ⟨c', u, e2, x1, x2⟩
theorem cenv_out {adr₀ : List Addr} {h₀ : Heap} {ρc : Loc} (S₀ : St prog w B D adr₀ H ρ env h₀) (hO : OkComp sc' env.scope) {C : Addr} (hC : C ∉ own env) (hp : adr₀ <+: adr) (hs : SoftKeep h₀ h) (hen : EnvOk B adr env) (S : St prog w B D adr H' ρc (cenv sc' C env) h)
    (k : ∀ b ∈ own env, b ∉ own (cenv sc' C env) → ∀ o, h₀.get? b = some o → h.get? b = some o) (hρ : ∀ y v, zf4 y ρ = some v → zf4 y ρc = some v) : St prog w B D adr H' ρ env h := by
  obtain ⟨m, hns, hv⟩ := S₀.lr.ns
  have out : ∀ n c, env.cells.lookup n = some c → (n, NameKind.free) ∉ sc'.names → c ∉ own (cenv sc' C env) := fun n c e hn q =>
    (cenv_own S₀.en hO q).elim (fun e' => hC (e' ▸ own_cell e)) fun ⟨n', hm, e'⟩ => hn (own_cell_ne S₀.en e e' ▸ hm)
  have kl : env.locals ∉ own (cenv sc' C env) := fun q => (cenv_own S₀.en hO q).elim (fun e' => hC (e' ▸ own_locals)) fun ⟨n', _, e'⟩ => cell_locals S₀.en e' rfl
  refine ⟨S.sr, ⟨⟨m, ns_keep hns (k _ own_locals kl), fun x v ok e q => ?_⟩, fun n c e => ?_, fun x v ok e q => ?_⟩, hen⟩
  · obtain ⟨u, e1, x1⟩ := hv x v ok e q
    exact ⟨u, e1, x1.mono hp hs⟩
  · by_cases hn : (n, NameKind.free) ∈ sc'.names
    · obtain ⟨c', e1, e2⟩ := clo_look S₀.en hO hn
      exact Option.some.inj (e2.symm.trans e) ▸ S.lr.cl n c' e1
    · obtain ⟨v, x⟩ := S₀.lr.cl n c e
      exact ⟨v, cell_keep x (k c (own_cell e) (out n c e hn))⟩
  · by_cases hn : (x, NameKind.free) ∈ sc'.names
    · obtain ⟨c, u, e1, x1, x2⟩ := S.lr.cv x v ok (hρ _ _ e) (ck_free hO hn)
      exact ⟨c, u, (clo_cell S₀.en hO (mem_of_lookup e1)).2, x1, x2⟩
    · obtain ⟨c, u, e1, x1, x2⟩ := S₀.lr.cv x v ok e q
      exact ⟨c, u, e1, cell_keep x1 (k c (own_cell e1) (out x c e1 hn)), x2.mono hp hs⟩
end
end Mn
end
section
set_option maxRecDepth 100000
namespace Mn
open PySem PySem.W PyProof.Rows PySem.Calls SeqAt
section
variable {prog : Program} {w : World} {K : Frag} {B : Heap} {D : Ad} {P : Pg}
variable {E : Ev} {d : Nat} {A : Around} {Er : Value → Shared → Prop} {s : Shared} {adr adr' : List Addr} {H H' : MH} {env : Env} {ρ ρ' : Loc} {h h' : Heap} {sc' : Scope}
theorem comp_loop {Rr : Result → Shared → Prop} {elt target iter : PySem.Expr} {ifs : List PySem.Expr} {scope : Scope} {pos : Pos} {it acc : Value} {env : Env} (I : Nat → Shared → Prop)
    (turn : ∀ n s, I n s → Nx prog w A (notedBy (model prog w) A env fun e s' => Rr (.error e) s') target it (fun s₁ => Rr (.ok .next) s₁) (fun v s₁' => wpAny (model prog w) A (assign target env v) (fun _ s₂ =>
          wpAny (model prog w) A (forIn ifs true fun c r => if r = true then do let ok ← isTrue c env (eval c env); pure (ForInStep.yield ok) else pure (ForInStep.yield r)) (fun ok s₃ =>
            if ok = true then wpAny (model prog w) A (eval elt env) (fun x s₄ =>
              wpAny (model prog w) A (call (.builtin "list.append") [acc, x]) (fun _ s₅ => ∃ m, m < n ∧ I m s₅) (notedBy (model prog w) A env fun e s' => Rr (.error e) s') s₄) (notedBy (model prog w) A env fun e s' => Rr (.error e) s') s₃
            else ∃ m, m < n ∧ I m s₃) (notedBy (model prog w) A env fun e s' => Rr (.error e) s') s₂) (notedBy (model prog w) A env fun e s' => Rr (.error e) s') s₁') s)
    (n : Nat) {s : Shared} (h : I n s) : codeAny (model prog w) A (.compLoop (.ListComp elt [⟨target, iter, ifs, 0⟩] scope pos) 0 it acc env) Rr s := by
  refine codeAny_loop rfl I (fun n s hI => ?_) n h
  show wpAny _ A ((compTurn (.ListComp elt [⟨target, iter, ifs, 0⟩] scope pos) 0 it acc env).onRaise (fun x => do noteFrame x env; theTreesLotGoes x)) _ _ s
  refine wpAny_noted ?_
  rw [compTurn_list]
  refine wpAny_bind (wpAny_standAt (wpAny_bind (wpAny_mono (turn n s hI) (fun r s₁ h₁ => ?_) fun _ _ h' => h')))
  cases r with
  | none => exact wpAny_pure h₁
  | some v =>
    refine wpAny_bind (wpAny_mono h₁ (fun _ s₁' h₁' => wpAny_bind (wpAny_mono h₁' (fun _ s₂ h₂ => wpAny_bind (wpAny_mono h₂ (fun ok s₃ h₃ => ?_) fun _ _ h' => h')) fun _ _ h' => h')) fun _ _ h' => h')
    cases ok with
    | false => exact wpAny_pure ⟨rfl, h₃⟩
    | true => exact wpAny_bind (wpAny_bind (wpAny_mono h₃ (fun x s₄ h₄ => wpAny_bind (wpAny_mono h₄ (fun _ s₅ h₅ => wpAny_pure (wpAny_pure ⟨rfl, h₅⟩)) fun _ _ h' => h')) fun _ _ h' => h'))
theorem iter_self {i : It} {u : Value} {pts : List Addr} {Q : Value → Shared → Prop} (x : ItR D adr s.heap i u pts) (h : Q u s) : wpAny (model prog w) A (pyIter u) Q Er s := by
  cases i with
  | lst => obtain ⟨it, l, rfl, _, _, hi⟩ := x; exact wpAny_pyIter_listiter hi h
  | tup => obtain ⟨it, t, i, ws, rfl, _, hi, _⟩ := x; exact wpAny_pyIter_tupleiter hi h
  | rng => obtain ⟨it, rfl, _, hi⟩ := x; exact wpAny_pyIter_rangeiter hi h
  | enu => obtain ⟨e, it, l, old, rfl, _, _, he, _⟩ := x; exact wpAny_pyIter_enum he h
  | txt => obtain ⟨it, x, t, i, rfl, _, hi, _⟩ := x; exact wpAny_pyIter_striter_ascii hi h
  | ent => obtain ⟨e, it, x, t, old, rfl, _, he, _⟩ := x; exact wpAny_pyIter_enum he h
structure Tc (adrS : List Addr) (env env' : Env) (hS : Heap) (adr₀ : List Addr) (h₀ : Heap) (adr' : List Addr) (h : Heap) : Prop where
  tn : Tn adrS env hS adr' h
  pre : adr₀ <+: adr'
  soft : SoftKeep h₀ h
  kc : ∀ b ∈ own env, b ∉ own env' → ∀ o, h₀.get? b = some o → h.get? b = some o
theorem Tc.step {env' : Env} {hS h₀ : Heap} {adrS adr₀ adr₁ adr₂ : List Addr} {h₁ h₂ : Heap} (X : Tc adrS env env' hS adr₀ h₀ adr₁ h₁) (T : Tn adr₁ env' h₁ adr₂ h₂) (hk : SoftKeep h₁ h₂) (ho : ∀ a ∈ own env', a ∈ own env ∨ hS.get? a = none) (S₀ : St prog w B D adrS H ρ env hS) :
    Tc adrS env env' hS adr₀ h₀ adr₂ h₂ := by
  have nin : ∀ b o, hS.get? b = some o → b ∉ adrS → b ∉ adr₁ := fun b o e n q => (X.tn.new b q).elim n fun z => by rw [e] at z; cases z
  refine ⟨⟨X.tn.pre.trans T.pre, fun a q => (T.new a q).elim (X.tn.new a) fun z => .inr (none_back (X.tn.kp.live a) z), ⟨fun b o e n m => ?_, fun b e => T.kp.live b (X.tn.kp.live b e)⟩⟩, X.pre.trans T.pre, X.soft.trans hk, fun b hb n o e => ?_⟩
  · exact T.kp.keep b o (X.tn.kp.keep b o e n m) (nin b o e n) fun q => (ho b q).elim m fun z => by rw [e] at z; cases z
  · obtain ⟨ob, e'⟩ := Option.isSome_iff_exists.mp (S₀.lr.live S₀.en b hb)
    exact T.kp.keep b o (X.kc b hb n o e) (nin b ob e' (S₀.en.offA b hb)) n
theorem Tc.aside {env' : Env} {hS h₀ : Heap} {adrS adr₀ adr₁ : List Addr} {h₁ h₂ : Heap} {pts : List Addr} (X : Tc adrS env env' hS adr₀ h₀ adr₁ h₁) (k : ∀ b o, b ∉ pts → h₁.get? b = some o → h₂.get? b = some o) (hk : SoftKeep h₁ h₂) (hn : ∀ a ∈ pts, hS.get? a = none) (S₀ : St prog w B D adrS H ρ env hS) : Tc adrS env env' hS adr₀ h₀ adr₁ h₂ :=
  ⟨X.tn.aside k hn, X.pre, X.soft.trans hk, fun b hb n o e => k b o (fun q => by have := S₀.lr.live S₀.en b hb; rw [hn b q] at this; cases this) (X.kc b hb n o e)⟩
theorem tests_false {f : PySem.Expr → Bool → Sem (ForInStep Bool)} (hf : ∀ c, f c false = pure (.yield false)) {Q : Bool → Shared → Prop} : ∀ (l : List PySem.Expr), Q false s → wpAny (model prog w) A (forIn l false f) Q Er s
  | [], h => by rw [List.forIn_nil]; exact wpAny_pure h
  | c :: l, h => by
    rw [List.forIn_cons, hf]
    exact wpAny_bind (wpAny_pure (tests_false hf l h))
theorem tests_ok (ht : ST prog w B D E d) (R : Room A d) {m : Nat} {ifs : List PySem.Expr} : ∀ {ms : List MX} {s : Shared} {adr : List Addr} {H : MH} {b : Bool} {Q : Bool → Shared → Prop}, all? (trE m env.scope) ifs = some ms → tests E ms ρ H = some (b, H') →
    St prog w B D adr H ρ env s.heap → Po prog w B D adr env s H' ρ (fun _ _ c => c = b) Q →
    wpAny (model prog w) A (forIn ifs true fun c r => if r = true then do let ok ← isTrue c env (eval c env); pure (ForInStep.yield ok) else pure (ForInStep.yield r)) Q Er s := by
  induction ifs with
  | nil =>
    intro ms s adr H b Q tr e S PQ
    obtain rfl := all_nil tr
    exact wpAny_tests_nil ((PQ.ofT e).here S rfl s.toks)
  | cons c ifs ih =>
    intro ms s adr H b Q tr e S PQ
    obtain ⟨a, as, t1, t2, rfl⟩ := all_inv tr
    refine bnd2 e fun g H1 e1 e => ?_
    rw [List.forIn_cons, if_pos rfl]
    refine wpAny_bind (wpAny_bind (ht m c a A Er s adr H H1 env ρ g _ t1 e1 R S fun adr1 h1 k1 u1 T1 S1 x1 => wpAny_pure ?_))
    rw [show u1 = g from x1]
    cases g with
    | true => exact ih (s := ⟨h1, s.gens, s.drawn, k1, s.os⟩) t2 e S1 (PQ.after T1 k1)
    | false => exact tests_false (fun c => rfl) ifs (((PQ.ofT e).after T1 k1).here S1 rfl k1)
theorem put_frame {t : CT} {v : MV} {ρ₀ ρ₁ ρ₂ : Loc} (hu : ubnd t ρ₀ = true) (e : put P E t.mt v ρ₁ H = some (ρ₂, H')) (h : ∀ y v, zf4 y ρ₀ = some v → zf4 y ρ₁ = some v) : ∀ y v, zf4 y ρ₀ = some v → zf4 y ρ₂ = some v := by
  intro y u hy
  have h1 := h y u hy
  have hn : ∀ x ∈ t.codes, y ≠ x := fun x hx q => by
    have := List.all_eq_true.mp hu x (.tail _ hx)
    rw [← q, hy] at this
    cases this
  have set : ∀ {x : Nat} {v : MV} {ρ : Loc}, y ≠ x → zf4 y ρ = some u → zf4 y (zf5 x v ρ) = some u := fun q e => by rw [getL_set, if_neg q]; exact e
  have nam : ∀ {x : Nat} {v : MV} {ρ ρ' : Loc} {H H' : MH}, put P E (.nam x) v ρ H = some (ρ', H') → ρ' = zf5 x v ρ := fun e => by
    rw [put] at e
    exact (congrArg Prod.fst (Option.some.inj e)).symm
  cases t with
  | one x =>
    rw [nam e]
    exact set (hn x (.head _)) h1
  | two x z =>
    have e : put P E (.tup [.nam x, .nam z]) v ρ₁ H = some (ρ₂, H') := e
    rw [put] at e
    refine bnd e fun vs _ e => ?_
    obtain ⟨v1, vs1, ρa, Ha, _, ea, e⟩ := puts_cons e
    obtain ⟨v2, vs2, ρb, Hb, _, eb, e⟩ := puts_cons e
    rw [← show ρb = ρ₂ from congrArg Prod.fst (Option.some.inj (puts_nil e).2), nam eb, nam ea]
    exact set (hn z (.tail _ (.head _))) (set (hn x (.head _)) h1)
theorem trT_nam {n : Nat} {sc : Scope} {x : Str} {p : Pos} (h1 : okN x = true) (h2 : sc.names.lookup x = some .local) : trT (n + 1) sc (.Name x p) = some (.nam (code x)) := by
  show (if okN x = false then none else (match sc.names.lookup x with | some .local => some (MT.nam (code x)) | some .cell => some (MT.nam (code x)) | _ => none)) = _
  rw [if_neg (by rw [h1]; nofun), h2]
theorem trL_ok {sc : Scope} {e : PySem.Expr} {c : Nat} (h : trL sc e = some c) : trT 1 sc e = some (.nam c) := by
  cases e with
  | Name x p => exact gd (o := some (code x)) h fun g e => by rw [trT_nam g.1 g.2, ← Option.some.inj e]
  | _ => cases h
theorem trL_mono {sc : Scope} {e : PySem.Expr} {x : MT} (h : trT 1 sc e = some x) (hc : ∃ c, trL sc e = some c) : trT 2 sc e = some x := by
  cases e with
  | Name x p => exact h
  | _ => obtain ⟨c, hc⟩ := hc; cases hc
theorem trLs_ok {sc : Scope} : ∀ {ts : List PySem.Expr} {cs : List Nat}, all? (trL sc) ts = some cs → all? (trT 1 sc) ts = some (cs.map .nam)
  | [], cs, h => by rw [all_nil h]; rfl
  | t :: ts, cs, h => by
    obtain ⟨c, cs', h1, h2, rfl⟩ := all_inv h
    show (trT 1 sc t).bind _ = _
    rw [trL_ok h1]
    show (all? (trT 1 sc) ts).bind _ = _
    rw [trLs_ok h2]
    rfl
theorem ctOf_inv {cs : List Nat} {c : CT} (h : ctOf cs = some c) : c.mt = .tup (cs.map .nam) := by
  rcases cs with _ | ⟨x, _ | ⟨y, _ | ⟨z, cs⟩⟩⟩
  · cases h
  · cases h
  · rw [← Option.some.inj h]; rfl
  · cases h
theorem tupOf_inv {t : PySem.Expr} {ts : List PySem.Expr} (h : tupOf t = some ts) : ∃ a b, t = .Tuple ts a b := by
  cases t with
  | Tuple ts' a b => exact ⟨a, b, by rw [← Option.some.inj h]⟩
  | _ => cases h
theorem trCT_ok {sc : Scope} {t : PySem.Expr} {c : CT} (h : trCT sc t = some c) : trT 2 sc t = some c.mt := by
  unfold trCT at h
  cases hq : tupOf t with
  | some ts =>
    rw [hq] at h
    obtain ⟨a, b, rfl⟩ := tupOf_inv hq
    refine bnd h fun cs h1 h2 => ?_
    show (all? (trT 1 sc) ts).bind _ = _
    rw [trLs_ok h1, ctOf_inv h2]
    rfl
  | none =>
    rw [hq] at h
    refine bnd h fun x h1 h2 => ?_
    rw [← Option.some.inj h2]
    exact trL_mono (trL_ok h1) ⟨x, h1⟩
end
end Mn
end
section
set_option maxRecDepth 100000
namespace Mn
open PySem PySem.W PyProof.Rows PySem.Calls SeqAt
section
variable {prog : Program} {w : World} {K : Frag} {B : Heap} {D : Ad} {P : Pg}
variable {E : Ev} {d : Nat} {A : Around} {Er : Value → Shared → Prop} {s : Shared} {adr adr' : List Addr} {H H' : MH} {env : Env} {ρ ρ' : Loc} {h h' : Heap} {sc' : Scope}
theorem plain_hard {a : Addr} {ws : Array Value} (x : h.PlainList a ws) : Hard h a := by
  obtain ⟨n, e⟩ := x
  exact hard_of e (by simp) (by simp)
structure CpI (prog : Program) (w : World) (B : Heap) (D : Ad) (P : Pg) (d : Nat) (me : MX) (mt : CT) (mifs : List MX) (tx : PySem.Expr) (u : Value) (pts : List Addr) (s₀ : Shared) (adrS : List Addr) (env env' : Env) (adr₀ : List Addr) (h₀ : Heap) (L : Addr) (ρ : Loc) (racc : List MV) (H' : MH) (n : Nat)
    (adr : List Addr) (H : MH) (ρ1 : Loc) (h : Heap) (it : It) (acc : List MV) (ys : Array Value) : Prop where
  e : (ev P n d).k me mt mifs it acc ρ1 H = some (racc, H')
  X : Tc adrS env env' s₀.heap adr₀ h₀ adr h
  S : St prog w B D adr H ρ1 env' h
  x : ItR D adr h it u pts
  f : Away adr env' pts
  t : tupE tx it = true
  l : h.PlainList L ys
  v : VRs D adr h acc ys.toList
  la : L ∉ adr
  r : ∀ y v, zf4 y ρ = some v → zf4 y ρ1 = some v
noncomputable def CpE (prog : Program) (w : World) (B : Heap) (D : Ad) (s₀ : Shared) (adrS : List Addr) (env env' : Env) (adr₀ : List Addr) (h₀ : Heap) (L : Addr) (ρ : Loc) (racc : List MV) (H' : MH) (Rr : Result → Shared → Prop) : Prop :=
  ∀ adr1 h1 t1 ρc ys, Tc adrS env env' s₀.heap adr₀ h₀ adr1 h1 → St prog w B D adr1 H' ρc env' h1 → (∀ y v, zf4 y ρ = some v → zf4 y ρc = some v) → h1.PlainList L ys → VRs D adr1 h1 racc ys.toList → L ∉ adr1 → Rr (.ok .next) ⟨h1, s₀.gens, s₀.drawn, t1, s₀.os⟩
theorem k_none {me : MX} {mt : CT} {ifs : List MX} {n : Nat} {it : It} {acc : List MV} (e1 : it.next H = some none) : (ev P (n + 1) d).k me mt ifs it acc ρ H = some (acc, H) := by
  show (it.next H).bind _ = _
  rw [e1]; rfl
theorem k_some {me : MX} {mt : CT} {ifs : List MX} {n : Nat} {it : It} {acc : List MV} {v : MV} {it' : It} (e1 : it.next H = some (some (v, it'))) :
    (ev P (n + 1) d).k me mt ifs it acc ρ H = (put P (ev P n d) mt.mt v ρ H).bind fun q => (tests (ev P n d) ifs q.1 q.2).bind (ktk (ev P n d) me (fun a h => (ev P n d).k me mt ifs it' a q.1 h) acc q.1) := by
  show (it.next H).bind _ = _
  rw [e1]; rfl
theorem ktk_inv {k : List MV → MH → Option (List MV × MH)} {me : MX} {acc : List MV} {b : Bool} {r : List MV × MH} (e : ktk E me k acc ρ (b, H) = some r) : (b = false ∧ k acc H = some r) ∨ (b = true ∧ ∃ v H1, E.x me ρ H = some (v, H1) ∧ acc.length < lim ∧ k (acc ++ [v]) H1 = some r) := by
  cases b with
  | false => exact .inl ⟨rfl, e⟩
  | true => exact bnd2 (f := kek k acc) e fun v H1 e1 e => gd e fun hz e => .inr ⟨rfl, v, H1, e1, hz, e⟩
theorem one_of {a L : Addr} {C : Addr → Prop} (q : a ∈ [L]) (h : C L) : C a := List.mem_singleton.mp q ▸ h
theorem cmp_loop (C : Cx prog w K B D P) {N : Nat} (U : Up prog w B D P N d) (R : Room A d) {m : Nat} {x tx itx : PySem.Expr} {ifs : List PySem.Expr} {pos : Pos} {me : MX} {mt : CT} {mifs : List MX} {racc : List MV} {Rr : Result → Shared → Prop} {env' : Env}
    (t1 : trE m env'.scope x = some me) (t2 : trCT env'.scope tx = some mt) (t4 : all? (trE m env'.scope) ifs = some mifs) (hu : ubnd mt ρ = true)
    {s₀ : Shared} {adrS adr₀ : List Addr} {h₀ : Heap} {HS : MH} (S₀ : St prog w B D adrS HS ρ env s₀.heap) (ho : ∀ a ∈ own env', a ∈ own env ∨ s₀.heap.get? a = none) {u : Value} {pts : List Addr} (hnew : ∀ a ∈ pts, s₀.heap.get? a = none)
    {L : Addr} (hL0 : s₀.heap.get? L = none) (hLp : L ∉ pts) (hLo : L ∉ own env') (hfin : CpE prog w B D s₀ adrS env env' adr₀ h₀ L ρ racc H' Rr)
    {it : It} {acc : List MV} {ys : Array Value} {t : Nat} (I : CpI prog w B D P d me mt mifs tx u pts s₀ adrS env env' adr₀ h₀ L ρ racc H' N adr H ρ' h it acc ys) :
    codeAny (model prog w) A (.compLoop (.ListComp x [⟨tx, itx, ifs, 0⟩] sc' pos) 0 u (.ref L) env') Rr ⟨h, s₀.gens, s₀.drawn, t, s₀.os⟩ := by
  have hb : ∀ a ∈ pts, B.get? a = none := fun a q => base_none S₀.sr (hnew a q)
  have hlim := lim_eq
  refine comp_loop (fun n sx => n ≤ N ∧ ∃ adr1 H1 ρ1 h1 k1 it1 acc1 ys1, sx = ⟨h1, s₀.gens, s₀.drawn, k1, s₀.os⟩ ∧ CpI prog w B D P d me mt mifs tx u pts s₀ adrS env env' adr₀ h₀ L ρ racc H' n adr1 H1 ρ1 h1 it1 acc1 ys1)
    (fun n sx hI => ?_) N ⟨Nat.le_refl _, adr, H, ρ', h, t, it, acc, ys, rfl, I⟩
  obtain ⟨hnN, adr1, H1, ρ1, h1, k1, it1, acc, ys, rfl, I⟩ := hI
  cases n with
  | zero => cases I.e
  | succ n =>
    have hn : n ≤ N := Nat.le_of_succ_le hnN
    have side : ∀ {h2 : Heap}, (∀ b o, b ∉ pts → h1.get? b = some o → h2.get? b = some o) → St prog w B D adr1 H1 ρ1 env' h2 ∧ Tc adrS env env' s₀.heap adr₀ h₀ adr1 h2 ∧ h2.PlainList L ys ∧ VRs D adr1 h2 acc ys.toList := fun k =>
      have sk := soft_of I.x.hard fun b o e n => k b o n e
      ⟨I.S.aside I.x.hard k (fun a q => (I.f a q).1) (fun a q => (I.f a q).2) hb, I.X.aside k sk hnew S₀, I.l.at fun o e => k L o hLp e, I.v.mono (List.prefix_refl _) sk⟩
    cases e1 : it1.next H1 with
    | none => have e := I.e; rw [show (ev P (n + 1) d).k me mt mifs it1 acc ρ1 H1 = none from congrArg (Option.bind · _) e1] at e; cases e
    | some r =>
      refine next_ok (s := ⟨h1, s₀.gens, s₀.drawn, k1, s₀.os⟩) (Qn := fun s₁ => Rr (.ok .next) s₁) e1 I.S.sr I.x R.hh I.t ?_
      cases r with
      | none =>
        intro h2 k
        obtain ⟨S2, X2, l2, v2⟩ := side k
        have q := Option.some.inj ((k_none e1).symm.trans I.e)
        rw [show acc = racc from congrArg Prod.fst q] at v2
        rw [show H1 = H' from congrArg Prod.snd q] at S2
        exact hfin adr1 h2 k1 ρ1 ys X2 S2 I.r l2 v2 I.la
      | some p =>
        intro h2 tk uv k x2 xv hT2
        obtain ⟨S2, X2, l2, v2⟩ := side k
        have e := I.e
        rw [k_some (v := p.1) (it' := p.2) e1] at e
        refine bnd2 e fun ρ2 H2 e2 e => bnd2 e fun b H3 e3 e => ?_
        have last : ∀ {adrA adrB : List Addr} {hA hB : Heap}, Tn adrA env' hA adrB hB → hA.PlainList L ys → L ∉ adrA → hB.PlainList L ys ∧ L ∉ adrB := fun T hp hL =>
          ⟨hp.at fun o e => T.kp.keep L o e hL hLo, fun q => (T.new L q).elim hL fun z => by obtain ⟨_, e⟩ := hp; rw [e] at z; cases z⟩
        refine put_ok C (U.x n hn) R 2 (s := ⟨h2, s₀.gens, s₀.drawn, tk, s₀.os⟩) (trCT_ok t2) e2 S2 xv fun adr3 h3 k3 _ T3 S3 _ => ?_
        refine tests_ok (U.t n hn) R (s := ⟨h3, s₀.gens, s₀.drawn, k3, s₀.os⟩) t4 e3 S3 fun adr4 h4 k4 b4 T4 S4 x4 => ?_
        obtain ⟨l3, la3⟩ := last T3 l2 I.la
        obtain ⟨l4, la4⟩ := last T4 l3 la3
        obtain ⟨x3, f3⟩ := x2.turn S2 T3 I.f
        obtain ⟨x4', f4⟩ := x3.turn S3 T4 f3
        have v4 := S3.vts T4 (S2.vts T3 v2)
        have r3 := put_frame hu e2 I.r
        have X4 := (X2.step T3 (S2.soft T3.kp) ho S₀).step T4 (S3.soft T4.kp) ho S₀
        rcases ktk_inv e with ⟨rfl, e⟩ | ⟨rfl, v5, H5, e5, hz, e⟩
        · rw [show b4 = false from x4]
          exact ⟨n, Nat.lt_succ_self _, hn, adr4, H3, ρ2, h4, k4, p.2, acc, ys, rfl, e, X4, S4, x4', f4, hT2, l4, v4, la4, r3⟩
        · rw [show b4 = true from x4]
          refine U.x n hn m x me A _ ⟨h4, s₀.gens, s₀.drawn, k4, s₀.os⟩ adr4 H3 H5 env' ρ2 v5 _ t1 e5 R S4 fun adr5 h5 k5 u5 T5 S5 x5 => ?_
          obtain ⟨l5, la5⟩ := last T5 l4 la4
          obtain ⟨x5', f5⟩ := x4'.turn S4 T5 f4
          have v5' := S4.vts T5 v4
          have hn := v5'.length.trans Array.length_toList
          refine wpAny_list_append_plain (s := ⟨h5, s₀.gens, s₀.drawn, k5, s₀.os⟩) l5 (fun h6 l6 hs => ?_) (by rw [sizeLine_eq]; omega)
          have k6 : ∀ b o, b ∉ [L] → h5.get? b = some o → h6.get? b = some o := fun b o n e => (hs.2 b fun z => n (z ▸ .head _)).trans e
          have hd := plain_hard l5
          have sk := soft1 hd hs
          have S6 := S5.aside (l := [L]) (fun a q => one_of (C := Hard h5) q hd) k6 (fun a q => one_of (C := (· ∉ adr5)) q la5) (fun a q => one_of (C := (· ∉ own env')) q hLo) (fun a q => one_of (C := (B.get? · = none)) q (base_none S₀.sr hL0))
          have X6 := (X4.step T5 (S4.soft T5.kp) ho S₀).aside k6 sk (fun a q => one_of (C := (s₀.heap.get? · = none)) q hL0) S₀
          refine ⟨n, Nat.lt_succ_self _, ‹n ≤ N›, adr5, H5, ρ2, h6, k5, p.2, acc ++ [v5], _, rfl, e, X6, S6, x5'.mono (List.prefix_refl _) sk (fun a q o e => k6 a o (fun z => hLp (List.mem_singleton.mp z ▸ q)) e), f5, hT2, l6, ?_, la5, r3⟩
          rw [Array.toList_push]
          exact (v5'.append (.cons x5 .nil)).mono (List.prefix_refl _) sk
end
end Mn
end
section
set_option maxRecDepth 100000
namespace Mn
open PySem PySem.W PyProof.Rows PySem.Calls SeqAt
section
variable {prog : Program} {w : World} {K : Frag} {B : Heap} {D : Ad} {P : Pg}
variable {E : Ev} {d : Nat} {A : Around} {Er : Value → Shared → Prop} {s : Shared} {adr adr' : List Addr} {H H' : MH} {env : Env} {ρ ρ' : Loc} {h h' : Heap} {sc' : Scope}
theorem St.dead (S : St prog w B D adr H ρ env s.heap) {a : Addr} (hd : s.heap.get? a = none) : a ∉ adr ∧ a ∉ own env ∧ B.get? a = none :=
  ⟨fun q => (by have := S.sr.live a q; rw [hd] at this; cases this), fun q => (by have := S.lr.live S.en a q; rw [hd] at this; cases this), base_none S.sr hd⟩
theorem cmp_core (C : Cx prog w K B D P) {N : Nat} (U : Up prog w B D P N d) (R : Room A d) {m : Nat} {x tx itx : PySem.Expr} {ifs : List PySem.Expr} {pos p0 : Pos} {me mi : MX} {mt : CT} {mifs : List MX} {v : MV} {use : Option (Value → Sem Unit)} {Q : Value → Shared → Prop}
    (hO : OkComp sc' env.scope) (t1 : trE m (relab sc' env.scope) x = some me) (t2 : trCT (relab sc' env.scope) tx = some mt) (t3 : trE m env.scope itx = some mi) (t4' : all? (trE m (relab sc' env.scope)) ifs = some mifs) (hL : OkLoc sc' mt)
    (e : evC P (ev P N d) me mt mi mifs ρ H = some (v, H')) (S : St prog w B D adr H ρ env s.heap)
    (hfin : ∀ adr' h' t acc Cc mm, Tn adr env s.heap adr' h' → St prog w B D adr' H' ρ env h' → VR D adr' h' v acc → h'.Ns Cc mm → Cc ∉ adr' → Cc ∉ own env → s.heap.get? Cc = none → compPost (model prog w) A Er use Q acc Cc (.ok .next) ⟨h', s.gens, s.drawn, t, s.os⟩) :
    wpAny (model prog w) A (comprehension (.ListComp x [⟨tx, itx, ifs, 0⟩] sc' pos) sc' env p0 (newList []) false (eval itx env) use) Q Er s := by
  refine bnd2 e fun i H1 e1 e => gd e fun hg e => bnd2 e fun racc H2 e2 e => gd e fun hz e => ?_
  rw [Bool.and_eq_true] at hg
  refine wpAny_comprehension_free rfl (set_not t3 env) (closure_ok (free_held S.en hO)) hO.1 (fun y hy q => look_mem hO.2.2.1 (by rw [← q]; exact hy)) (evI_ok C (U.x N (Nat.le_refl _)) t3 e1 R S fun adr1 h1 k1 u pts T1 S1 x1 hf => ?_)
  refine wpAny_newObj_type (wpAny_newFunctionEnv (fun p hp => (hO.2.2.2 p hp).2.1) (by intro y hy; simp at hy) (fun h3 hns hsb => ?_) hO.1)
  dsimp only at hns hsb ⊢
  generalize hH2 : h1.push { cls := .type "list", dict := none, data := .seq ([] : List Value).toArray } = h2 at hns hsb ⊢
  have hz2 : h2.objs.size = h1.objs.size + 1 := by rw [← hH2]; exact Heap.size_push ..
  have k2 : ∀ b o, h1.get? b = some o → h2.get? b = some o := fun b o e => by rw [← hH2]; exact keep_push b o e
  have hC2 : h2.get? h2.objs.size = none := none_size
  have hC1 : h1.get? h2.objs.size = none := none_back (live_of k2 _) hC2
  have k3 : ∀ b o, h2.get? b = some o → h3.get? b = some o := fun b o e => (hsb.2 b fun z => by rw [z, hC2] at e; cases e).trans (keep_push b o e)
  have kk : ∀ b o, h1.get? b = some o → h3.get? b = some o := fun b o e => k3 b o (k2 b o e)
  have S3 := S1.grown kk
  have hC0 : s.heap.get? h2.objs.size = none := none_back (T1.kp.live _) hC1
  have hL1 : h1.get? h1.objs.size = none := none_size
  have hL0 : s.heap.get? h1.objs.size = none := none_back (T1.kp.live _) hL1
  have np : ∀ {a : Addr}, h1.get? a = none → a ∉ pts := fun hd q => by have := x1.live _ q; rw [hd] at this; cases this
  obtain ⟨c1, c2, c3⟩ := St.dead (s := ⟨h1, s.gens, s.drawn, k1, s.os⟩) S1 hC1
  obtain ⟨l1, l2, _⟩ := St.dead (s := ⟨h1, s.gens, s.drawn, k1, s.os⟩) S1 hL1
  have lc : h1.objs.size ≠ h2.objs.size := by rw [hz2]; exact Nat.ne_of_lt (Nat.lt_succ_self _)
  have hpl : h3.PlainList h1.objs.size #[] := ⟨0, k3 _ _ (by rw [← hH2]; exact Heap.get?_push_size _ rfl)⟩
  have Sc : St prog w B D adr1 H1 ρ (cenv sc' h2.objs.size env) h3 := cenv_in S3 hO c2 c1 c3 hns hL hg.1
  have ho : ∀ a ∈ own (cenv sc' h2.objs.size env), a ∈ own env ∨ s.heap.get? a = none := fun a q => (cenv_own' S.en hO q).elim (fun e => .inr (e ▸ hC0)) .inl
  have hLo : h1.objs.size ∉ own (cenv sc' h2.objs.size env) := fun q => (cenv_own' S.en hO q).elim lc l2
  have fin : CpE prog w B D s adr env (cenv sc' h2.objs.size env) adr1 h3 h1.objs.size ρ racc H2 (compPost (model prog w) A Er use Q (.ref h1.objs.size) h2.objs.size) := by
    intro adr4 h4 t4 ρc ys X4 S4 hρ hp4 hv4 hL4
    have S5 : St prog w B D adr4 H2 ρ env h4 := cenv_out S3 hO c2 X4.pre X4.soft (S.en.keep (S.lr.live S.en) X4.tn.new) S4 X4.kc hρ
    have hp : adr4 <+: adr4 ++ [h1.objs.size] := List.prefix_append ..
    have S6 := S5.takes (o := .list racc) (fun _ _ e => e) hL4 l2 (.list racc _ ys hp4 (hv4.mono hp (.refl _)) (off_le S1.sr (Nat.le_refl _)))
    obtain ⟨mm, hnsC⟩ := S4.lr.ns_
    have q := Option.some.inj e
    rw [show H2.new (.list racc) = H' from congrArg Prod.snd q] at S6
    refine hfin _ h4 t4 _ h2.objs.size mm ⟨X4.tn.pre.trans hp, fun a q => ?_, X4.tn.kp⟩ S6 ?_ hnsC (fun q => ?_) c2 hC0
    · exact (List.mem_append.mp q).elim (X4.tn.new a) fun q => .inr (List.mem_singleton.mp q ▸ hL0)
    · rw [← show MV.ref H2.next = v from congrArg Prod.fst q]
      exact .ref _ _ (by rw [← S5.sr.len]; simp)
    · exact (List.mem_append.mp q).elim (S4.en.offA _ own_locals) fun q => lc (List.mem_singleton.mp q).symm
  have x3 : ItR D adr1 h3 i u pts := x1.mono (List.prefix_refl _) (.of_keep kk) fun a _ o e => kk a o e
  have I : CpI prog w B D P d me mt mifs tx u pts s adr env (cenv sc' h2.objs.size env) adr1 h3 h1.objs.size ρ racc H2 N adr1 H1 ρ h3 i [] #[] :=
    ⟨e2, ⟨T1.trans (Tn.grown kk), List.prefix_refl _, .refl _, fun _ _ _ _ e => e⟩, Sc, x3, fun a q => ⟨(hf a q).2.1, fun z => (cenv_own' S.en hO z).elim (fun e => np hC1 (e ▸ q)) (hf a q).2.2⟩, tupE_ok (trCT_ok t2) hg.2, hpl, .nil, l1, fun _ _ q => q⟩
  have go : ∀ t4, codeAny (model prog w) A (.compLoop (.ListComp x [⟨tx, itx, ifs, 0⟩] sc' pos) 0 u (.ref h1.objs.size) (cenv sc' h2.objs.size env)) (compPost (model prog w) A Er use Q (.ref h1.objs.size) h2.objs.size) ⟨h3, s.gens, s.drawn, t4, s.os⟩ := fun t4 =>
    cmp_loop C U R t1 t2 t4' hg.1 S ho (fun a q => (hf a q).1) hL0 (np hL1) hLo fin I
  exact codeAny_compStart_list (go _) (iter_self (s := ⟨h3, s.gens, s.drawn, _, s.os⟩) x3 (go _))
theorem frame_go (S : St prog w B D adr H ρ env h) {Cc : Addr} {mm : Str → Option Value} (hns : h.Ns Cc mm) (hs : Heap.SameBut Cc h h') (h1 : Cc ∉ adr) (h2 : Cc ∉ own env) (h3 : B.get? Cc = none) : St prog w B D adr H ρ env h' :=
  S.aside (l := [Cc]) (fun a q => one_of (C := Hard h) q (ns_hard hns)) (fun b o n e => (hs.2 b fun z => n (z ▸ .head _)).trans e) (fun a q => one_of (C := (· ∉ adr)) q h1) (fun a q => one_of (C := (· ∉ own env)) q h2) (fun a q => one_of (C := (B.get? · = none)) q h3)
theorem frame_tn {h₀ : Heap} {adr₀ : List Addr} (T : Tn adr₀ env h₀ adr h) {Cc : Addr} (hs : Heap.SameBut Cc h h') (h0 : h₀.get? Cc = none) : Tn adr₀ env h₀ adr h' :=
  T.aside (pts := [Cc]) (fun b o n e => (hs.2 b fun z => n (z ▸ .head _)).trans e) fun a q => one_of (C := (h₀.get? · = none)) q h0
theorem sko (C : Cx prog w K B D P) {N : Nat} (U : Up prog w B D P N d) : SKo prog w B D P (ev P N d) d := by
  intro m x t it ifs sc' pos e mi mt mifs A Er s adr H H' env ρ v Q hO t1 t2 t3 t4 hL ev R S PQ
  rw [eval_ListComp]
  refine cmp_core (use := none) C U R hO t1 t2 t3 t4 hL ev S fun adr' h' tt acc Cc mm T' S' x' hns c1 c2 c0 => ?_
  exact ⟨mm, hns, fun h'' hs => PQ adr' h'' tt acc (frame_tn T' hs c0) (frame_go S' hns hs c1 c2 (base_none S.sr c0)) (x'.mono (List.prefix_refl _) (soft1 (ns_hard hns) hs))⟩
inductive TsI (m : Nat) (sc : Scope) : PySem.Stmt → MS → Prop
  | asg {t e : PySem.Expr} {p : Pos} {mt : MT} {me : MX} (hc : isComp e = false) (h : swp t e sc = some none) (t1 : trT m sc t = some mt) (t2 : trE m sc e = some me) : TsI m sc (.Assign [t] e p) (.asg mt me)
  | asgN {t e : PySem.Expr} {p : Pos} {ns : List Str} {me : MX} (hc : isComp e = false) (h : swp t e sc = some (some ns)) (hk : swpOk sc ns = true) (t2 : trE m sc e = some me) : TsI m sc (.Assign [t] e p) (.asg (.tup ((ns.map code).map .nam)) me)
  | aug {x : Str} {q p : Pos} {op : Operator} {o : Op} {e : PySem.Expr} {me : MX} (ok : okS x) (hl : sc.names.lookup x = some .local) (t1 : trOp op = some o) (t2 : trE m sc e = some me) : TsI m sc (.AugAssign (.Name x q) op e p) (.aug (code x) o me)
  | ife {c : PySem.Expr} {a b : List PySem.Stmt} {p : Pos} {mc : MX} {ma mb : List MS} (t1 : trE m sc c = some mc) (t2 : all? (trS m sc) a = some ma) (t3 : all? (trS m sc) b = some mb) : TsI m sc (.If c a b p) (.ife mc ma mb)
  | for_ {t it : PySem.Expr} {b : List PySem.Stmt} {p : Pos} {mt : MT} {mi : MX} {mb : List MS} (t1 : trT m sc t = some mt) (t2 : trE m sc it = some mi) (t3 : all? (trS m sc) b = some mb) : TsI m sc (.For t it b [] p) (.for_ mt mi mb)
  | whl {c : PySem.Expr} {b : List PySem.Stmt} {p : Pos} {mc : MX} {mb : List MS} (t1 : trE m sc c = some mc) (t2 : all? (trS m sc) b = some mb) : TsI m sc (.While c b [] p) (.whl mc mb)
  | ret {e : Option PySem.Expr} {p : Pos} {me : Option MX} (t1 : opt? (trE m sc) e = some me) : TsI m sc (.Return e p) (.ret me)
  | exp {e : PySem.Expr} {p : Pos} {me : MX} (hc : isComp e = false) (t1 : trE m sc e = some me) : TsI m sc (.Expr e p) (.exp me)
  | rai {st : PySem.Stmt} {me : MX} : TsI m sc st (.rai me)
theorem TsI.of {m : Nat} {sc : Scope} {x : PySem.Stmt} {e e' : MS} (h : some e' = some e) (k : TsI m sc x e') : TsI m sc x e := by rw [← Option.some.inj h]; exact k
theorem trS_inv {m : Nat} {sc : Scope} {st : PySem.Stmt} {ms : MS} (tr : trS (m + 1) sc st = some ms) : TsI m sc st ms := by
  cases st with
  | Assign ts e pos =>
    rcases ts with _ | ⟨t, _ | ⟨t', ts⟩⟩
    · cases tr
    · have tr : (if isComp e = true then none else (swp t e sc).bind fun r => match r with
        | none => (trT m sc t).bind fun t => (trE m sc e).bind fun e => some (MS.asg t e)
        | some ns => if swpOk sc ns = true then (trE m sc e).bind fun e => some (.asg (.tup ((ns.map code).map .nam)) e) else none) = some ms := tr
      cases hc : isComp e with
      | true => rw [hc, if_pos rfl] at tr; cases tr
      | false =>
        rw [hc, if_neg nofun] at tr
        refine bnd tr fun sw t0 tr => ?_
        cases sw with
        | none => exact bnd tr fun mt t1 tr => bnd tr fun me t2 tr => .of tr (.asg hc t0 t1 t2)
        | some ns => exact gd tr fun hk tr => bnd tr fun me t2 tr => .of tr (.asgN hc t0 hk t2)
    · cases tr
  | AugAssign tg op e pos =>
    cases tg with
    | Name x q =>
      have tr : (if okN x = false ∨ sc.names.lookup x ≠ some .local then none else (trOp op).bind fun o => (trE m sc e).bind fun e => some (MS.aug (code x) o e)) = some ms := tr
      by_cases hN : okN x = false ∨ sc.names.lookup x ≠ some .local
      · rw [if_pos hN] at tr; cases tr
      · rw [if_neg hN] at tr
        rw [not_or, Decidable.not_not] at hN
        exact bnd tr fun o t1 tr => bnd tr fun me t2 tr => .of tr (.aug (okN_low hN.1).1 hN.2 t1 t2)
    | _ => cases tr
  | If c a b pos => exact bnd (f := fun c => (all? (trS m sc) a).bind fun a => (all? (trS m sc) b).bind fun b => some (MS.ife c a b)) tr fun mc t1 tr => bnd tr fun ma t2 tr => bnd tr fun mb t3 tr => .of tr (.ife t1 t2 t3)
  | For t it b oe pos =>
    cases oe with
    | nil => exact bnd (f := fun t => (trE m sc it).bind fun it => (all? (trS m sc) b).bind fun b => some (MS.for_ t it b)) tr fun mt t1 tr => bnd tr fun mi t2 tr => bnd tr fun mb t3 tr => .of tr (.for_ t1 t2 t3)
    | cons _ _ => cases tr
  | While c b oe pos =>
    cases oe with
    | nil => exact bnd (f := fun c => (all? (trS m sc) b).bind fun b => some (MS.whl c b)) tr fun mc t1 tr => bnd tr fun mb t2 tr => .of tr (.whl t1 t2)
    | cons _ _ => cases tr
  | Return eo pos => exact bnd (f := fun e => some (MS.ret e)) tr fun me t1 tr => .of tr (.ret t1)
  | Expr x pos =>
    have tr : (if isComp x = true then none else (trE m sc x).bind fun e => some (MS.exp e)) = some ms := tr
    cases hc : isComp x with
    | true => rw [hc, if_pos rfl] at tr; cases tr
    | false =>
      rw [hc, if_neg nofun] at tr
      exact bnd tr fun me t1 tr => .of tr (.exp hc t1)
  | Raise e c pos =>
    cases e with
    | none => cases tr
    | some e =>
      cases c with
      | none => exact bnd (f := fun e => some (MS.rai e)) tr fun me t1 tr => .of tr .rai
      | some _ => cases tr
  | _ => cases tr
theorem ss_step (C : Cx prog w K B D P) {N : Nat} (U : Up prog w B D P N d) : SS prog w B D (ev P (N + 1) d) d := by
  intro m st ms A Er s adr H H' env ρ ρ' o Q tr ev R S PQ
  have hx := U.x N (Nat.le_refl _)
  cases m with
  | zero => cases tr
  | succ m =>
  cases trS_inv tr with
  | asg hc h t1 t2 => exact s_asg C hx hc h t1 t2 ev R S PQ
  | asgN hc h hk t2 => exact s_asgN hx hc h hk t2 ev R S PQ
  | aug ok hl t1 t2 => exact s_aug hx ok hl t1 t2 ev R S PQ
  | @ife c a b p mc ma mb t1 t2 t3 =>
    have ev : (((Mn.ev P N d).t mc ρ H).bind fun u => match u.1 with | true => stmts (Mn.ev P N d) ma ρ u.2 | false => stmts (Mn.ev P N d) mb ρ u.2) = some (o, ρ', H') := ev
    refine bnd2 ev fun g H1 e1 ev => wpAny_If (U.t N (Nat.le_refl _) m _ mc A Er s adr H H1 env ρ g _ t1 e1 R S fun adr1 h1 k1 u1 T1 S1 x1 => ?_)
    rw [show u1 = g from x1]
    cases g with
    | true => exact x_stmts (U.s N (Nat.le_refl _)) (s := ⟨h1, s.gens, s.drawn, k1, s.os⟩) t2 ev R S1 (PQ.after T1 k1)
    | false => exact x_stmts (U.s N (Nat.le_refl _)) (s := ⟨h1, s.gens, s.drawn, k1, s.os⟩) t3 ev R S1 (PQ.after T1 k1)
  | for_ t1 t2 t3 => exact s_for C U t1 t2 t3 ev R S PQ
  | whl t1 t2 => exact s_while U t1 t2 ev R S PQ
  | @ret eo p me t1 =>
    cases eo with
    | none =>
      obtain rfl : me = none := (Option.some.inj t1).symm
      exact wpAny_Return_none ((PQ.ofS ev).here S ⟨_, rfl, .none⟩ s.toks)
    | some x =>
      refine bnd t1 fun a t2 t1 => ?_
      obtain rfl : me = some a := (Option.some.inj t1).symm
      exact bnd2 (f := fun u => some (Out.ret u.1, ρ, u.2)) ev fun v H1 e1 ev => wpAny_Return_some (hx m x a A Er s adr H H1 env ρ v _ t2 e1 R S fun adr1 h1 k1 u1 T1 S1 x1 => (PQ.ofS ev) adr1 h1 k1 _ T1 S1 ⟨u1, rfl, x1⟩)
  | @exp x p me hc t1 =>
    exact bnd2 (f := fun u => some (Out.nxt, ρ, u.2)) ev fun v H1 e1 ev => wpAny_Expr_any (hx m x me A Er s adr H H1 env ρ v _ t1 e1 R S fun adr1 h1 k1 u1 T1 S1 x1 => (PQ.ofS ev) adr1 h1 k1 _ T1 S1 rfl) (by unfold interactive; rw [S.en.kind]; rfl) (comp_no hc _ _ _)
  | rai => cases ev
noncomputable def dn (P : Pg) (N d : Nat) : Unit → Ev := fun _ => match d with | 0 => Ev.zero | d + 1 => ev P N d
theorem ev_succ (N d : Nat) : ev P (N + 1) d = Ev.step P (ev P N d) (dn P N d) := rfl
theorem sz {α : Type} {a : α} {C : Prop} (h : (none : Option α) = some a) : C := nomatch h
theorem sound (C : Cx prog w K B D P) : ∀ (N d : Nat), SX prog w B D (ev P N d) d ∧ ST prog w B D (ev P N d) d ∧ SC prog w B D (ev P N d) d ∧ SS prog w B D (ev P N d) d := by
  intro N
  induction N using Nat.strongRecOn with
  | ind N ih =>
    intro d
    cases N with
    | zero => exact ⟨fun _ _ _ _ _ _ _ _ _ _ _ _ _ _ ev => sz ev, fun _ _ _ _ _ _ _ _ _ _ _ _ _ _ ev => sz ev, fun _ _ _ _ _ _ _ _ _ _ _ _ _ _ ev => sz ev, fun _ _ _ _ _ _ _ _ _ _ _ _ _ _ _ ev => sz ev⟩
    | succ N =>
      have U : Up prog w B D P N d := ⟨fun n hn => (ih n (Nat.lt_succ_of_le hn) d).1, fun n hn => (ih n (Nat.lt_succ_of_le hn) d).2.1, fun n hn => (ih n (Nat.lt_succ_of_le hn) d).2.2.2⟩
      obtain ⟨h1, h2, h3, h4⟩ := ih N (Nat.lt_succ_self _) d
      have hd : Dp prog w B D (dn P N d ()) d := by
        cases d with
        | zero => exact .zero 0
        | succ d => exact .succ (ih N (Nat.lt_succ_self _) d).2.2.2
      have hss := ss_step C U
      rw [ev_succ] at hss ⊢
      exact ⟨sx_step C h1 h2 h3 (sko C U), st_step h1 h2, sc_step C hd, hss⟩
end
end Mn
end
section
namespace Mn
noncomputable def lkN {α : Type} (n : Nat) : List (Nat × α) → Option α
  | [] => none
  | (k, a) :: r => match Nat.beq k n with | true => some a | false => lkN n r
noncomputable def pg (fns : List (Nat × MF)) (glb : List (Nat × MV)) (cls : List (Nat × List Nat × List (Nat × Nat))) : Pg where
  fns n := lkN n fns
  glb n := lkN n glb
  meth c x := match lkN c cls with | some p => lkN x p.2 | none => none
  atr c x := match lkN c cls with | some p => p.1.any (Nat.beq x) | none => false
section
variable (P : Pg) (n d : Nat)
noncomputable def kv (H : MH) (v : MV) : Option (MV × MH) := some (v, H)
noncomputable def kb2 (op : Op) (u : MV) : MV × MH → Option (MV × MH) := fun v => binop op u v.1 v.2
noncomputable def kb1 (op : Op) (b : MX) (L : Loc) : MV × MH → Option (MV × MH) := fun u => ((ev P n d).x b L u.2).bind (kb2 op u.1)
noncomputable def kng2 (H : MH) : Int → Option (MV × MH) := fun i => some (.int (-i), H)
noncomputable def kng : MV × MH → Option (MV × MH) := fun u => (asInt u.1).bind (kng2 u.2)
noncomputable def knt2 (H : MH) : Bool → Option (MV × MH) := fun b => some (.bool (!b), H)
noncomputable def knt : MV × MH → Option (MV × MH) := fun u => (truth u.1 u.2).bind (knt2 u.2)
noncomputable def kc3 (H : MH) : Bool → Option (MV × MH) := fun r => some (.bool r, H)
noncomputable def kc2 (op : Co) (u : MV) : MV × MH → Option (MV × MH) := fun v => (compare op u v.1 v.2).bind (kc3 v.2)
noncomputable def kc1 (op : Co) (b : MX) (L : Loc) : MV × MH → Option (MV × MH) := fun u => ((ev P n d).x b L u.2).bind (kc2 op u.1)
noncomputable def kd2 (op' : Co) (v : MV) : MV × MH → Option (MV × MH) := fun w => (compare op' v w.1 w.2).bind (kc3 w.2)
noncomputable def kd1 (op' : Co) (v : MV) (c : MX) (L : Loc) (H : MH) : Bool → Option (MV × MH) := fun r => match r with
  | true => ((ev P n d).x c L H).bind (kd2 op' v)
  | false => some (.bool false, H)
noncomputable def kd0' (op : Co) (u : MV) (op' : Co) (c : MX) (L : Loc) : MV × MH → Option (MV × MH) := fun v => (compare op u v.1 v.2).bind (kd1 P n d op' v.1 c L v.2)
noncomputable def kd0 (op : Co) (b : MX) (op' : Co) (c : MX) (L : Loc) : MV × MH → Option (MV × MH) := fun u => ((ev P n d).x b L u.2).bind (kd0' P n d op u.1 op' c L)
noncomputable def kif (a b : MX) (L : Loc) : Bool × MH → Option (MV × MH) := fun u => match u.1 with | true => (ev P n d).x a L u.2 | false => (ev P n d).x b L u.2
noncomputable def kat (x : Nat) : MV × MH → Option (MV × MH) := fun u => (attr P u.2 u.1 x).bind (kv u.2)
noncomputable def ksb2 (u : MV) : MV × MH → Option (MV × MH) := fun v => (item v.2 u v.1).bind (kv v.2)
noncomputable def ksb (i : MX) (L : Loc) : MV × MH → Option (MV × MH) := fun u => ((ev P n d).x i L u.2).bind (ksb2 u.1)
noncomputable def ksl3 (u : MV) (lo : Option MV) : Option MV × MH → Option (MV × MH) := fun w => slice w.2 u lo w.1
noncomputable def ksl2 (u : MV) (hi : Option MX) (L : Loc) : Option MV × MH → Option (MV × MH) := fun v => (evo (ev P n d) hi L v.2).bind (ksl3 u v.1)
noncomputable def ksl (lo hi : Option MX) (L : Loc) : MV × MH → Option (MV × MH) := fun u => (evo (ev P n d) lo L u.2).bind (ksl2 P n d u.1 hi L)
noncomputable def kca2 (f : MV) : List MV × MH → Option (MV × MH) := fun v => (ev P n d).c f v.1 v.2
noncomputable def kca (as : List MX) (L : Loc) : MV × MH → Option (MV × MH) := fun u => if okFn P u.1 = true then (evs (ev P n d) as L u.2).bind (kca2 P n d u.1) else none
noncomputable def ktu : List MV × MH → Option (MV × MH) := fun v => if v.1.length ≤ lim then some (.tup v.1, v.2) else none
noncomputable def kls : List MV × MH → Option (MV × MH) := fun v => newL v.2 v.1
noncomputable def kev2 (v : MV) : List MV × MH → Option (List MV × MH) := fun b => some (v :: b.1, b.2)
noncomputable def kev (r : List MX) (L : Loc) : MV × MH → Option (List MV × MH) := fun a => (evs (ev P n d) r L a.2).bind (kev2 a.1)
noncomputable def keo : MV × MH → Option (Option MV × MH) := fun a => some (some a.1, a.2)
noncomputable def kfn (f : Nat) (k : Nat) : List MV × MH → Option (MV × MH) := fun v => (ev P n d).c (.fn f) (.ref k :: v.1) v.2
noncomputable def kmm (as : List MX) (L : Loc) (k : Nat) (H : MH) : Nat → Option (MV × MH) := fun f => if (P.fns f).isSome = true then (evs (ev P n d) as L H).bind (kfn P n d f k) else none
noncomputable def kml (k x : Nat) : List MV × MH → Option (MV × MH) := fun v => (v.2.get k).bind (kml2 k x v.1 v.2)
noncomputable def kmd (k x : Nat) : List MV × MH → Option (MV × MH) := fun v => (v.2.get k).bind (kmd2 x v.1 v.2)
noncomputable def kme2 (x : Nat) (as : List MX) (L : Loc) (H : MH) : Nat → Option (MV × MH) := fun k => (H.get k).bind (kmo P (ev P n d) x as L k H)
noncomputable def kme (x : Nat) (as : List MX) (L : Loc) : MV × MH → Option (MV × MH) := fun u => (asRef u.1).bind (kme2 P n d x as L u.2)
noncomputable def ktn : Bool × MH → Option (Bool × MH) := fun u => some (!u.1, u.2)
noncomputable def ktif (a b : MX) (L : Loc) : Bool × MH → Option (Bool × MH) := fun u => match u.1 with | true => (ev P n d).t a L u.2 | false => (ev P n d).t b L u.2
noncomputable def ktc3 (H : MH) : Bool → Option (Bool × MH) := fun r => some (r, H)
noncomputable def ktc2 (op : Co) (u : MV) : MV × MH → Option (Bool × MH) := fun v => (compare op u v.1 v.2).bind (ktc3 v.2)
noncomputable def ktc1 (op : Co) (b : MX) (L : Loc) : MV × MH → Option (Bool × MH) := fun u => ((ev P n d).x b L u.2).bind (ktc2 op u.1)
noncomputable def ktd2 (op' : Co) (v : MV) : MV × MH → Option (Bool × MH) := fun w => (compare op' v w.1 w.2).bind (ktc3 w.2)
noncomputable def ktd1 (op' : Co) (v : MV) (c : MX) (L : Loc) (H : MH) : Bool → Option (Bool × MH) := fun r => match r with
  | true => ((ev P n d).x c L H).bind (ktd2 op' v)
  | false => some (false, H)
noncomputable def ktd0' (op : Co) (u : MV) (op' : Co) (c : MX) (L : Loc) : MV × MH → Option (Bool × MH) := fun v => (compare op u v.1 v.2).bind (ktd1 P n d op' v.1 c L v.2)
noncomputable def ktd0 (op : Co) (b : MX) (op' : Co) (c : MX) (L : Loc) : MV × MH → Option (Bool × MH) := fun u => ((ev P n d).x b L u.2).bind (ktd0' P n d op u.1 op' c L)
noncomputable def kt : MV × MH → Option (Bool × MH) := fun u => (truth u.1 u.2).bind (ktc3 u.2)
noncomputable def kto (c : Bool) (r : List MX) (L : Loc) : Bool × MH → Option (Bool × MH) := fun a => if a.1 = c then tops (ev P n d) c r L a.2 else some (a.1, a.2)
noncomputable def kbo2 (c : Bool) (r : List MX) (L : Loc) (u : MV × MH) : Bool → Option (MV × MH) := fun b => if b = c then bops (ev P n d) c r L u.2 else some u
noncomputable def kbo (c : Bool) (r : List MX) (L : Loc) : MV × MH → Option (MV × MH) := fun a => (truth a.1 a.2).bind (kbo2 P n d c r L a)
noncomputable def kas2 : Loc × MH → Option (Out × Loc × MH) := fun r => some (.nxt, r.1, r.2)
noncomputable def kas (t : MT) (L : Loc) : MV × MH → Option (Out × Loc × MH) := fun u => (put P (ev P n d) t u.1 L u.2).bind kas2
noncomputable def kwh (c : MX) (b : List MS) (L : Loc) : Bool × MH → Option (Out × Loc × MH) := fun u => match u.1 with | true => (stmts (ev P n d) b L u.2).bind (kst ((ev P n d).s (.whl c b))) | false => some (.nxt, L, u.2)
noncomputable def ksi (a b : List MS) (L : Loc) : Bool × MH → Option (Out × Loc × MH) := fun u => match u.1 with | true => stmts (ev P n d) a L u.2 | false => stmts (ev P n d) b L u.2
noncomputable def kfo (t : MT) (b : List MS) (L : Loc) : It × MH → Option (Out × Loc × MH) := fun i => if tupOk t i.1 then (ev P n d).l t i.1 b L i.2 else none
noncomputable def kau (x : Nat) (op : Op) (e : MX) (L : Loc) (H : MH) : MV → Option (Out × Loc × MH) := fun a => ((ev P n d).x e L H).bind (kau2 x op a L)
noncomputable def krt (L : Loc) : MV × MH → Option (Out × Loc × MH) := fun u => some (.ret u.1, L, u.2)
noncomputable def kex (L : Loc) : MV × MH → Option (Out × Loc × MH) := fun u => some (.nxt, L, u.2)
noncomputable def klo2 (t : MT) (it : It) (b : List MS) : Loc × MH → Option (Out × Loc × MH) := fun q => (stmts (ev P n d) b q.1 q.2).bind (klo3 (ev P n d) t it b)
noncomputable def klo (t : MT) (b : List MS) (L : Loc) (H : MH) : Option (MV × It) → Option (Out × Loc × MH) := fun r => match r with
  | none => some (.nxt, L, H)
  | some (v, it') => (put P (ev P n d) t v L H).bind (klo2 P n d t it' b)
noncomputable def kpu2 (ts : List MT) (vs : List MV) : Loc × MH → Option (Loc × MH) := fun a => puts P (ev P n d) ts vs a.1 a.2
noncomputable def kpi3 (L : Loc) : MH → Option (Loc × MH) := fun H' => some (L, H')
noncomputable def kpi2 (v : MV) (L : Loc) (o : MV) : MV × MH → Option (Loc × MH) := fun j => (setItem j.2 o j.1 v).bind (kpi3 L)
noncomputable def kpi (i : MX) (v : MV) (L : Loc) : MV × MH → Option (Loc × MH) := fun o => ((ev P n d).x i L o.2).bind (kpi2 v L o.1)
noncomputable def kpa (x : Nat) (v : MV) (L : Loc) : MV × MH → Option (Loc × MH) := fun o => (setAttr P o.2 o.1 x v).bind (kpi3 L)
noncomputable def kir2 (H : MH) : It → Option (It × MH) := fun i => some (i, H)
noncomputable def kir : List MV × MH → Option (It × MH) := fun a => (rangeOf a.1).bind (kir2 a.2)
noncomputable def kei : List MV → Option It := fun vs => some (.ent 0 vs)
noncomputable def ktx : List MV → Option It := fun vs => some (.txt vs)
noncomputable def kie3 (H : MH) : MV → Option (It × MH) := fun v => (enuOf H v).bind (kir2 H)
noncomputable def kie : List MV × MH → Option (It × MH) := fun a => one a.1 (kie3 a.2)
noncomputable def kip : MV × MH → Option (It × MH) := fun a => (iterOf a.2 a.1).bind (kir2 a.2)
variable {P n d} {L : Loc} {H : MH}
theorem zct {α β : Type} (a : α) (f : α → Option β) : (some a).bind f = f a := id rfl
theorem zcv (v : MV) : (ev P (n + 1) d).x (.cst v) L H = some (v, H) := id rfl
theorem zcw (x : Nat) : (ev P (n + 1) d).x (.loc x) L H = (zf4 x L).bind (kv H) := id rfl
theorem zcx (x : Nat) : (ev P (n + 1) d).x (.glb x) L H = (P.glb x).bind (kv H) := id rfl
theorem zcy (op : Op) (a b : MX) : (ev P (n + 1) d).x (.bin op a b) L H = ((ev P n d).x a L H).bind (kb1 P n d op b L) := id rfl
theorem zcz (a : MX) : (ev P (n + 1) d).x (.neg a) L H = ((ev P n d).x a L H).bind kng := id rfl
theorem zcB (c : Bool) (es : List MX) : (ev P (n + 1) d).x (.bop c es) L H = bops (ev P n d) c es L H := id rfl
theorem zcC (a : MX) (op : Co) (b : MX) : (ev P (n + 1) d).x (.cmp a op b) L H = ((ev P n d).x a L H).bind (kc1 P n d op b L) := id rfl
theorem zbP (a : MX) (op : Co) (b : MX) (op' : Co) (c : MX) : (ev P (n + 1) d).x (.cmp2 a op b op' c) L H = ((ev P n d).x a L H).bind (kd0 P n d op b op' c L) := id rfl
theorem zcD (c a b : MX) : (ev P (n + 1) d).x (.ife c a b) L H = ((ev P n d).t c L H).bind (kif P n d a b L) := id rfl
theorem zcE (a : MX) (x : Nat) : (ev P (n + 1) d).x (.att a x) L H = ((ev P n d).x a L H).bind (kat P x) := id rfl
theorem zcF (a i : MX) : (ev P (n + 1) d).x (.sub a i) L H = ((ev P n d).x a L H).bind (ksb P n d i L) := id rfl
theorem zcG (a : MX) (lo hi : Option MX) : (ev P (n + 1) d).x (.slc a lo hi) L H = ((ev P n d).x a L H).bind (ksl P n d lo hi L) := id rfl
theorem zbQ (f : MX) (as : List MX) : (ev P (n + 1) d).x (.call f as) L H = ((ev P n d).x f L H).bind (kca P n d as L) := id rfl
theorem zcH (o : MX) (x : Nat) (as : List MX) : (ev P (n + 1) d).x (.mth o x as) L H = ((ev P n d).x o L H).bind (kme P n d x as L) := id rfl
theorem zcI (es : List MX) : (ev P (n + 1) d).x (.tup es) L H = (evs (ev P n d) es L H).bind ktu := id rfl
theorem zcJ (es : List MX) : (ev P (n + 1) d).x (.lst es) L H = (evs (ev P n d) es L H).bind kls := id rfl
theorem zcK : (ev P (n + 1) d).x .dct L H = some (.ref H.next, H.new (.dict [])) := id rfl
theorem zbR (e : MX) (t : CT) (it : MX) (ifs : List MX) : (ev P (n + 1) d).x (.cmpr e t it ifs) L H = evC P (ev P n d) e t it ifs L H := id rfl
theorem zeA : evs (ev P n d) [] L H = some ([], H) := id rfl
theorem zeB (e : MX) (r : List MX) : evs (ev P n d) (e :: r) L H = ((ev P n d).x e L H).bind (kev P n d r L) := id rfl
theorem zeC : evo (ev P n d) none L H = some (none, H) := id rfl
theorem zeD (e : MX) : evo (ev P n d) (some e) L H = ((ev P n d).x e L H).bind keo := id rfl
theorem zcL (c : Bool) (e : MX) : bops (ev P n d) c [e] L H = (ev P n d).x e L H := id rfl
theorem zcM (c : Bool) (e g : MX) (r : List MX) : bops (ev P n d) c (e :: g :: r) L H = ((ev P n d).x e L H).bind (kbo P n d c (g :: r) L) := id rfl
theorem zcP (a : MX) : (ev P (n + 1) d).t (.not a) L H = ((ev P n d).t a L H).bind ktn := id rfl
theorem zcS (a : MX) (op : Co) (b : MX) : (ev P (n + 1) d).t (.cmp a op b) L H = ((ev P n d).x a L H).bind (ktc1 P n d op b L) := id rfl
theorem zbS (a : MX) (op : Co) (b : MX) (op' : Co) (c : MX) : (ev P (n + 1) d).t (.cmp2 a op b op' c) L H = ((ev P n d).x a L H).bind (ktd0 P n d op b op' c L) := id rfl
theorem zbT (f : MX) (as : List MX) : (ev P (n + 1) d).t (.call f as) L H = ((ev P n d).x (.call f as) L H).bind kt := id rfl
theorem zcU (x : Nat) : (ev P (n + 1) d).t (.loc x) L H = ((ev P n d).x (.loc x) L H).bind kt := id rfl
theorem zcW (t : MT) (e : MX) : (ev P (n + 1) d).s (.asg t e) L H = ((ev P n d).x e L H).bind (kas P n d t L) := id rfl
theorem zcX (c : MX) (a b : List MS) : (ev P (n + 1) d).s (.ife c a b) L H = ((ev P n d).t c L H).bind (ksi P n d a b L) := id rfl
theorem zcY (t : MT) (it : MX) (b : List MS) : (ev P (n + 1) d).s (.for_ t it b) L H = (evI P (ev P n d) it L H).bind (kfo P n d t b L) := id rfl
theorem es_whl (c : MX) (b : List MS) : (ev P (n + 1) d).s (.whl c b) L H = ((ev P n d).t c L H).bind (kwh P n d c b L) := id rfl
theorem zcZ (x : Nat) (op : Op) (e : MX) : (ev P (n + 1) d).s (.aug x op e) L H = (zf4 x L).bind (kau P n d x op e L H) := id rfl
theorem zbU (e : MX) : (ev P (n + 1) d).s (.ret (some e)) L H = ((ev P n d).x e L H).bind (krt L) := id rfl
theorem zc0 (e : MX) : (ev P (n + 1) d).s (.exp e) L H = ((ev P n d).x e L H).bind (kex L) := id rfl
theorem zf0 : stmts (ev P n d) [] L H = some (.nxt, L, H) := id rfl
theorem zf1 (s : MS) (r : List MS) : stmts (ev P n d) (s :: r) L H = ((ev P n d).s s L H).bind (kst (stmts (ev P n d) r)) := id rfl
theorem zbW (k : Loc → MH → Option (Out × Loc × MH)) : kst k (.nxt, L, H) = k L H := id rfl
theorem zbX (k : Loc → MH → Option (Out × Loc × MH)) (v : MV) : kst k (.ret v, L, H) = some (.ret v, L, H) := id rfl
theorem zbZ (t : MT) (i s : Int) (k : Nat) (b : List MS) : (ev P (n + 1) d).l t (.rng i s (k + 1)) b L H = (put P (ev P n d) t (.int i) L H).bind (klo2 P n d t (.rng (i + s) s k) b) := id rfl
theorem el_it (t : MT) (it : It) (b : List MS) : (ev P (n + 1) d).l t it b L H = (it.next H).bind (klo P n d t b L H) := id rfl
theorem zeF (t : MT) (b : List MS) (v : MV) (it : It) : klo P n d t b L H (some (v, it)) = (put P (ev P n d) t v L H).bind (klo2 P n d t it b) := id rfl
theorem zeG (t : MT) (it : It) (b : List MS) : klo2 P n d t it b (L, H) = (stmts (ev P n d) b L H).bind (klo3 (ev P n d) t it b) := id rfl
theorem zc1 (t : MT) (it : It) (b : List MS) : klo3 (ev P n d) t it b (.nxt, L, H) = (ev P n d).l t it b L H := id rfl
theorem zc2 (t : MT) (it : It) (b : List MS) (v : MV) : klo3 (ev P n d) t it b (.ret v, L, H) = some (.ret v, L, H) := id rfl
theorem zb2 (x : Nat) (v : MV) : put P (ev P n d) (.nam x) v L H = some (zf5 x v L, H) := by rw [put]
theorem zb3 (ts : List MT) (vs : List MV) : put P (ev P n d) (.tup ts) (.tup vs) L H = puts P (ev P n d) ts vs L H := by rw [put]; rfl
theorem zb4 (a i : MX) (v : MV) : put P (ev P n d) (.sub a i) v L H = ((ev P n d).x a L H).bind (kpi P n d i v L) := by rw [put]; rfl
theorem zb5 (a : MX) (x : Nat) (v : MV) : put P (ev P n d) (.att a x) v L H = ((ev P n d).x a L H).bind (kpa P x v L) := by rw [put]; rfl
theorem zc3 : puts P (ev P n d) [] [] L H = some (L, H) := by rw [puts]
theorem zc4 (t : MT) (ts : List MT) (v : MV) (vs : List MV) : puts P (ev P n d) (t :: ts) (v :: vs) L H = (put P (ev P n d) t v L H).bind (kpu2 P n d ts vs) := by rw [puts]; rfl
theorem ec_fn (f : Nat) (as : List MV) : (ev P (n + 1) (d + 1)).c (.fn f) as H = callF P (ev P n d) f as H := id rfl
theorem zeH (b : BI) (as : List MV) : (ev P (n + 1) d).c (.bi b) as H = callB b as H := id rfl
theorem ec_cls (c : Nat) (as : List MV) {f : Nat} (hf : P.meth c (cd "__init__") = some f) : (ev P (n + 1) (d + 1)).c (.cls c) as H = (callF P (ev P n d) f (.ref (H.next + 1) :: as) ((H.new (.dict [])).new (.inst c H.next))).bind (kin (H.next + 1)) := by
  show (P.meth c (cd "__init__")).bind _ = _
  rw [hf]
  rfl
theorem callF_ (f : Nat) (F : MF) (as : List MV) (hf : P.fns f = some F) (hl : F.params.length = as.length) (hb : F.body.isEmpty = false) : callF P (ev P n d) f as H = (stmts (ev P n d) F.body (F.params.zip as) H).bind krF := by
  unfold callF
  rw [hf]
  show (if _ then _ else _) = _
  rw [if_pos ⟨hl, hb⟩]
theorem zeI (v : MV) : krF (.ret v, L, H) = some (v, H) := id rfl
theorem zeJ : krF (.nxt, L, H) = some (.none, H) := id rfl
theorem zbD (f : Nat) (as : List MX) (h : P.glb f = some (.bi .range)) : evI P (ev P n d) (.call (.glb f) as) L H = (evs (ev P n d) as L H).bind kir := by
  show (P.glb f).bind _ = _
  rw [h]; rfl
theorem evI_enum (f : Nat) (as : List MX) (h : P.glb f = some (.bi .enum)) : evI P (ev P n d) (.call (.glb f) as) L H = (evs (ev P n d) as L H).bind kie := by
  show (P.glb f).bind _ = _
  rw [h]
  rfl
theorem zb6 (x : Nat) : evI P (ev P n d) (.loc x) L H = ((ev P n d).x (.loc x) L H).bind kip := id rfl
theorem zca (v : MV) : evI P (ev P n d) (.cst v) L H = ((ev P n d).x (.cst v) L H).bind kip := id rfl
theorem zcc (k x : Nat) (vs vs' : List MV) : kml2 k x vs H (.list vs') = callL H k vs' x vs := id rfl
theorem zcd (x : Nat) (vs : List MV) (es : List (MV × MV)) : kmd2 x vs H (.dict es) = callD H es x vs := id rfl
theorem zce (x : Nat) (op : Op) (i j : Int) : kau2 x op (.int i) L (.int j, H) = if op = .add then some (.nxt, zf5 x (.int (i + j)) L, H) else none := id rfl
theorem zc7 {α : Type} (a : MV) (k : MV → Option α) : one [a] k = k a := id rfl
theorem zeN (k : Nat) : enuOf H (.ref k) = (H.get k).bind (kie2 k) := id rfl
theorem zeO (k : Nat) : enuOf H (.str k) = (txtOf (.str k)).bind kei := id rfl
theorem zda (k : Nat) (vs : List MV) : kie2 k (.list vs) = some (.enu 0 k) := id rfl
theorem zcf (i : Int) : asInt (.int i) = some i := id rfl
end
end Mn
end
section
set_option maxRecDepth 100000
namespace Mn
section
variable {P : Pg} {n d : Nat}
theorem zeP (op : Op) (u : MV) (v : MV × MH) : kb2 op u v = (binop op u v.1 v.2) := id rfl
theorem zeQ (op : Op) (b : MX) (L : Loc) (u : MV × MH) : kb1 P n d op b L u = (((ev P n d).x b L u.2).bind (kb2 op u.1)) := id rfl
theorem zdb (H : MH) (i : Int) : kng2 H i = (some (.int (-i), H)) := id rfl
theorem zeR (u : MV × MH) : kng  u = ((asInt u.1).bind (kng2 u.2)) := id rfl
theorem zeT (H : MH) (r : Bool) : kc3 H r = (some (.bool r, H)) := id rfl
theorem zeU (op : Co) (u : MV) (v : MV × MH) : kc2 op u v = ((compare op u v.1 v.2).bind (kc3 v.2)) := id rfl
theorem zeV (op : Co) (b : MX) (L : Loc) (u : MV × MH) : kc1 P n d op b L u = (((ev P n d).x b L u.2).bind (kc2 op u.1)) := id rfl
theorem zeW (op' : Co) (v : MV) (w : MV × MH) : kd2 op' v w = ((compare op' v w.1 w.2).bind (kc3 w.2)) := id rfl
theorem zeX (op' : Co) (v : MV) (c : MX) (L : Loc) (H : MH) (r : Bool) : kd1 P n d op' v c L H r = (match r with
  | true => ((ev P n d).x c L H).bind (kd2 op' v)
  | false => some (.bool false, H)) := id rfl
theorem zdd (op : Co) (u : MV) (op' : Co) (c : MX) (L : Loc) (v : MV × MH) : kd0' P n d op u op' c L v = ((compare op u v.1 v.2).bind (kd1 P n d op' v.1 c L v.2)) := id rfl
theorem zeY (op : Co) (b : MX) (op' : Co) (c : MX) (L : Loc) (u : MV × MH) : kd0 P n d op b op' c L u = (((ev P n d).x b L u.2).bind (kd0' P n d op u.1 op' c L)) := id rfl
theorem zeZ (a b : MX) (L : Loc) (u : Bool × MH) : kif P n d a b L u = (match u.1 with | true => (ev P n d).x a L u.2 | false => (ev P n d).x b L u.2) := id rfl
theorem ze0 (x : Nat) (u : MV × MH) : kat P x u = ((attr P u.2 u.1 x).bind (kv u.2)) := id rfl
theorem zde (u : MV) (v : MV × MH) : ksb2 u v = ((item v.2 u v.1).bind (kv v.2)) := id rfl
theorem ze1 (i : MX) (L : Loc) (u : MV × MH) : ksb P n d i L u = (((ev P n d).x i L u.2).bind (ksb2 u.1)) := id rfl
theorem zdf (u : MV) (lo : Option MV) (w : Option MV × MH) : ksl3 u lo w = (slice w.2 u lo w.1) := id rfl
theorem zdg (u : MV) (hi : Option MX) (L : Loc) (v : Option MV × MH) : ksl2 P n d u hi L v = ((evo (ev P n d) hi L v.2).bind (ksl3 u v.1)) := id rfl
theorem ze2 (lo hi : Option MX) (L : Loc) (u : MV × MH) : ksl P n d lo hi L u = ((evo (ev P n d) lo L u.2).bind (ksl2 P n d u.1 hi L)) := id rfl
theorem zdh (f : MV) (v : List MV × MH) : kca2 P n d f v = ((ev P n d).c f v.1 v.2) := id rfl
theorem ze3 (as : List MX) (L : Loc) (u : MV × MH) : kca P n d as L u = (if okFn P u.1 = true then (evs (ev P n d) as L u.2).bind (kca2 P n d u.1) else none) := id rfl
theorem ze4 (v : List MV × MH) : ktu  v = (if v.1.length ≤ lim then some (.tup v.1, v.2) else none) := id rfl
theorem ze5 (v : List MV × MH) : kls  v = (newL v.2 v.1) := id rfl
theorem zdi (v : MV) (b : List MV × MH) : kev2 v b = (some (v :: b.1, b.2)) := id rfl
theorem ze6 (r : List MX) (L : Loc) (a : MV × MH) : kev P n d r L a = ((evs (ev P n d) r L a.2).bind (kev2 a.1)) := id rfl
theorem ze7 (a : MV × MH) : keo  a = (some (some a.1, a.2)) := id rfl
theorem ze8 (f : Nat) (k : Nat) (v : List MV × MH) : kfn P n d f k v = ((ev P n d).c (.fn f) (.ref k :: v.1) v.2) := id rfl
theorem zfa (k x : Nat) (v : List MV × MH) : kml k x v = ((v.2.get k).bind (kml2 k x v.1 v.2)) := id rfl
theorem zfb (k x : Nat) (v : List MV × MH) : kmd k x v = ((v.2.get k).bind (kmd2 x v.1 v.2)) := id rfl
theorem zfc (u : Bool × MH) : ktn  u = (some (!u.1, u.2)) := id rfl
theorem zdl (H : MH) (r : Bool) : ktc3 H r = (some (r, H)) := id rfl
theorem zdm (op : Co) (u : MV) (v : MV × MH) : ktc2 op u v = ((compare op u v.1 v.2).bind (ktc3 v.2)) := id rfl
theorem zdn (op : Co) (b : MX) (L : Loc) (u : MV × MH) : ktc1 P n d op b L u = (((ev P n d).x b L u.2).bind (ktc2 op u.1)) := id rfl
theorem zdo (op' : Co) (v : MV) (w : MV × MH) : ktd2 op' v w = ((compare op' v w.1 w.2).bind (ktc3 w.2)) := id rfl
theorem zdp (op' : Co) (v : MV) (c : MX) (L : Loc) (H : MH) (r : Bool) : ktd1 P n d op' v c L H r = (match r with
  | true => ((ev P n d).x c L H).bind (ktd2 op' v)
  | false => some (false, H)) := id rfl
theorem zci (op : Co) (u : MV) (op' : Co) (c : MX) (L : Loc) (v : MV × MH) : ktd0' P n d op u op' c L v = ((compare op u v.1 v.2).bind (ktd1 P n d op' v.1 c L v.2)) := id rfl
theorem zdq (op : Co) (b : MX) (op' : Co) (c : MX) (L : Loc) (u : MV × MH) : ktd0 P n d op b op' c L u = (((ev P n d).x b L u.2).bind (ktd0' P n d op u.1 op' c L)) := id rfl
theorem zf2 (u : MV × MH) : kt  u = ((truth u.1 u.2).bind (ktc3 u.2)) := id rfl
theorem zdr (c : Bool) (r : List MX) (L : Loc) (u : MV × MH) (b : Bool) : kbo2 P n d c r L u b = (if b = c then bops (ev P n d) c r L u.2 else some u) := id rfl
theorem zfe (c : Bool) (r : List MX) (L : Loc) (a : MV × MH) : kbo P n d c r L a = ((truth a.1 a.2).bind (kbo2 P n d c r L a)) := id rfl
theorem zds (r : Loc × MH) : kas2  r = (some (.nxt, r.1, r.2)) := id rfl
theorem zff (t : MT) (L : Loc) (u : MV × MH) : kas P n d t L u = ((put P (ev P n d) t u.1 L u.2).bind kas2) := id rfl
theorem zfg (a b : List MS) (L : Loc) (u : Bool × MH) : ksi P n d a b L u = (match u.1 with | true => stmts (ev P n d) a L u.2 | false => stmts (ev P n d) b L u.2) := id rfl
theorem zfh (t : MT) (b : List MS) (L : Loc) (i : It × MH) : kfo P n d t b L i = (if tupOk t i.1 then (ev P n d).l t i.1 b L i.2 else none) := id rfl
theorem zfi (x : Nat) (op : Op) (e : MX) (L : Loc) (H : MH) (a : MV) : kau P n d x op e L H a = (((ev P n d).x e L H).bind (kau2 x op a L)) := id rfl
theorem zfj (L : Loc) (u : MV × MH) : krt L u = (some (.ret u.1, L, u.2)) := id rfl
theorem zfk (L : Loc) (u : MV × MH) : kex L u = (some (.nxt, L, u.2)) := id rfl
theorem zdt (ts : List MT) (vs : List MV) (a : Loc × MH) : kpu2 P n d ts vs a = (puts P (ev P n d) ts vs a.1 a.2) := id rfl
theorem zdu (L : Loc) (H' : MH) : kpi3 L H' = (some (L, H')) := id rfl
theorem zdv (v : MV) (L : Loc) (o : MV) (j : MV × MH) : kpi2 v L o j = ((setItem j.2 o j.1 v).bind (kpi3 L)) := id rfl
theorem zfl (i : MX) (v : MV) (L : Loc) (o : MV × MH) : kpi P n d i v L o = (((ev P n d).x i L o.2).bind (kpi2 v L o.1)) := id rfl
theorem zfm (x : Nat) (v : MV) (L : Loc) (o : MV × MH) : kpa P x v L o = ((setAttr P o.2 o.1 x v).bind (kpi3 L)) := id rfl
theorem zdw (H : MH) (i : It) : kir2 H i = (some (i, H)) := id rfl
theorem zfn (a : List MV × MH) : kir  a = ((rangeOf a.1).bind (kir2 a.2)) := id rfl
theorem zdx (H : MH) (v : MV) : kie3 H v = ((enuOf H v).bind (kir2 H)) := id rfl
theorem zfq (a : List MV × MH) : kie  a = (one a.1 (kie3 a.2)) := id rfl
theorem zfr (a : MV × MH) : kip  a = ((iterOf a.2 a.1).bind (kir2 a.2)) := id rfl
end
theorem zf3 (H : MH) (v : MV) : kv H v = some (v, H) := rfl
theorem zbO (k : Nat) : Int.natAbs (no_index (OfNat.ofNat k)) = k := rfl
end Mn
end
section
set_option maxRecDepth 100000
namespace Mn
theorem bq (a b : Nat) : Nat.beq a b = (a == b) := by rw [Bool.eq_iff_iff, beq_iff_eq, Nat.beq_eq]
section
variable (H : MH)
theorem zdz (vs : List MV) (i : Int) : item H (.tup vs) (.int i) = idx vs i := id rfl
theorem zcn (k : Nat) (i : Int) : item H (.ref k) (.int i) = (H.get k).bind (kit (.int i)) := id rfl
theorem zco (k i : Nat) : item H (.ref k) (.str i) = (H.get k).bind (kit (.str i)) := id rfl
theorem zfs (i : Int) (vs : List MV) : kit (.int i) (.list vs) = idx vs i := id rfl
noncomputable def ktc (i : MV) (vs : List MV) : Option MV := (asInt i).bind (idx vs)
theorem zft (i : Int) (vs : List MV) : ktc (.int i) vs = idx vs i := id rfl
theorem zdA (k : Nat) (i : MV) : item H (.str k) i = (txtOf (.str k)).bind (ktc i) := id rfl
theorem zdB (i : Int) (es : List (MV × MV)) : kit (.int i) (.dict es) = if okKey (.int i) es = true then dGet (.int i) es else none := id rfl
theorem zdC (i : Nat) (es : List (MV × MV)) : kit (.str i) (.dict es) = if okKey (.str i) es = true then dGet (.str i) es else none := id rfl
theorem zfv (k : Nat) : listAt H (.ref k) = (H.get k).bind kla := id rfl
theorem zfw (vs : List MV) : kla (.list vs) = some vs := id rfl
theorem zfx (vs : List MV) : kla (.frz vs) = some vs := id rfl
theorem zfy (k : Nat) (lo hi : Option MV) : slice H (.ref k) lo hi = (listAt H (.ref k)).bind (ksx H lo hi) := id rfl
theorem zfz (lo hi : Option MV) (vs : List MV) : ksx H lo hi vs = if vs.length ≤ 1048576 then (cut vs lo hi).bind (newL H) else none := id rfl
theorem zdD (vs : List MV) (j : Int) : cut vs none (some (.int j)) = if 0 ≤ j then some (vs.take j.toNat) else none := id rfl
theorem zdF (vs : List MV) : newL H vs = if vs.length ≤ 1048576 then some (.ref H.next, H.new (.list vs)) else none := id rfl
theorem zdG (k : Nat) (i : Int) (v : MV) : setItem H (.ref k) (.int i) v = (H.get k).bind (kse H k (.int i) v) := id rfl
theorem zdH (k i : Nat) (v : MV) : setItem H (.ref k) (.str i) v = (H.get k).bind (kse H k (.str i) v) := id rfl
theorem zfA (k : Nat) (i : Int) (v : MV) (vs : List MV) : kse H k (.int i) v (.list vs) = if 0 ≤ i ∧ i < 1073741824 ∧ i.toNat < vs.length then some (H.upd k (.list (vs.set i.toNat v))) else none := id rfl
theorem zdI (k : Nat) (i : Int) (v : MV) (es : List (MV × MV)) : kse H k (.int i) v (.dict es) = if okKey (.int i) es = true ∧ es.length < 1048576 then some (H.upd k (.dict (dPut (.int i) v es))) else none := id rfl
theorem zdJ (k i : Nat) (v : MV) (es : List (MV × MV)) : kse H k (.str i) v (.dict es) = if okKey (.str i) es = true ∧ es.length < 1048576 then some (H.upd k (.dict (dPut (.str i) v es))) else none := id rfl
theorem zdL (i : Nat) (vs : List MV) : contains H (.str i) (.tup vs) = anyEq (.str i) vs := id rfl
theorem zdM (i : Int) (k : Nat) : contains H (.int i) (.ref k) = (H.get k).bind (kco (.int i)) := id rfl
theorem zfB (x : MV) (es : List (MV × MV)) : kco x (.dict es) = if okKey x es = true then some (dGet x es).isSome else none := id rfl
noncomputable def kany2 (b : Bool) : Bool → Option Bool := fun c => some (b || c)
noncomputable def kany (x : MV) (r : List MV) : Bool → Option Bool := fun b => (anyEq x r).bind (kany2 b)
theorem zfC (x : MV) : anyEq x [] = some false := id rfl
theorem zfD (x y : MV) (r : List MV) : anyEq x (y :: r) = (feq 6 y x).bind (kany x r) := id rfl
theorem zdO (x : MV) (r : List MV) (b : Bool) : kany x r b = (anyEq x r).bind (kany2 b) := id rfl
theorem zcp (b c : Bool) : kany2 b c = some (b || c) := id rfl
theorem zfE (b : Bool) : truth (.bool b) H = some b := id rfl
noncomputable def kneg : Bool → Option Bool := fun x => some (!x)
theorem zdP (b : Bool) : kneg b = some (!b) := id rfl
theorem zdQ (a b : MV) : compare .eq a b H = meq H a b := id rfl
theorem zdR (a b : MV) : compare .ne a b H = (meq H a b).bind kneg := id rfl
theorem zdS (a b : Int) : compare .lt (.int a) (.int b) H = some (decide (a < b)) := id rfl
theorem zdT (a b : Int) : compare .le (.int a) (.int b) H = some (decide (a ≤ b)) := id rfl
theorem zdV (a b : Int) : compare .ge (.int a) (.int b) H = some (decide (a ≥ b)) := id rfl
theorem zdW (a b : MV) : compare .inn a b H = contains H a b := id rfl
theorem zcq (a b : MV) : compare .nin a b H = (contains H a b).bind kneg := id rfl
theorem zbJ : compare .is .none .none H = some true := id rfl
theorem zbK (i : Int) : compare .is (.int i) .none H = some false := id rfl
theorem zdX (a b : Int) : meq H (.int a) (.int b) = some (decide (a = b)) := id rfl
theorem zdY (a b : Nat) : meq H (.str a) (.str b) = some (a == b) := congrArg some (bq a b)
theorem zfF (u v : List MV) : kl2 u (.list v) = if u.length = v.length then feqL (feq 6) u v else some false := id rfl
theorem zd2 (n a b : Nat) : feq (n + 1) (.str a) (.str b) = some (a == b) := congrArg some (bq a b)
noncomputable def kfl2 (x : Bool) : Bool → Option Bool := fun y => some (x && y)
noncomputable def kfl (f : MV → MV → Option Bool) (l r : List MV) : Bool → Option Bool := fun x => (feqL f l r).bind (kfl2 x)
theorem zfG (f : MV → MV → Option Bool) : feqL f [] [] = some true := id rfl
theorem zfJ (f : MV → MV → Option Bool) (a b : MV) (l r : List MV) : feqL f (a :: l) (b :: r) = (f a b).bind (kfl f l r) := id rfl
theorem zfK (f : MV → MV → Option Bool) (l r : List MV) (x : Bool) : kfl f l r x = (feqL f l r).bind (kfl2 x) := id rfl
theorem zd5 (x y : Bool) : kfl2 x y = some (x && y) := id rfl
theorem zd6 (a b : Nat) : meq H (.ref a) (.ref b) = if a = b then none else (H.get a).bind (kl1 H b) := id rfl
theorem zd7 (a b : List MV) : meq H (.tup a) (.tup b) = feqL (leq H) a b := id rfl
theorem zd8 (a b : Nat) : leq H (.ref a) (.ref b) = if a = b then none else (H.get a).bind (kl1 H b) := id rfl
theorem zd9 (a b : Int) : leq H (.int a) (.int b) = some (decide (a = b)) := id rfl
theorem zfL (b : Nat) (u : List MV) : kl1 H b (.frz u) = (H.get b).bind (kl2 u) := id rfl
theorem zfM (b : Nat) (u : List MV) : kl1 H b (.list u) = (H.get b).bind (kl2 u) := id rfl
theorem zfN (k : Nat) : callB .len [.ref k] H = (H.get k).bind (kle H) := id rfl
theorem zfO (vs : List MV) : kle H (.list vs) = if vs.length ≤ 1048576 then some (.int vs.length, H) else none := id rfl
theorem zfP (i : Int) : callB .abs [.int i] H = some (.int i.natAbs, H) := id rfl
theorem zeb (i : Int) : callB .isinst [.int i, .bi .tstr] H = some (.bool false, H) := id rfl
theorem zec (i : Int) : callB .isinst [.int i, .bi .ttup] H = some (.bool false, H) := id rfl
theorem zfQ (n : Nat) : callB .list [.str n] H = (txtOf (.str n)).bind (newL H) := id rfl
theorem zed (r : Int) : kint H r = some (.int r, H) := id rfl
theorem zee (op : Op) (i j : Int) : binop op (.int i) (.int j) H = (intOp op i j).bind (kint H) := id rfl
theorem zef (i j : Int) : intOp .add i j = some (i + j) := id rfl
theorem zeg (i j : Int) : intOp .sub i j = some (i - j) := id rfl
theorem zeh (i j : Int) : intOp .mul i j = if i.natAbs < 1073741824 ∧ j.natAbs < 1073741824 then some (i * j) else none := id rfl
theorem zcr (i j : Int) : intOp .fdiv i j = if j = 0 ∨ j.natAbs ≥ 1073741824 then none else some (Int.fdiv i j) := id rfl
theorem zei (i j : Int) : intOp .mod i j = if j = 0 then none else some (Int.fmod i j) := id rfl
theorem zej (i j : Int) : intOp .shl i j = if 0 ≤ j ∧ j < 64 ∧ i.natAbs < 1152921504606846976 then some (i * 2 ^ j.toNat) else none := id rfl
theorem zem (i j : Nat) : binop .add (.ref i) (.ref j) H = (listAt H (.ref i)).bind (kad H j) := id rfl
theorem zfR (j : Nat) (u : List MV) : kad H j u = (listAt H (.ref j)).bind (kad2 H u) := id rfl
theorem zen (u v : List MV) : kad2 H u v = newL H (u ++ v) := id rfl
theorem zfS (k : Nat) : iterOf H (.ref k) = (listAt H (.ref k)).bind (kio k) := id rfl
theorem zfT (k : Nat) (vs : List MV) : kio k vs = some (.lst k 0) := id rfl
theorem zfV (b : Int) : rangeOf [.int b] = if near b = true then some (.rng 0 1 b.toNat) else none := id rfl
theorem zfX (k : Nat) : iterOf H (.str k) = (txtOf (.str k)).bind ktx := id rfl
theorem zfY (a b c : Int) : rangeOf [.int a, .int b, .int c] = if (near a && near b && decide (c = -1)) = true then some (.rng a (-1) (a - b).toNat) else none := id rfl
theorem zeo (i : Int) : near i = decide (i.natAbs < 1073741824) := id rfl
theorem zep (P : Pg) (f : Nat) : okFn P (.fn f) = (P.fns f).isSome := id rfl
theorem zer (P : Pg) (b : BI) : okFn P (.bi b) = true := id rfl
theorem zfZ (k : Nat) (vs : List MV) (v : MV) : callL H k vs 388610526637668 [v] = if vs.length < 1048576 then some (.none, H.upd k (.list (vs ++ [v]))) else none := by
  have h : (388610526637668 : Nat) = cd "append" := by decide +kernel
  unfold callL
  rw [if_pos h]
  rfl
noncomputable def kpo (H : MH) (k i : Nat) (vs : List MV) (v : MV) : Option (MV × MH) := some (v, H.upd k (.list (vs.eraseIdx i)))
theorem zes (k : Nat) (vs : List MV) (i : Int) : callL H k vs 24145776 [.int i] = if 0 ≤ i ∧ i < 1048576 ∧ vs.length < 1048576 then (vs[i.toNat]?).bind (kpo H k i.toNat vs) else none := by
  have h : ¬ ((24145776 : Nat) = cd "append") := by decide +kernel
  have h1 : ¬ ((24145776 : Nat) = cd "pop" ∧ [MV.int i] = []) := fun q => nomatch q.2
  have h2 : (24145776 : Nat) = cd "pop" := by decide +kernel
  unfold callL
  rw [if_neg h, if_neg h1, if_pos h2]
  rfl
theorem zeu (es : List (MV × MV)) (v d : MV) : callD H es 23553396 [v, d] = if okKey v es = true then some ((dGet v es).getD d, H) else none := by
  have h : (23553396 : Nat) = cd "get" := by decide +kernel
  unfold callD
  rw [if_pos h]
theorem zew (x : Nat) (i s : Int) (k : Nat) : tupOk (.nam x) (.rng i s k) = true := id rfl
theorem zex (x k i : Nat) : tupOk (.nam x) (.lst k i) = true := id rfl
end
end Mn
end
section
namespace Mn
set_option maxRecDepth 100000
noncomputable def zez : MF := { params := [402925602104690, 5946045555], body := [MS.ret (some (MX.cmp2 (MX.neg (MX.bin (Op.shl) (MX.cst (MV.int 1)) (MX.bin (Op.sub) (MX.loc 5946045555) (MX.cst (MV.int 1))))) (Co.le) (MX.loc 402925602104690) (Co.lt) (MX.bin (Op.shl) (MX.cst (MV.int 1)) (MX.bin (Op.sub) (MX.loc 5946045555) (MX.cst (MV.int 1))))))] }
noncomputable def zbr : MF := { params := [1607952266597, 5946045555], body := [MS.ife (MX.call (MX.glb 1706903273020983629210469) [MX.loc 1607952266597, MX.glb 24343666]) [MS.rai (MX.call (MX.glb 1522399657946512425643890) [MX.cst (MV.str 87117)])] [], MS.asg (MT.nam 402925602104690) (MX.ife (MX.call (MX.glb 1706903273020983629210469) [MX.loc 1607952266597, MX.glb 1599698136165]) (MX.call (MX.glb 1772813921363478991692146) [MX.loc 1607952266597]) (MX.loc 1607952266597)), MS.ife (MX.not (MX.call (MX.glb 6013154419) [MX.loc 402925602104690, MX.loc 5946045555])) [MS.rai (MX.call (MX.glb 1522399657946512425643890) [MX.cst (MV.str 85846)])] [], MS.ret (some (MX.loc 402925602104690))] }
noncomputable def zam : MF := { params := [6230994022, 6130987892], body := [MS.asg (MT.att (MX.loc 6230994022) 6180924517) (MX.lst []), MS.asg (MT.att (MX.loc 6230994022) 6130987892) (MX.loc 6130987892), MS.asg (MT.att (MX.loc 6230994022) 6610953639064984576372) (MX.neg (MX.cst (MV.int 1)))] }
noncomputable def zbs : MF := { params := [100046136923025260, 1535156449913], body := [MS.ife (MX.cmp (MX.call (MX.glb 23881070) [MX.att (MX.loc 100046136923025260) 6180924517]) (Co.ge) (MX.att (MX.loc 100046136923025260) 6130987892)) [MS.rai (MX.call (MX.glb 1522399657946512425643890) [MX.cst (MV.str 85837)])] [], MS.exp (MX.mth (MX.att (MX.loc 100046136923025260) 6180924517) 388610526637668 [MX.loc 1535156449913])] }
noncomputable def zbt : MF := { params := [6180924517], body := [MS.for_ (MT.nam 90484) (MX.call (MX.glb 1590772524901) [MX.call (MX.glb 23881070) [MX.loc 6180924517], MX.cst (MV.int 0), MX.neg (MX.cst (MV.int 1))]) [MS.ife (MX.cmp (MX.sub (MX.sub (MX.loc 6180924517) (MX.bin (Op.sub) (MX.loc 90484) (MX.cst (MV.int 1)))) (MX.cst (MV.int 0))) (Co.eq) (MX.cst (MV.str 1405785167170))) [MS.ret (some (MX.loc 90484))] []], MS.ret (some (MX.cst (MV.int 0)))] }
noncomputable def zbM : MF := { params := [100046136923025260, 6130069113], body := [MS.asg (MT.att (MX.loc 100046136923025260) 6180924517) (MX.slc (MX.att (MX.loc 100046136923025260) 6180924517) none (some (MX.loc 6130069113)))] }
noncomputable def zcs : MF := { params := [100046136923025260, 1582366286693], body := [MS.exp (MX.call (MX.glb 26550255131573645166) [MX.loc 100046136923025260, MX.tup [MX.cst (MV.str 1405785167170), MX.loc 1582366286693]])] }
noncomputable def zaT : MF := { params := [100046136923025260], body := [MS.asg (MT.nam 6130069113) (MX.call (MX.glb 25827140487513861990) [MX.att (MX.loc 100046136923025260) 6180924517]), MS.ife (MX.cmp (MX.loc 6130069113) (Co.eq) (MX.cst (MV.int 0))) [MS.rai (MX.call (MX.glb 1522399657946512425643890) [MX.cst (MV.str 86599)])] [], MS.asg (MT.nam 1582366286693) (MX.sub (MX.sub (MX.att (MX.loc 100046136923025260) 6180924517) (MX.bin (Op.sub) (MX.loc 6130069113) (MX.cst (MV.int 1)))) (MX.cst (MV.int 1))), MS.exp (MX.call (MX.glb 390831091446895) [MX.loc 100046136923025260, MX.bin (Op.sub) (MX.loc 6130069113) (MX.cst (MV.int 1))]), MS.ret (some (MX.loc 1582366286693))] }
noncomputable def zbN : MF := { params := [402925602104690, 6130069113], body := [MS.ife (MX.not (MX.cmp2 (MX.cst (MV.int 0)) (Co.le) (MX.loc 402925602104690) (Co.le) (MX.glb 402946902043240485290657106))) [MS.rai (MX.call (MX.glb 1522399657946512425643890) [MX.cst (MV.str 83523)])] [], MS.ret (some (MX.ife (MX.cmp2 (MX.cst (MV.int 1)) (Co.le) (MX.loc 402925602104690) (Co.le) (MX.loc 6130069113)) (MX.bin (Op.sub) (MX.loc 402925602104690) (MX.cst (MV.int 1))) (MX.cst (MV.none))))] }
noncomputable def zaG : MF := { params := [6230994022], body := [MS.asg (MT.att (MX.loc 6230994022) 6214874995) (MX.lst []), MS.asg (MT.att (MX.loc 6230994022) 405085769393523) (MX.dct), MS.asg (MT.att (MX.loc 6230994022) 5979075681) (MX.lst []), MS.asg (MT.att (MX.loc 6230994022) 1582182265459) (MX.dct), MS.asg (MT.att (MX.loc 6230994022) 1565237670003) (MX.dct), MS.asg (MT.att (MX.loc 6230994022) 23490163) (MX.dct)] }
noncomputable def za7 : MF := { params := [6013346164, 6113816165, 6852128163306360106612], body := [MS.exp (MX.mth (MX.att (MX.loc 6013346164) 6214874995) 388610526637668 [MX.tup [MX.loc 6113816165, MX.loc 6852128163306360106612]]), MS.ret (some (MX.bin (Op.sub) (MX.call (MX.glb 23881070) [MX.att (MX.loc 6013346164) 6214874995]) (MX.cst (MV.int 1))))] }
noncomputable def F_put_all : MF := { params := [6013346164, 6113816165, 1754144809806428187292787], body := [MS.for_ (MT.nam 6852128163306360106612) (MX.loc 1754144809806428187292787) [MS.ife (MX.cmp (MX.sub (MX.loc 6852128163306360106612) (MX.cst (MV.int 0))) (Co.eq) (MX.cst (MV.str 84294))) [MS.exp (MX.call (MX.glb 405124742605158) [MX.loc 6013346164, MX.loc 6113816165, MX.loc 6852128163306360106612])] [MS.exp (MX.call (MX.glb 1739997520299507713011558) [MX.loc 6013346164, MX.loc 6113816165, MX.loc 6852128163306360106612])]]] }
noncomputable def F_gather : MF := { params := [6013346164], body := [MS.asg (MT.tup [MT.nam 412765305726323, MT.nam 6013547123, MT.nam 1547889108083]) (MX.tup [MX.lst [], MX.lst [], MX.lst []]), MS.for_ (MT.tup [MT.nam 90484, MT.nam 6180399474]) (MX.call (MX.glb 6593447022513235260517) [MX.att (MX.loc 6013346164) 6214874995]) [MS.asg (MT.tup [MT.nam 6113816165, MT.nam 6852128163306360106612]) (MX.loc 6180399474), MS.asg (MT.nam 6298759780) (MX.sub (MX.loc 6852128163306360106612) (MX.cst (MV.int 0))), MS.ife (MX.cmp (MX.loc 6298759780) (Co.eq) (MX.cst (MV.str 5440099393))) [MS.for_ (MT.nam 6247774324) (MX.sub (MX.loc 6852128163306360106612) (MX.cst (MV.int 1))) [MS.exp (MX.mth (MX.att (MX.loc 6013346164) 5979075681) 388610526637668 [MX.tup [MX.loc 6113816165, MX.loc 6247774324]])]] [MS.ife (MX.cmp (MX.loc 6298759780) (Co.eq) (MX.cst (MV.str 1474386545733))) [MS.exp (MX.mth (MX.loc 412765305726323) 388610526637668 [MX.loc 90484])] [MS.ife (MX.cmp (MX.loc 6298759780) (Co.eq) (MX.cst (MV.str 5759127108))) [MS.exp (MX.call (MX.glb 6685749423849843160947) [MX.loc 6013346164, MX.loc 412765305726323, MX.loc 90484])] [MS.ife (MX.cmp (MX.loc 6298759780) (Co.eq) (MX.cst (MV.str 23366159535143011667))) [MS.exp (MX.mth (MX.loc 1547889108083) 388610526637668 [MX.loc 90484]), MS.ife (MX.cmp (MX.sub (MX.loc 6852128163306360106612) (MX.cst (MV.int 1))) (Co.nin) (MX.att (MX.loc 6013346164) 23490163)) [MS.asg (MT.sub (MX.att (MX.loc 6013346164) 23490163) (MX.sub (MX.loc 6852128163306360106612) (MX.cst (MV.int 1)))) (MX.loc 90484)] []] [MS.ife (MX.cmp (MX.loc 6298759780) (Co.eq) (MX.cst (MV.str 1401472503364))) [MS.exp (MX.call (MX.glb 6685749423849843160947) [MX.loc 6013346164, MX.loc 1547889108083, MX.loc 90484])] [MS.ife (MX.cmp (MX.loc 6298759780) (Co.eq) (MX.cst (MV.str 21385042))) [MS.exp (MX.mth (MX.loc 6013547123) 388610526637668 [MX.loc 90484])] [MS.ife (MX.cmp (MX.loc 6298759780) (Co.eq) (MX.cst (MV.str 5608134740))) [MS.exp (MX.call (MX.glb 6593442222075483746419) [MX.loc 6013346164, MX.loc 6013547123, MX.loc 90484, MX.call (MX.glb 23945592) [MX.cst (MV.int 1), MX.call (MX.glb 23881070) [MX.sub (MX.loc 6852128163306360106612) (MX.cst (MV.int 1))]]])] []]]]]]]]] }
noncomputable def F_flatten : MF := { params := [405038811014500], body := [MS.asg (MT.nam 6013346164) (MX.call (MX.glb 5476475252) []), MS.for_ (MT.tup [MT.nam 6113816165, MT.nam 1754144809806428187292787]) (MX.loc 405038811014500) [MS.asg (MT.sub (MX.att (MX.loc 6013346164) 405085769393523) (MX.loc 6113816165)) (MX.call (MX.glb 23881070) [MX.att (MX.loc 6013346164) 6214874995]), MS.exp (MX.call (MX.glb 103711934106397804) [MX.loc 6013346164, MX.loc 6113816165, MX.loc 1754144809806428187292787]), MS.ife (MX.cmp (MX.sub (MX.att (MX.loc 6013346164) 405085769393523) (MX.loc 6113816165)) (Co.eq) (MX.call (MX.glb 23881070) [MX.att (MX.loc 6013346164) 6214874995])) [MS.exp (MX.call (MX.glb 1739997520299507713011558) [MX.loc 6013346164, MX.loc 6113816165, MX.tup [MX.cst (MV.str 22168909), MX.cst (MV.str 1)]])] []], MS.exp (MX.call (MX.glb 395143239198066) [MX.loc 6013346164]), MS.ret (some (MX.loc 6013346164))] }
noncomputable def zbu : MF := { params := [6013346164, 6113816165], body := [MS.ife (MX.cmp (MX.loc 6113816165) (Co.nin) (MX.att (MX.loc 6013346164) 405085769393523)) [MS.rai (MX.call (MX.glb 1522399657946512425643890) [MX.cst (MV.str 87372), MX.loc 6113816165])] [], MS.ret (some (MX.sub (MX.att (MX.loc 6013346164) 405085769393523) (MX.loc 6113816165)))] }
noncomputable def zbB : MF := { params := [24278382, 90484, 6852128163306360106612], body := [MS.ret (some (MX.ife (MX.cmp (MX.sub (MX.loc 6852128163306360106612) (MX.cst (MV.int 0))) (Co.inn) (MX.glb 1418770337875)) (MX.call (MX.glb 100327547307650416) [MX.loc 24278382, MX.loc 90484, MX.loc 6852128163306360106612]) (MX.call (MX.glb 100327547340812144) [MX.loc 24278382, MX.loc 90484, MX.loc 6852128163306360106612])))] }
noncomputable def zbC : MF := { params := [24278382, 90484, 6852128163306360106612], body := [MS.asg (MT.nam 6298759780) (MX.sub (MX.loc 6852128163306360106612) (MX.cst (MV.int 0))), MS.ife (MX.cmp (MX.loc 6298759780) (Co.eq) (MX.cst (MV.str 1414223777620))) [MS.ret (some (MX.ife (MX.call (MX.glb 101739320405292389) [MX.mth (MX.loc 24278382) 1612482507880 [MX.sub (MX.loc 6852128163306360106612) (MX.cst (MV.int 1))]]) (MX.bin (Op.add) (MX.loc 90484) (MX.cst (MV.int 1))) (MX.sub (MX.loc 6852128163306360106612) (MX.cst (MV.int 2)))))] [], MS.ife (MX.cmp (MX.loc 6298759780) (Co.eq) (MX.cst (MV.str 5542071632))) [MS.ret (some (MX.sub (MX.loc 6852128163306360106612) (MX.cst (MV.int 1))))] [], MS.ife (MX.cmp (MX.loc 6298759780) (Co.eq) (MX.cst (MV.str 371932697809486))) [MS.asg (MT.nam 1582366286693) (MX.call (MX.glb 114632105102705455381897896805) [MX.att (MX.loc 24278382) 100046136923025260]), MS.ret (some (MX.ife (MX.cmp (MX.sub (MX.loc 6852128163306360106612) (MX.cst (MV.int 1))) (Co.is) (MX.cst (MV.none))) (MX.loc 1582366286693) (MX.call (MX.glb 26547700982972641126) [MX.att (MX.loc 24278382) 6013346164, MX.sub (MX.loc 6852128163306360106612) (MX.cst (MV.int 1))])))] [], MS.asg (MT.nam 6113816165) (MX.sub (MX.loc 6852128163306360106612) (MX.cst (MV.int 1))), MS.ife (MX.cmp (MX.loc 6298759780) (Co.eq) (MX.cst (MV.str 5625497423))) [MS.asg (MT.nam 1612364473192) (MX.call (MX.glb 390775174292846) [MX.mth (MX.loc 24278382) 1612364868709 [MX.sub (MX.loc 6852128163306360106612) (MX.cst (MV.int 2))], MX.call (MX.glb 23881070) [MX.sub (MX.loc 6852128163306360106612) (MX.cst (MV.int 3))]]), MS.ife (MX.cmp (MX.loc 1612364473192) (Co.is) (MX.cst (MV.none))) [MS.ret (some (MX.bin (Op.add) (MX.loc 90484) (MX.cst (MV.int 1))))] [], MS.asg (MT.tup [MT.nam 6298759780, MT.nam 6113816165]) (MX.tup [MX.sub (MX.loc 6852128163306360106612) (MX.cst (MV.int 1)), MX.sub (MX.sub (MX.loc 6852128163306360106612) (MX.cst (MV.int 3))) (MX.loc 1612364473192)])] [], MS.asg (MT.nam 6030319980) (MX.call (MX.glb 26547700982972641126) [MX.att (MX.loc 24278382) 6013346164, MX.loc 6113816165]), MS.ife (MX.cmp (MX.loc 6298759780) (Co.eq) (MX.cst (MV.str 1405785167170))) [MS.exp (MX.call (MX.glb 1543763096930) [MX.att (MX.loc 24278382) 100046136923025260, MX.bin (Op.add) (MX.loc 90484) (MX.cst (MV.int 1))])] [], MS.ret (some (MX.loc 6030319980))] }
noncomputable def zan : MF := { params := [6230994022, 6013346164, 411635780248947, 27052967330930716518, 5946045555, 391878846018675], body := [MS.asg (MT.att (MX.loc 6230994022) 6013346164) (MX.loc 6013346164), MS.asg (MT.att (MX.loc 6230994022) 411635780248947) (MX.loc 411635780248947), MS.asg (MT.att (MX.loc 6230994022) 27052967330930716518) (MX.loc 27052967330930716518), MS.asg (MT.att (MX.loc 6230994022) 5946045555) (MX.loc 5946045555), MS.asg (MT.att (MX.loc 6230994022) 391878846018675) (MX.loc 391878846018675), MS.asg (MT.att (MX.loc 6230994022) 100046136923025260) (MX.call (MX.glb 91038937668284268) [MX.cst (MV.int 20)]), MS.asg (MT.att (MX.loc 6230994022) 1573827929459) (MX.lst [])] }
noncomputable def zaH : MF := { params := [6230994022, 6248621413], body := [MS.asg (MT.nam 434502401747038096038458472) (MX.att (MX.loc 6230994022) 27052967330930716518), MS.ret (some (MX.call (MX.loc 434502401747038096038458472) [MX.loc 6248621413, MX.att (MX.loc 6230994022) 411635780248947]))] }
noncomputable def zaI : MF := { params := [6230994022, 6248621413], body := [MS.ret (some (MX.call (MX.glb 27050993673148788582) [MX.mth (MX.loc 6230994022) 1612482507880 [MX.loc 6248621413], MX.att (MX.loc 6230994022) 5946045555]))] }
noncomputable def zad : MF := { params := [6230994022, 6146846053], body := [MS.ret (some (MX.mth (MX.att (MX.loc 6230994022) 411635780248947) 23553396 [MX.loc 6146846053, MX.cst (MV.int 0)]))] }
noncomputable def zaJ : MF := { params := [6230994022, 6146846053, 1607952266597], body := [MS.asg (MT.sub (MX.att (MX.loc 6230994022) 411635780248947) (MX.loc 6146846053)) (MX.loc 1607952266597)] }
noncomputable def F_FlowRun_go : MF := { params := [6230994022, 90484, 6130987892], body := [MS.for_ (MT.nam 6248821358) (MX.call (MX.glb 1590772524901) [MX.loc 6130987892]) [MS.ife (MX.cmp (MX.loc 90484) (Co.ge) (MX.call (MX.glb 23881070) [MX.att (MX.att (MX.loc 6230994022) 6013346164) 6214874995])) [MS.ret (some (MX.loc 90484))] [], MS.asg (MT.nam 6852128163306360106612) (MX.sub (MX.sub (MX.att (MX.att (MX.loc 6230994022) 6013346164) 6214874995) (MX.loc 90484)) (MX.cst (MV.int 1))), MS.ife (MX.cmp (MX.sub (MX.loc 6852128163306360106612) (MX.cst (MV.int 0))) (Co.eq) (MX.cst (MV.str 21775700))) [MS.exp (MX.mth (MX.loc 6230994022) 1595386327653 [MX.sub (MX.sub (MX.loc 6852128163306360106612) (MX.cst (MV.int 1))) (MX.cst (MV.int 1)), MX.mth (MX.loc 6230994022) 1612482507880 [MX.sub (MX.loc 6852128163306360106612) (MX.cst (MV.int 2))]]), MS.aug 90484 (Op.add) (MX.cst (MV.int 1))] [MS.ife (MX.cmp (MX.sub (MX.loc 6852128163306360106612) (MX.cst (MV.int 0))) (Co.eq) (MX.cst (MV.str 22168909))) [MS.exp (MX.mth (MX.att (MX.loc 6230994022) 1573827929459) 388610526637668 [MX.tup [MX.sub (MX.loc 6852128163306360106612) (MX.cst (MV.int 1)), MX.mth (MX.loc 6230994022) 29661483944662927586511842012517 [MX.cst (MV.str 344)]]]), MS.aug 90484 (Op.add) (MX.cst (MV.int 1))] [MS.ife (MX.cmp (MX.sub (MX.loc 6852128163306360106612) (MX.cst (MV.int 0))) (Co.eq) (MX.cst (MV.str 21319236))) [MS.ret (some (MX.call (MX.glb 23881070) [MX.att (MX.att (MX.loc 6230994022) 6013346164) 6214874995]))] [MS.asg (MT.nam 90484) (MX.call (MX.glb 100327547239952247) [MX.loc 6230994022, MX.loc 90484, MX.loc 6852128163306360106612])]]]], MS.ret (some (MX.ife (MX.cmp (MX.loc 90484) (Co.ge) (MX.call (MX.glb 23881070) [MX.att (MX.att (MX.loc 6230994022) 6013346164) 6214874995])) (MX.loc 90484) (MX.neg (MX.cst (MV.int 1)))))] }
noncomputable def cfns : List (Nat × MF) := [(6013154419, zez), (27050993673148788582, zbr), (194457990623467002731720290528779134031162615835562905597489545565136868464516194431661892529245385991427091357535, zam), (26550255131573645166, zbs), (25827140487513861990, zbt), (390831091446895, zbM), (1543763096930, zcs), (114632105102705455381897896805, zaT), (390775174292846, zbN), (11697680140813699095553617261840367871545979128954689612172222715852675943943904352908445219913983994388319, zaG), (1739997520299507713011558, za7), (103711934106397804, F_put_all), (395143239198066, F_gather), (100887207483827566, F_flatten), (26547700982972641126, zbu), (100327547239952247, zbB), (100327547307650416, zbC), (196254634976314992399582029673955626514985301736485678804054381246074043110747630893076508655770246495932903612255, zan), (196254634976314992399582029673955626514985301736485678804054381246074043110747630893076508655744927425992349348968, zaH), (196254634976314992399582029673955626514985301736485678804054381246074043110747630893076508655744927425992231709797, zaI), (196254634976314992399582029673955626514985301736485678804054381246074043110747630922737992600407855010891708853605, zad), (196254634976314992399582029673955626514985301736485678804054381246074043110747630893076508655744927425975253168741, zaJ), (196254634976314992399582029673955626514985301736485678804054381246074043110747630893076508655744927424379866933103, F_FlowRun_go)]
noncomputable def cglb : List (Nat × MV) := [(6013154419, .fn 6013154419), (27050993673148788582, .fn 27050993673148788582), (26550255131573645166, .fn 26550255131573645166), (25827140487513861990, .fn 25827140487513861990), (390831091446895, .fn 390831091446895), (1543763096930, .fn 1543763096930), (114632105102705455381897896805, .fn 114632105102705455381897896805), (390775174292846, .fn 390775174292846), (1739997520299507713011558, .fn 1739997520299507713011558), (103711934106397804, .fn 103711934106397804), (395143239198066, .fn 395143239198066), (100887207483827566, .fn 100887207483827566), (26547700982972641126, .fn 26547700982972641126), (100327547239952247, .fn 100327547239952247), (100327547307650416, .fn 100327547307650416), (91038937668284268, .cls 91038937668284268), (5476475252, .cls 5476475252), (91880068406736238, .cls 91880068406736238), (23881070, .bi .len), (23159411, .bi .abs), (1590772524901, .bi .range), (1706903273020983629210469, .bi .isinst), (6593447022513235260517, .bi .enum), (5979595636, .bi .dict), (6113817460, .bi .list), (24343666, .bi .tstr), (1599698136165, .bi .ttup), (1418770337875, .tup [.str 1414223777620, .str 5542071632, .str 5491348559, .str 1405785167170, .str 5625497423, .str 371932697809486]), (402946902043240485290657106, .int 255)]
noncomputable def ccls : List (Nat × List Nat × List (Nat × Nat)) := [(91038937668284268, [6180924517, 6130987892, 6610953639064984576372], [(25319071553036771167, 194457990623467002731720290528779134031162615835562905597489545565136868464516194431661892529245385991427091357535)]), (5476475252, [6214874995, 405085769393523, 5979075681, 1582182265459, 1565237670003, 23490163], [(25319071553036771167, 11697680140813699095553617261840367871545979128954689612172222715852675943943904352908445219913983994388319)]), (91880068406736238, [6013346164, 411635780248947, 27052967330930716518, 5946045555, 391878846018675, 100046136923025260, 1573827929459], [(25319071553036771167, 196254634976314992399582029673955626514985301736485678804054381246074043110747630893076508655770246495932903612255), (1612482507880, 196254634976314992399582029673955626514985301736485678804054381246074043110747630893076508655744927425992349348968), (1612364868709, 196254634976314992399582029673955626514985301736485678804054381246074043110747630893076508655744927425992231709797), (29661483944662927586511842012517, 196254634976314992399582029673955626514985301736485678804054381246074043110747630922737992600407855010891708853605), (1595386327653, 196254634976314992399582029673955626514985301736485678804054381246074043110747630893076508655744927425975253168741), (92015, 196254634976314992399582029673955626514985301736485678804054381246074043110747630893076508655744927424379866933103)])]
noncomputable def PgC (l : List (Nat × MF)) (g : List (Nat × MV)) : Pg := pg (cfns ++ l) (cglb ++ g) ccls
section
variable {l : List (Nat × MF)} {g : List (Nat × MV)}
theorem zbE : (PgC l g).fns 6013154419 = some zez := id rfl
theorem zaX : (PgC l g).fns 27050993673148788582 = some zbr := id rfl
theorem zae : (PgC l g).fns 194457990623467002731720290528779134031162615835562905597489545565136868464516194431661892529245385991427091357535 = some zam := id rfl
theorem zaY : (PgC l g).fns 26550255131573645166 = some zbs := id rfl
theorem zaZ : (PgC l g).fns 25827140487513861990 = some zbt := id rfl
theorem zbk : (PgC l g).fns 390831091446895 = some zbM := id rfl
theorem zbv : (PgC l g).fns 1543763096930 = some zcs := id rfl
theorem zax : (PgC l g).fns 114632105102705455381897896805 = some zaT := id rfl
theorem zbl : (PgC l g).fns 390775174292846 = some zbN := id rfl
theorem zao : (PgC l g).fns 11697680140813699095553617261840367871545979128954689612172222715852675943943904352908445219913983994388319 = some zaG := id rfl
theorem zaK : (PgC l g).fns 1739997520299507713011558 = some za7 := id rfl
theorem za8 : (PgC l g).fns 103711934106397804 = some F_put_all := id rfl
theorem zbm : (PgC l g).fns 395143239198066 = some F_gather := id rfl
theorem za9 : (PgC l g).fns 100887207483827566 = some F_flatten := id rfl
theorem za0 : (PgC l g).fns 26547700982972641126 = some zbu := id rfl
theorem zba : (PgC l g).fns 100327547239952247 = some zbB := id rfl
theorem zbb : (PgC l g).fns 100327547307650416 = some zbC := id rfl
theorem zaf : (PgC l g).fns 196254634976314992399582029673955626514985301736485678804054381246074043110747630893076508655770246495932903612255 = some zan := id rfl
theorem zap : (PgC l g).fns 196254634976314992399582029673955626514985301736485678804054381246074043110747630893076508655744927425992349348968 = some zaH := id rfl
theorem zaq : (PgC l g).fns 196254634976314992399582029673955626514985301736485678804054381246074043110747630893076508655744927425992231709797 = some zaI := id rfl
theorem zaa : (PgC l g).fns 196254634976314992399582029673955626514985301736485678804054381246074043110747630922737992600407855010891708853605 = some zad := id rfl
theorem zar : (PgC l g).fns 196254634976314992399582029673955626514985301736485678804054381246074043110747630893076508655744927425975253168741 = some zaJ := id rfl
theorem zaL : (PgC l g).fns 196254634976314992399582029673955626514985301736485678804054381246074043110747630893076508655744927424379866933103 = some F_FlowRun_go := id rfl
theorem zbF : (PgC l g).glb 6013154419 = some (.fn 6013154419) := id rfl
theorem za1 : (PgC l g).glb 27050993673148788582 = some (.fn 27050993673148788582) := id rfl
theorem zag : (PgC l g).meth 91038937668284268 25319071553036771167 = some 194457990623467002731720290528779134031162615835562905597489545565136868464516194431661892529245385991427091357535 := id rfl
theorem za2 : (PgC l g).glb 26550255131573645166 = some (.fn 26550255131573645166) := id rfl
theorem za3 : (PgC l g).glb 25827140487513861990 = some (.fn 25827140487513861990) := id rfl
theorem zbn : (PgC l g).glb 390831091446895 = some (.fn 390831091446895) := id rfl
theorem zbw : (PgC l g).glb 1543763096930 = some (.fn 1543763096930) := id rfl
theorem zay : (PgC l g).glb 114632105102705455381897896805 = some (.fn 114632105102705455381897896805) := id rfl
theorem zbo : (PgC l g).glb 390775174292846 = some (.fn 390775174292846) := id rfl
theorem zas : (PgC l g).meth 5476475252 25319071553036771167 = some 11697680140813699095553617261840367871545979128954689612172222715852675943943904352908445219913983994388319 := id rfl
theorem zaM : (PgC l g).glb 1739997520299507713011558 = some (.fn 1739997520299507713011558) := id rfl
theorem zbc : (PgC l g).glb 103711934106397804 = some (.fn 103711934106397804) := id rfl
theorem zbp : (PgC l g).glb 395143239198066 = some (.fn 395143239198066) := id rfl
theorem zbd : (PgC l g).glb 100887207483827566 = some (.fn 100887207483827566) := id rfl
theorem za4 : (PgC l g).glb 26547700982972641126 = some (.fn 26547700982972641126) := id rfl
theorem zbe : (PgC l g).glb 100327547239952247 = some (.fn 100327547239952247) := id rfl
theorem zbf : (PgC l g).glb 100327547307650416 = some (.fn 100327547307650416) := id rfl
theorem zah : (PgC l g).meth 91880068406736238 25319071553036771167 = some 196254634976314992399582029673955626514985301736485678804054381246074043110747630893076508655770246495932903612255 := id rfl
theorem zbG : (PgC l g).glb 5476475252 = some (.cls 5476475252) := id rfl
theorem zbj : (PgC l g).glb 91880068406736238 = some (.cls 91880068406736238) := id rfl
theorem zcj : (PgC l g).glb 23881070 = some (.bi .len) := id rfl
theorem zck : (PgC l g).glb 23159411 = some (.bi .abs) := id rfl
theorem zbx : (PgC l g).glb 1590772524901 = some (.bi .range) := id rfl
theorem zaS : (PgC l g).glb 1706903273020983629210469 = some (.bi .isinst) := id rfl
theorem zaW : (PgC l g).glb 6593447022513235260517 = some (.bi .enum) := id rfl
theorem zbH : (PgC l g).glb 5979595636 = some (.bi .dict) := id rfl
theorem zbI : (PgC l g).glb 6113817460 = some (.bi .list) := id rfl
theorem zcl : (PgC l g).glb 24343666 = some (.bi .tstr) := id rfl
theorem zby : (PgC l g).glb 1599698136165 = some (.bi .ttup) := id rfl
theorem zcm : (PgC l g).glb 1418770337875 = some (.tup [.str 1414223777620, .str 5542071632, .str 5491348559, .str 1405785167170, .str 5625497423, .str 371932697809486]) := id rfl
theorem zdy : (PgC l g).glb 402946902043240485290657106 = some (.int 255) := id rfl
end
end Mn
end
section
namespace Mn
set_option maxRecDepth 100000
noncomputable def F_law3 : MF := { params := [408345935179892], body := [MS.asg (MT.tup [MT.nam 23224679, MT.nam 389692841487219]) (MX.tup [MX.lst [MX.slc (MX.loc 408345935179892) none (some (MX.cst (MV.int 20))), MX.cst (MV.int 0)], MX.dct]), MS.for_ (MT.nam 6146846053) (MX.cst (MV.str 21054019)) [MS.asg (MT.tup [MT.nam 6130069113, MT.nam 1706902549328993121300071]) (MX.tup [MX.call (MX.glb 6482616824352480584055) [MX.loc 23224679, MX.cst (MV.int 7)], MX.cmp (MX.call (MX.glb 6482616824352480584055) [MX.loc 23224679, MX.cst (MV.int 2)]) (Co.eq) (MX.cst (MV.int 1))]), MS.asg (MT.sub (MX.loc 389692841487219) (MX.loc 6146846053)) (MX.tup [MX.loc 6130069113, MX.loc 1706902549328993121300071, MX.cmpr (MX.sub (MX.cst (MV.str 5389828933)) (MX.call (MX.glb 6482616824352480584055) [MX.loc 23224679, MX.cst (MV.int 4)])) (CT.one 6248821358) (MX.call (MX.glb 1590772524901) [MX.cst (MV.int 3)]) []])], MS.asg (MT.sub (MX.loc 389692841487219) (MX.cst (MV.str 339))) (MX.tup [MX.call (MX.glb 6482616824352480584055) [MX.loc 23224679, MX.cst (MV.int 7)], MX.cst (MV.bool false), MX.lst []]), MS.asg (MT.tup [MT.nam 6113551988, MT.nam 1578172179826]) (MX.tup [MX.call (MX.glb 6113817460) [MX.cst (MV.str 1379796210501)], MX.lst []]), MS.whl (MX.cmp (MX.loc 6113551988) (Co.ne) (MX.lst [])) [MS.exp (MX.mth (MX.loc 1578172179826) 388610526637668 [MX.mth (MX.loc 6113551988) 24145776 [MX.call (MX.glb 6482616824352480584055) [MX.loc 23224679, MX.call (MX.glb 23881070) [MX.loc 6113551988]]]])], MS.for_ (MT.nam 1522288389732) (MX.tup [MX.cst (MV.int 4), MX.cst (MV.int 9), MX.cst (MV.int 17), MX.cst (MV.int 30)]) [MS.asg (MT.nam 1539468258916) (MX.call (MX.glb 6482616824352731391342) [MX.cst (MV.str 1379796210501), MX.loc 389692841487219, MX.loc 1522288389732]), MS.ife (MX.cmp (MX.call (MX.glb 6482616824352731391342) [MX.loc 1578172179826, MX.loc 389692841487219, MX.loc 1522288389732]) (Co.ne) (MX.loc 1539468258916)) [MS.ret (some (MX.cst (MV.bool false)))] []], MS.ret (some (MX.bop false [MX.cmp (MX.loc 408345935179892) (Co.ne) (MX.lst []), MX.cmp (MX.sub (MX.loc 1539468258916) (MX.cst (MV.int 2))) (Co.eq) (MX.lst [MX.tup [MX.cst (MV.str 321), MX.cst (MV.int 2)], MX.tup [MX.cst (MV.str 323), MX.cst (MV.int 5)], MX.tup [MX.cst (MV.str 339), MX.cst (MV.int 3)], MX.tup [MX.cst (MV.str 322), MX.cst (MV.int 5)], MX.tup [MX.cst (MV.str 339), MX.cst (MV.int 3)], MX.tup [MX.cst (MV.str 321), MX.cst (MV.int 3)], MX.tup [MX.cst (MV.str 325), MX.cst (MV.int 3)]])]))] }
noncomputable def F__law_draw3 : MF := { params := [23224679, 1522120028023], body := [MS.asg (MT.nam 6231715700) (MX.sub (MX.loc 23224679) (MX.cst (MV.int 1))), MS.asg (MT.sub (MX.loc 23224679) (MX.cst (MV.int 1))) (MX.bin (Op.add) (MX.loc 6231715700) (MX.cst (MV.int 1))), MS.ret (some (MX.ife (MX.cmp (MX.loc 6231715700) (Co.lt) (MX.call (MX.glb 23881070) [MX.sub (MX.loc 23224679) (MX.cst (MV.int 0))])) (MX.bin (Op.mod) (MX.call (MX.glb 23159411) [MX.sub (MX.sub (MX.loc 23224679) (MX.cst (MV.int 0))) (MX.loc 6231715700)]) (MX.loc 1522120028023)) (MX.bin (Op.mod) (MX.bin (Op.add) (MX.bin (Op.add) (MX.bin (Op.mul) (MX.cst (MV.int 3)) (MX.loc 6231715700)) (MX.bin (Op.fdiv) (MX.loc 6231715700) (MX.cst (MV.int 3)))) (MX.cst (MV.int 1))) (MX.loc 1522120028023))))] }
noncomputable def F__law_worth3 : MF := { params := [6248621413, 411635780248947], body := [MS.ret (some (MX.ife (MX.cmp (MX.sub (MX.loc 6248621413) (MX.cst (MV.int 0))) (Co.eq) (MX.cst (MV.str 6248821358))) (MX.bin (Op.mod) (MX.bin (Op.add) (MX.bin (Op.mul) (MX.cst (MV.int 3)) (MX.sub (MX.loc 411635780248947) (MX.cst (MV.str 344)))) (MX.sub (MX.loc 6248621413) (MX.cst (MV.int 1)))) (MX.cst (MV.int 7))) (MX.bin (Op.add) (MX.cst (MV.int 1)) (MX.bin (Op.mod) (MX.sub (MX.loc 411635780248947) (MX.cst (MV.str 344))) (MX.cst (MV.int 3))))))] }
noncomputable def F__law_block3 : MF := { params := [6146846053, 6248426596, 103148954138800755], body := [MS.asg (MT.tup [MT.nam 6130069113, MT.nam 1706902549328993121300071, MT.nam 1543761914995]) (MX.loc 6248426596), MS.asg (MT.nam 1539468258916) (MX.lst [MX.tup [MX.cst (MV.str 21775700), MX.tup [MX.cst (MV.str 6146846053), MX.cst (MV.str 344)], MX.tup [MX.cst (MV.str 6248821358), MX.loc 6130069113]], MX.tup [MX.cst (MV.str 22168909), MX.loc 6146846053]]), MS.ife (MX.cmp (MX.loc 6146846053) (Co.eq) (MX.cst (MV.str 339))) [MS.ret (some (MX.bin (Op.add) (MX.loc 1539468258916) (MX.lst [MX.tup [MX.cst (MV.str 371932697809486), MX.cst (MV.none)]])))] [], MS.ife (MX.loc 1706902549328993121300071) [MS.exp (MX.mth (MX.loc 1539468258916) 388610526637668 [MX.tup [MX.cst (MV.str 1405785167170), MX.sub (MX.loc 103148954138800755) (MX.cst (MV.str 339))]])] [], MS.ret (some (MX.bin (Op.add) (MX.loc 1539468258916) (MX.lst [MX.tup [MX.cst (MV.str 5625497423), MX.cst (MV.str 5491348559), MX.tup [MX.cst (MV.str 6214218612)], MX.cmpr (MX.sub (MX.loc 103148954138800755) (MX.loc 6030319980)) (CT.one 6030319980) (MX.loc 1543761914995) []]])))] }
noncomputable def F__law_program3 : MF := { params := [1578172179826, 389692841487219], body := [MS.asg (MT.nam 103148954138800755) (MX.call (MX.glb 5979595636) [MX.cmpr (MX.tup [MX.loc 6146846053, MX.bin (Op.add) (MX.bin (Op.mul) (MX.cst (MV.int 10)) (MX.loc 90484)) (MX.cst (MV.int 10))]) (CT.two 90484 6146846053) (MX.call (MX.glb 6593447022513235260517) [MX.loc 1578172179826]) []]), MS.asg (MT.nam 1565136938355) (MX.lst []), MS.for_ (MT.nam 6146846053) (MX.loc 1578172179826) [MS.exp (MX.mth (MX.loc 1565136938355) 388610526637668 [MX.tup [MX.sub (MX.loc 103148954138800755) (MX.loc 6146846053), MX.ife (MX.cmp (MX.loc 6146846053) (Co.eq) (MX.cst (MV.str 325))) (MX.lst [MX.tup [MX.cst (MV.str 22168909), MX.cst (MV.str 325)], MX.tup [MX.cst (MV.str 21319236)]]) (MX.call (MX.glb 1659549907034226339832683) [MX.loc 6146846053, MX.sub (MX.loc 389692841487219) (MX.loc 6146846053), MX.loc 103148954138800755])]])], MS.asg (MT.nam 6013346164) (MX.call (MX.glb 100887207483827566) [MX.loc 1565136938355]), MS.ret (some (MX.tup [MX.loc 6013346164, MX.sub (MX.att (MX.loc 6013346164) 405085769393523) (MX.sub (MX.loc 103148954138800755) (MX.cst (MV.str 321)))]))] }
noncomputable def F__law_seen3 : MF := { params := [1578172179826, 389692841487219, 1522288389732], body := [MS.asg (MT.tup [MT.nam 6013346164, MT.nam 1522119698798]) (MX.call (MX.glb 108760262707399004654086021485) [MX.loc 1578172179826, MX.loc 389692841487219]), MS.asg (MT.nam 24278382) (MX.call (MX.glb 91880068406736238) [MX.loc 6013346164, MX.call (MX.glb 5979595636) [MX.lst [MX.tup [MX.cst (MV.str 344), MX.cst (MV.int 5)]]], MX.glb 1659549907034316584678504, MX.cst (MV.int 16), MX.cst (MV.int 9)]), MS.asg (MT.nam 6248426596) (MX.mth (MX.loc 24278382) 92015 [MX.loc 1522119698798, MX.loc 1522288389732]), MS.ret (some (MX.tup [MX.loc 6248426596, MX.call (MX.glb 23881070) [MX.att (MX.loc 6013346164) 6214874995], MX.att (MX.loc 24278382) 1573827929459, MX.sub (MX.att (MX.loc 24278382) 411635780248947) (MX.cst (MV.str 344)), MX.call (MX.glb 23881070) [MX.att (MX.att (MX.loc 24278382) 100046136923025260) 6180924517]]))] }
noncomputable def lf3 : List (Nat × MF) := [(23880055, F_law3), (6482616824352480584055, F__law_draw3), (1659549907034316584678504, F__law_worth3), (1659549907034226339832683, F__law_block3), (108760262707399004654086021485, F__law_program3), (6482616824352731391342, F__law_seen3)]
noncomputable def lg3 : List (Nat × MV) := [(23880055, .fn 23880055), (6482616824352480584055, .fn 6482616824352480584055), (1659549907034316584678504, .fn 1659549907034316584678504), (1659549907034226339832683, .fn 1659549907034226339832683), (108760262707399004654086021485, .fn 108760262707399004654086021485), (6482616824352731391342, .fn 6482616824352731391342)]
theorem f3_F_law : (PgC lf3 lg3).fns 23880055 = some F_law3 := rfl
theorem g3_F_law : (PgC lf3 lg3).glb 23880055 = some (.fn 23880055) := rfl
theorem f3_F__law_draw : (PgC lf3 lg3).fns 6482616824352480584055 = some F__law_draw3 := rfl
theorem g3_F__law_draw : (PgC lf3 lg3).glb 6482616824352480584055 = some (.fn 6482616824352480584055) := rfl
theorem f3_F__law_worth : (PgC lf3 lg3).fns 1659549907034316584678504 = some F__law_worth3 := rfl
theorem g3_F__law_worth : (PgC lf3 lg3).glb 1659549907034316584678504 = some (.fn 1659549907034316584678504) := rfl
theorem f3_F__law_block : (PgC lf3 lg3).fns 1659549907034226339832683 = some F__law_block3 := rfl
theorem g3_F__law_block : (PgC lf3 lg3).glb 1659549907034226339832683 = some (.fn 1659549907034226339832683) := rfl
theorem f3_F__law_program : (PgC lf3 lg3).fns 108760262707399004654086021485 = some F__law_program3 := rfl
theorem g3_F__law_program : (PgC lf3 lg3).glb 108760262707399004654086021485 = some (.fn 108760262707399004654086021485) := rfl
theorem f3_F__law_seen : (PgC lf3 lg3).fns 6482616824352731391342 = some F__law_seen3 := rfl
theorem g3_F__law_seen : (PgC lf3 lg3).glb 6482616824352731391342 = some (.fn 6482616824352731391342) := rfl
end Mn
end
section
set_option maxRecDepth 100000
namespace Mn.Mg
theorem idx_0 (a : MV) (l : List MV) : idx (a :: l) 0 = some a := rfl
theorem idx_1 (a b : MV) (l : List MV) : idx (a :: b :: l) 1 = some b := rfl
theorem idx_2 (a b c : MV) (l : List MV) : idx (a :: b :: c :: l) 2 = some c := rfl
theorem idx_3 (a b c d : MV) (l : List MV) : idx (a :: b :: c :: d :: l) 3 = some d := rfl
def IX := And.intro @idx_0 (And.intro @idx_1 (And.intro @idx_2 @idx_3))
theorem idx_nat (vs : List MV) {i : Int} (k : Nat) (hi : i = k) (h : k < 1073741824) : idx vs i = vs[k]? := by
  subst hi
  exact if_pos ⟨Int.natCast_nonneg k, by omega⟩
theorem fmod_range (a b : Int) (hb : 0 < b) : 0 ≤ Int.fmod a b ∧ Int.fmod a b < b := by
  rw [Int.fmod_eq_emod_of_nonneg _ (by omega)]
  exact ⟨Int.emod_nonneg _ (by omega), Int.emod_lt_of_pos _ hb⟩
theorem castS (k : Nat) : ((k + 1 : Nat) : Int) = (k : Int) + 1 := rfl
section
variable (n d : Nat)
theorem fits_ok (i : Int) (h1 : -32768 ≤ i) (h2 : i < 32768) (H : MH) : (ev (PgC lf3 lg3) (n + 20) (d + 2)).c (.fn 6013154419) [.int i, .int 16] H = some (.bool true, H) := by
  rw [ec_fn, callF_ _ _ _ zbE rfl rfl]
  simp only [zct,zcv,zcw,zcx,zcy,zcz,zcB,zcC,zbP,zcD,zcE,zcF,zcG,zbQ,zcH,zcI,zcJ,zcK,zbR,zeA,zeB,zeC,zeD,zcL,zcM,zcP,zcS,zbS,zbT,zcU,zcW,zcX,zcY,zcZ,zbU,zc0,zf0,zf1,zbW,zbX,zbZ,zeF,zeG,zc1,zc2,zb2,zb3,zb4,zb5,zc3,zc4,zeH,zeI,zeJ,zb6,zca,zcc,zcd,zce,zc7,zeN,zeO,zda,zcf,zeP,zeQ,zdb,zeR,zeT,zeU,zeV,zeW,zeX,zdd,zeY,zeZ,ze0,zde,ze1,zdf,zdg,ze2,zdh,ze3,ze4,ze5,zdi,ze6,ze7,ze8,zfa,zfb,zfc,zdl,zdm,zdn,zdo,zdp,zci,zdq,zf2,zdr,zfe,zds,zff,zfg,zfh,zfi,zfj,zfk,zdt,zdu,zdv,zfl,zfm,zdw,zfn,zdx,zfq,zfr,zf3,zbE,zaX,zae,zaY,zaZ,zbk,zbv,zax,zbl,zao,zaK,za8,zbm,za9,za0,zba,zbb,zaf,zap,zaq,zaa,zar,zaL,zbF,za1,zag,za2,za3,zbn,zbw,zay,zbo,zas,zaM,zbc,zbp,zbd,za4,zbe,zbf,zah,zbG,zbj,zcj,zck,zbx,zaS,zaW,zbH,zbI,zcl,zby,zcm,zdy,zdz,zcn,zco,zfs,zft,zdA,zdB,zdC,zfv,zfw,zfx,zfy,zfz,zdD,zdF,zdG,zdH,zfA,zdI,zdJ,zdL,zdM,zfB,zfC,zfD,zdO,zcp,zfE,zdP,zdQ,zdR,zdS,zdT,zdV,zdW,zcq,zbJ,zbK,zdX,zdY,zfF,zd2,zfG,zfJ,zfK,zd5,zd6,zd7,zd8,zd9,zfL,zfM,zfN,zfO,zfP,zeb,zec,zfQ,zed,zee,zef,zeg,zeh,zcr,zei,zej,zem,zfR,zen,zfS,zfT,zfV,zfX,zfY,zeo,zep,zer,zfZ,zes,zeu,zew,zex,zez,zbr,zam,zbs,zbt,zbM,zcs,zaT,zbN,zaG,za7,F_put_all,F_gather,F_flatten,zbu,zbB,zbC,zan,zaH,zaI,zad,zaJ,F_FlowRun_go,if_true,if_false,zf4,zf5,cond_true,cond_false,List.zip,List.zipWith,List.length_cons,List.length_nil,Option.isSome_some,Bool.false_eq_true,reduceIte,reduceCtorEq,Nat.reduceEqDiff,Nat.reduceAdd,Nat.reduceLeDiff,Int.cast_ofNat_Int,decide_true,decide_false,Bool.and_true,Bool.true_and,Bool.and_false,Bool.false_and,Int.sub_zero,Int.reduceNeg,Nat.reduceLT,and_self,and_true,true_and,Bool.false_or,Bool.or_false,Bool.true_or,Bool.or_true,Bool.not_true,Bool.not_false,Int.natAbs_neg,Int.reduceSub,Int.reduceAdd,Int.reduceToNat,Int.natAbs_zero,Int.natAbs_one,Int.reduceLT,Int.reduceLE,Int.reduceGE,Int.reduceGT,decide_eq_true_eq,List.getElem?_cons_zero,List.getElem?_cons_succ,Nat.reduceSub,Int.reduceMul,Nat.reduceBEq,Nat.reducePow,Int.reducePow,and_false,false_and,eq_self,zbO,zbD _ _ zbx,IX,lim,F__law_worth3,F__law_draw3,h1,h2]
theorem whole_ok (i : Int) (h1 : -32768 ≤ i) (h2 : i < 32768) (H : MH) : (ev (PgC lf3 lg3) (n + 40) (d + 4)).c (.fn 27050993673148788582) [.int i, .int 16] H = some (.int i, H) := by
  rw [ec_fn, callF_ _ _ _ zaX rfl rfl]
  simp only [zct,zcv,zcw,zcx,zcy,zcz,zcB,zcC,zbP,zcD,zcE,zcF,zcG,zbQ,zcH,zcI,zcJ,zcK,zbR,zeA,zeB,zeC,zeD,zcL,zcM,zcP,zcS,zbS,zbT,zcU,zcW,zcX,zcY,zcZ,zbU,zc0,zf0,zf1,zbW,zbX,zbZ,zeF,zeG,zc1,zc2,zb2,zb3,zb4,zb5,zc3,zc4,zeH,zeI,zeJ,zb6,zca,zcc,zcd,zce,zc7,zeN,zeO,zda,zcf,zeP,zeQ,zdb,zeR,zeT,zeU,zeV,zeW,zeX,zdd,zeY,zeZ,ze0,zde,ze1,zdf,zdg,ze2,zdh,ze3,ze4,ze5,zdi,ze6,ze7,ze8,zfa,zfb,zfc,zdl,zdm,zdn,zdo,zdp,zci,zdq,zf2,zdr,zfe,zds,zff,zfg,zfh,zfi,zfj,zfk,zdt,zdu,zdv,zfl,zfm,zdw,zfn,zdx,zfq,zfr,zf3,zbE,zaX,zae,zaY,zaZ,zbk,zbv,zax,zbl,zao,zaK,za8,zbm,za9,za0,zba,zbb,zaf,zap,zaq,zaa,zar,zaL,zbF,za1,zag,za2,za3,zbn,zbw,zay,zbo,zas,zaM,zbc,zbp,zbd,za4,zbe,zbf,zah,zbG,zbj,zcj,zck,zbx,zaS,zaW,zbH,zbI,zcl,zby,zcm,zdy,zdz,zcn,zco,zfs,zft,zdA,zdB,zdC,zfv,zfw,zfx,zfy,zfz,zdD,zdF,zdG,zdH,zfA,zdI,zdJ,zdL,zdM,zfB,zfC,zfD,zdO,zcp,zfE,zdP,zdQ,zdR,zdS,zdT,zdV,zdW,zcq,zbJ,zbK,zdX,zdY,zfF,zd2,zfG,zfJ,zfK,zd5,zd6,zd7,zd8,zd9,zfL,zfM,zfN,zfO,zfP,zeb,zec,zfQ,zed,zee,zef,zeg,zeh,zcr,zei,zej,zem,zfR,zen,zfS,zfT,zfV,zfX,zfY,zeo,zep,zer,zfZ,zes,zeu,zew,zex,zez,zbr,zam,zbs,zbt,zbM,zcs,zaT,zbN,zaG,za7,F_put_all,F_gather,F_flatten,zbu,zbB,zbC,zan,zaH,zaI,zad,zaJ,F_FlowRun_go,if_true,if_false,zf4,zf5,cond_true,cond_false,List.zip,List.zipWith,List.length_cons,List.length_nil,Option.isSome_some,Bool.false_eq_true,reduceIte,reduceCtorEq,Nat.reduceEqDiff,Nat.reduceAdd,Nat.reduceLeDiff,Int.cast_ofNat_Int,decide_true,decide_false,Bool.and_true,Bool.true_and,Bool.and_false,Bool.false_and,Int.sub_zero,Int.reduceNeg,Nat.reduceLT,and_self,and_true,true_and,Bool.false_or,Bool.or_false,Bool.true_or,Bool.or_true,Bool.not_true,Bool.not_false,Int.natAbs_neg,Int.reduceSub,Int.reduceAdd,Int.reduceToNat,Int.natAbs_zero,Int.natAbs_one,Int.reduceLT,Int.reduceLE,Int.reduceGE,Int.reduceGT,decide_eq_true_eq,List.getElem?_cons_zero,List.getElem?_cons_succ,Nat.reduceSub,Int.reduceMul,Nat.reduceBEq,Nat.reducePow,Int.reducePow,and_false,false_and,eq_self,zbO,zbD _ _ zbx,IX,lim,F__law_worth3,F__law_draw3,fun n d => fits_ok n d i h1 h2]
theorem chosen_ok (i : Int) (h1 : 0 ≤ i) (h2 : i < 3) (H : MH) : (ev (PgC lf3 lg3) (n + 40) (d + 4)).c (.fn 390775174292846) [.int (1 + i), .int 3] H = some (.int i, H) := by
  rw [ec_fn, callF_ _ _ _ zbl rfl rfl]
  have b1 : 0 ≤ 1 + i := by omega
  have b2 : 1 + i ≤ 255 := by omega
  have b3 : 1 ≤ 1 + i := by omega
  have b4 : 1 + i ≤ 3 := by omega
  have b5 : 1 + i - 1 = i := by omega
  simp only [zct,zcv,zcw,zcx,zcy,zcz,zcB,zcC,zbP,zcD,zcE,zcF,zcG,zbQ,zcH,zcI,zcJ,zcK,zbR,zeA,zeB,zeC,zeD,zcL,zcM,zcP,zcS,zbS,zbT,zcU,zcW,zcX,zcY,zcZ,zbU,zc0,zf0,zf1,zbW,zbX,zbZ,zeF,zeG,zc1,zc2,zb2,zb3,zb4,zb5,zc3,zc4,zeH,zeI,zeJ,zb6,zca,zcc,zcd,zce,zc7,zeN,zeO,zda,zcf,zeP,zeQ,zdb,zeR,zeT,zeU,zeV,zeW,zeX,zdd,zeY,zeZ,ze0,zde,ze1,zdf,zdg,ze2,zdh,ze3,ze4,ze5,zdi,ze6,ze7,ze8,zfa,zfb,zfc,zdl,zdm,zdn,zdo,zdp,zci,zdq,zf2,zdr,zfe,zds,zff,zfg,zfh,zfi,zfj,zfk,zdt,zdu,zdv,zfl,zfm,zdw,zfn,zdx,zfq,zfr,zf3,zbE,zaX,zae,zaY,zaZ,zbk,zbv,zax,zbl,zao,zaK,za8,zbm,za9,za0,zba,zbb,zaf,zap,zaq,zaa,zar,zaL,zbF,za1,zag,za2,za3,zbn,zbw,zay,zbo,zas,zaM,zbc,zbp,zbd,za4,zbe,zbf,zah,zbG,zbj,zcj,zck,zbx,zaS,zaW,zbH,zbI,zcl,zby,zcm,zdy,zdz,zcn,zco,zfs,zft,zdA,zdB,zdC,zfv,zfw,zfx,zfy,zfz,zdD,zdF,zdG,zdH,zfA,zdI,zdJ,zdL,zdM,zfB,zfC,zfD,zdO,zcp,zfE,zdP,zdQ,zdR,zdS,zdT,zdV,zdW,zcq,zbJ,zbK,zdX,zdY,zfF,zd2,zfG,zfJ,zfK,zd5,zd6,zd7,zd8,zd9,zfL,zfM,zfN,zfO,zfP,zeb,zec,zfQ,zed,zee,zef,zeg,zeh,zcr,zei,zej,zem,zfR,zen,zfS,zfT,zfV,zfX,zfY,zeo,zep,zer,zfZ,zes,zeu,zew,zex,zez,zbr,zam,zbs,zbt,zbM,zcs,zaT,zbN,zaG,za7,F_put_all,F_gather,F_flatten,zbu,zbB,zbC,zan,zaH,zaI,zad,zaJ,F_FlowRun_go,if_true,if_false,zf4,zf5,cond_true,cond_false,List.zip,List.zipWith,List.length_cons,List.length_nil,Option.isSome_some,Bool.false_eq_true,reduceIte,reduceCtorEq,Nat.reduceEqDiff,Nat.reduceAdd,Nat.reduceLeDiff,Int.cast_ofNat_Int,decide_true,decide_false,Bool.and_true,Bool.true_and,Bool.and_false,Bool.false_and,Int.sub_zero,Int.reduceNeg,Nat.reduceLT,and_self,and_true,true_and,Bool.false_or,Bool.or_false,Bool.true_or,Bool.or_true,Bool.not_true,Bool.not_false,Int.natAbs_neg,Int.reduceSub,Int.reduceAdd,Int.reduceToNat,Int.natAbs_zero,Int.natAbs_one,Int.reduceLT,Int.reduceLE,Int.reduceGE,Int.reduceGT,decide_eq_true_eq,List.getElem?_cons_zero,List.getElem?_cons_succ,Nat.reduceSub,Int.reduceMul,Nat.reduceBEq,Nat.reducePow,Int.reducePow,and_false,false_and,eq_self,zbO,zbD _ _ zbx,IX,lim,F__law_worth3,F__law_draw3,b1,b2,b3,b4,b5]
end
structure RS where
  x : Int
  pile : Option Nat
  notes : List MV
noncomputable def pmv : Option Nat → List MV
  | none => []
  | some k => [.tup [.str 1405785167170, .int k]]
structure RA where
  r : Nat
  rd : Nat
  fl : Nat
  fd : Nat
  ra : Nat
  pa : Nat
  da : Nat
  qa : Nat
  la : Nat
  fa : Nat
  va : Nat
  co : Nat
  cd : Nat
  na : Nat
inductive Row where
  | let_ (k : Int)
  | rem (w : Nat)
  | end_
  | sub (ln : Int)
  | ret
  | on_ (k : Nat) (gs : List Int)
noncomputable def Row.mv : Row → MV
  | .let_ k => .tup [.str 21775700, .tup [.str 6146846053, .str 344], .tup [.str 6248821358, .int k]]
  | .rem w => .tup [.str 22168909, .str w]
  | .end_ => .tup [.str 21319236]
  | .sub n => .tup [.str 1405785167170, .int n]
  | .ret => .tup [.str 371932697809486, .none]
  | .on_ k _ => .tup [.str 5625497423, .str 5491348559, .tup [.str 6214218612], .ref k]
noncomputable def Row.ok (G : Nat → Option MO) : Row → Prop
  | .on_ k gs => G k = some (.list (gs.map .int)) ∧ gs.length = 3
  | .let_ k => 0 ≤ k ∧ k < 7
  | _ => True
structure Fl where
  rows : List (Int × Row)
  places : List (MV × MV)
noncomputable def Fl.mv (F : Fl) : List MV := F.rows.map fun p => .tup [.int p.1, p.2.mv]
noncomputable def runD (A : RA) : MO := .dict [(.str 6013346164, .ref A.fl), (.str 411635780248947, .ref A.va), (.str 27052967330930716518, .fn 1659549907034316584678504), (.str 5946045555, .int 16), (.str 391878846018675, .int 9), (.str 100046136923025260, .ref A.co), (.str 1573827929459, .ref A.na)]
noncomputable def flatD (A : RA) : MO := .dict [(.str 6214874995, .ref A.ra), (.str 405085769393523, .ref A.pa), (.str 5979075681, .ref A.da), (.str 1582182265459, .ref A.qa), (.str 1565237670003, .ref A.la), (.str 23490163, .ref A.fa)]
noncomputable def ctl (p : Nat) : MO := .dict [(.str 6180924517, .ref p), (.str 6130987892, .int 20), (.str 6610953639064984576372, .int (-1))]
noncomputable def valD (x : Int) : MO := .dict [(.str 344, .int x)]
noncomputable abbrev Fz := Nat → Option MO
structure RFix (G : Fz) (A : RA) (F : Fl) : Prop where
  r : G A.r = some (.inst 91880068406736238 A.rd)
  rd : G A.rd = some (runD A)
  co : G A.co = some (.inst 91038937668284268 A.cd)
  fl : G A.fl = some (.inst 5476475252 A.fd)
  fd : G A.fd = some (flatD A)
  ra : G A.ra = some (.list F.mv)
  pa : G A.pa = some (.dict F.places)
  kp : ∀ i : Int, okKey (.int i) F.places = true
  ok : ∀ p ∈ F.rows, p.2.ok G
  len : F.rows.length < 1000
noncomputable def Sub (G : Fz) (H : MH) : Prop := ∀ k o, G k = some o → H.get k = some o
structure St (G : Fz) (A : RA) (p : Nat) (s : RS) (H : MH) : Prop where
  ext : Sub G H
  gnew : ∀ k, H.next ≤ k → G k = none
  va : H.get A.va = some (valD s.x)
  na : H.get A.na = some (.list s.notes)
  cd : H.get A.cd = some (ctl p)
  pi : H.get p = some (.list (pmv s.pile))
  gva : G A.va = none
  gna : G A.na = none
  gcd : G A.cd = none
  gp : G p = none
  n2 : A.na ≠ p
  hx : 0 ≤ s.x ∧ s.x < 7
  ln : s.notes.length < 1000
  bva : A.va < H.next
  bna : A.na < H.next
  bcd : A.cd < H.next
  bp : p < H.next
noncomputable def Sx (G : Fz) (A : RA) (s : RS) (H : MH) : Prop := ∃ p, St G A p s H
theorem upd_eq (H : MH) (k : Nat) (o : MO) : (H.upd k o).get k = some o := if_pos rfl
theorem upd_ne (H : MH) (k j : Nat) (o : MO) (h : j ≠ k) : (H.upd k o).get j = H.get j := if_neg h
theorem new_eq (H : MH) (o : MO) : (H.new o).get H.next = some o := if_pos rfl
theorem new_ne (H : MH) (o : MO) (k : Nat) (h : k ≠ H.next) : (H.new o).get k = H.get k := if_neg h
section
variable {G : Fz} {A : RA} {F : Fl} {p : Nat} {s : RS} {H : MH}
theorem ne_of_get {H : MH} {a b : Nat} {u v : MO} (h1 : H.get a = some u) (h2 : H.get b = some v) (h : u ≠ v) : a ≠ b := by
  rintro rfl
  rw [h1] at h2
  exact h (Option.some.inj h2)
theorem gne {G : Fz} {a b : Nat} {u : MO} (h1 : G a = some u) (h2 : G b = none) : a ≠ b := by
  rintro rfl
  rw [h1] at h2
  cases h2
theorem St.ltG (h : St G A p s H) {k : Nat} {o : MO} (e : G k = some o) : k < H.next := by
  rcases Nat.lt_or_ge k H.next with q | q
  · exact q
  · rw [h.gnew _ q] at e; cases e
theorem Sub.upd (h : Sub G H) {k : Nat} (o : MO) (hk : G k = none) : Sub G (H.upd k o) := fun j u e => by
  rw [upd_ne _ _ _ _ (gne e hk)]
  exact h _ _ e
theorem St.store (h : St G A p s H) (x : Int) (hx : 0 ≤ x ∧ x < 7) : St G A p { s with x := x } (H.upd A.va (valD x)) := by
  have a1 : A.na ≠ A.va := ne_of_get h.na h.va nofun
  have a2 : p ≠ A.va := ne_of_get h.pi h.va nofun
  have a3 : A.cd ≠ A.va := ne_of_get h.cd h.va fun q => by unfold ctl valD at q; cases q
  exact ⟨h.ext.upd _ h.gva, h.gnew, upd_eq _ _ _, (upd_ne _ _ _ _ a1).trans h.na, (upd_ne _ _ _ _ a3).trans h.cd, (upd_ne _ _ _ _ a2).trans h.pi, h.gva, h.gna, h.gcd, h.gp, h.n2, hx, h.ln, h.bva, h.bna, h.bcd, h.bp⟩
theorem St.note (h : St G A p s H) (v : MV) (hl : s.notes.length + 1 < 1000) : St G A p { s with notes := s.notes ++ [v] } (H.upd A.na (.list (s.notes ++ [v]))) := by
  have a1 : A.va ≠ A.na := ne_of_get h.va h.na nofun
  have a2 : A.cd ≠ A.na := ne_of_get h.cd h.na nofun
  exact ⟨h.ext.upd _ h.gna, h.gnew, (upd_ne _ _ _ _ a1).trans h.va, upd_eq _ _ _, (upd_ne _ _ _ _ a2).trans h.cd, (upd_ne _ _ _ _ h.n2.symm).trans h.pi, h.gva, h.gna, h.gcd, h.gp, h.n2, h.hx, by rw [List.length_append]; exact hl, h.bva, h.bna, h.bcd, h.bp⟩
theorem St.push (h : St G A p s H) (k : Nat) : St G A p { s with pile := some k } (H.upd p (.list (pmv (some k)))) := by
  have a1 : A.va ≠ p := ne_of_get h.va h.pi nofun
  have a2 : A.cd ≠ p := ne_of_get h.cd h.pi nofun
  exact ⟨h.ext.upd _ h.gp, h.gnew, (upd_ne _ _ _ _ a1).trans h.va, (upd_ne _ _ _ _ h.n2).trans h.na, (upd_ne _ _ _ _ a2).trans h.cd, upd_eq _ _ _, h.gva, h.gna, h.gcd, h.gp, h.n2, h.hx, h.ln, h.bva, h.bna, h.bcd, h.bp⟩
theorem St.cut (h : St G A p s H) : St G A H.next { s with pile := none } ((H.new (.list [])).upd A.cd (ctl H.next)) := by
  have a1 : A.na ≠ A.cd := ne_of_get h.na h.cd nofun
  have a3 : A.va ≠ A.cd := ne_of_get h.va h.cd fun q => by unfold ctl valD at q; cases q
  have b1 := h.bva
  have b2 := h.bna
  have b3 := h.bcd
  refine ⟨fun j u e => ?_, fun k hk => h.gnew k (Nat.le_of_succ_le hk), ?_, ?_, upd_eq _ _ _, ?_, h.gva, h.gna, h.gcd, h.gnew _ (Nat.le_refl _), Nat.ne_of_lt b2, h.hx, h.ln, Nat.lt_succ_of_lt b1, Nat.lt_succ_of_lt b2, Nat.lt_succ_of_lt b3, Nat.lt_succ_self _⟩
  · rw [upd_ne _ _ _ _ (gne e h.gcd), new_ne _ _ _ (Nat.ne_of_lt (h.ltG e))]; exact h.ext _ _ e
  · rw [upd_ne _ _ _ _ a3, new_ne _ _ _ (Nat.ne_of_lt b1)]; exact h.va
  · rw [upd_ne _ _ _ _ a1, new_ne _ _ _ (Nat.ne_of_lt b2)]; exact h.na
  · rw [upd_ne _ _ _ _ (Nat.ne_of_gt b3), new_eq]; rfl
end
structure At (A : RA) (F : Fl) (s : RS) (p : Nat) (H : MH) : Prop where
  flat : attr (PgC lf3 lg3) H (.ref A.r) 6013346164 = some (.ref A.fl)
  values : attr (PgC lf3 lg3) H (.ref A.r) 411635780248947 = some (.ref A.va)
  worth : attr (PgC lf3 lg3) H (.ref A.r) 27052967330930716518 = some (.fn 1659549907034316584678504)
  bits : attr (PgC lf3 lg3) H (.ref A.r) 5946045555 = some (.int 16)
  control : attr (PgC lf3 lg3) H (.ref A.r) 100046136923025260 = some (.ref A.co)
  notes : attr (PgC lf3 lg3) H (.ref A.r) 1573827929459 = some (.ref A.na)
  pile : attr (PgC lf3 lg3) H (.ref A.co) 6180924517 = some (.ref p)
  most : attr (PgC lf3 lg3) H (.ref A.co) 6130987892 = some (.int 20)
  rows : attr (PgC lf3 lg3) H (.ref A.fl) 6214874995 = some (.ref A.ra)
  places : attr (PgC lf3 lg3) H (.ref A.fl) 405085769393523 = some (.ref A.pa)
  mw : ∀ (n d : Nat) (as : List MX) (L : Loc), kme (PgC lf3 lg3) n d 1612482507880 as L (.ref A.r, H) = (evs (ev (PgC lf3 lg3) n d) as L H).bind (kfn (PgC lf3 lg3) n d 196254634976314992399582029673955626514985301736485678804054381246074043110747630893076508655744927425992349348968 A.r)
  mh : ∀ (n d : Nat) (as : List MX) (L : Loc), kme (PgC lf3 lg3) n d 1612364868709 as L (.ref A.r, H) = (evs (ev (PgC lf3 lg3) n d) as L H).bind (kfn (PgC lf3 lg3) n d 196254634976314992399582029673955626514985301736485678804054381246074043110747630893076508655744927425992231709797 A.r)
  mv : ∀ (n d : Nat) (as : List MX) (L : Loc), kme (PgC lf3 lg3) n d 29661483944662927586511842012517 as L (.ref A.r, H) = (evs (ev (PgC lf3 lg3) n d) as L H).bind (kfn (PgC lf3 lg3) n d 196254634976314992399582029673955626514985301736485678804054381246074043110747630922737992600407855010891708853605 A.r)
  ms : ∀ (n d : Nat) (as : List MX) (L : Loc), kme (PgC lf3 lg3) n d 1595386327653 as L (.ref A.r, H) = (evs (ev (PgC lf3 lg3) n d) as L H).bind (kfn (PgC lf3 lg3) n d 196254634976314992399582029673955626514985301736485678804054381246074043110747630893076508655744927425975253168741 A.r)
  mg : ∀ (n d : Nat) (as : List MX) (L : Loc), kme (PgC lf3 lg3) n d 92015 as L (.ref A.r, H) = (evs (ev (PgC lf3 lg3) n d) as L H).bind (kfn (PgC lf3 lg3) n d 196254634976314992399582029673955626514985301736485678804054381246074043110747630893076508655744927424379866933103 A.r)
  mp : ∀ (n d : Nat) (as : List MX) (L : Loc), kme (PgC lf3 lg3) n d 388610526637668 as L (.ref p, H) = (evs (ev (PgC lf3 lg3) n d) as L H).bind (kml p 388610526637668)
  mn : ∀ (n d : Nat) (as : List MX) (L : Loc), kme (PgC lf3 lg3) n d 388610526637668 as L (.ref A.na, H) = (evs (ev (PgC lf3 lg3) n d) as L H).bind (kml A.na 388610526637668)
  md : ∀ (n d : Nat) (as : List MX) (L : Loc), kme (PgC lf3 lg3) n d 23553396 as L (.ref A.va, H) = (evs (ev (PgC lf3 lg3) n d) as L H).bind (kmd A.va 23553396)
  pi : H.get p = some (.list (pmv s.pile))
  na : H.get A.na = some (.list s.notes)
  va : H.get A.va = some (.dict [(.str 344, .int s.x)])
  ra : H.get A.ra = some (.list F.mv)
  pa : H.get A.pa = some (.dict F.places)
theorem instA {H : MH} {k d c : Nat} {es : List (MV × MV)} (h1 : H.get k = some (.inst c d)) (h2 : H.get d = some (.dict es)) : instAt H (.ref k) = some (c, d, es) := by
  show (H.get k).bind _ = _
  rw [h1]
  show (H.get d).bind _ = _
  rw [h2]
  rfl
theorem atI {H : MH} {P : Pg} {k d c x : Nat} {es : List (MV × MV)} {v : MV} (h1 : H.get k = some (.inst c d)) (h2 : H.get d = some (.dict es)) (h3 : okKey (.str x) es = true) (h4 : P.atr c x = true) (h5 : dGet (.str x) es = some v) (h6 : noBi v = true) : attr P H (.ref k) x = some v := by
  unfold attr
  rw [instA h1 h2]
  show katt P k x (c, d, es) = _
  rw [katt, if_pos h3, if_pos h4, h5]
  exact if_pos h6
theorem meI {H : MH} {P : Pg} {n k d c x f e : Nat} {es : List (MV × MV)} {as : List MX} {L : Loc} (h1 : H.get k = some (.inst c e)) (h2 : H.get e = some (.dict es)) (h3 : okKey (.str x) es = true) (h5 : dGet (.str x) es = none) (h6 : P.meth c x = some f) (h7 : (P.fns f).isSome = true) : kme P n d x as L (.ref k, H) = (evs (ev P n d) as L H).bind (kfn P n d f k) := by
  show (H.get k).bind _ = _
  rw [h1]
  show (Option.bind ((H.get e).bind _) _) = _
  rw [h2]
  show (if okKey (.str x) es = true ∧ dGet (.str x) es = none then (P.meth c x).bind (kmm P n d as L k H) else none) = _
  rw [if_pos ⟨h3, h5⟩, h6]
  exact if_pos h7
theorem meL {H : MH} {P : Pg} {n k d x : Nat} {vs : List MV} {as : List MX} {L : Loc} (h1 : H.get k = some (.list vs)) : kme P n d x as L (.ref k, H) = (evs (ev P n d) as L H).bind (kml k x) := by
  show (H.get k).bind _ = _
  rw [h1]
  rfl
theorem meD {H : MH} {P : Pg} {n k d x : Nat} {vs : List (MV × MV)} {as : List MX} {L : Loc} (h1 : H.get k = some (.dict vs)) : kme P n d x as L (.ref k, H) = (evs (ev P n d) as L H).bind (kmd k x) := by
  show (H.get k).bind _ = _
  rw [h1]
  rfl
theorem St.at {G : Fz} {A : RA} {F : Fl} {p : Nat} {s : RS} {H : MH} (h : St G A p s H) (f : RFix G A F) : At A F s p H := by
  have r := h.ext _ _ f.r
  have rd := h.ext _ _ f.rd
  have co := h.ext _ _ f.co
  have fl := h.ext _ _ f.fl
  have fd := h.ext _ _ f.fd
  exact ⟨atI r rd rfl rfl rfl rfl, atI r rd rfl rfl rfl rfl, atI r rd rfl rfl rfl rfl, atI r rd rfl rfl rfl rfl, atI r rd rfl rfl rfl rfl, atI r rd rfl rfl rfl rfl,
    atI co h.cd rfl rfl rfl rfl, atI co h.cd rfl rfl rfl rfl, atI fl fd rfl rfl rfl rfl, atI fl fd rfl rfl rfl rfl,
    fun _ _ _ _ => meI r rd rfl rfl rfl rfl, fun _ _ _ _ => meI r rd rfl rfl rfl rfl, fun _ _ _ _ => meI r rd rfl rfl rfl rfl, fun _ _ _ _ => meI r rd rfl rfl rfl rfl, fun _ _ _ _ => meI r rd rfl rfl rfl rfl,
    fun _ _ _ _ => meL h.pi, fun _ _ _ _ => meL h.na, fun _ _ _ _ => meD h.va, h.pi, h.na, h.va, h.ext _ _ f.ra, h.ext _ _ f.pa⟩
end Mn.Mg
end
section
set_option maxRecDepth 100000
namespace Mn.Mg
noncomputable def nt (w : Nat) (y : Int) : MV := .tup [.str w, .int y]
noncomputable def placeF (F : Fl) (n : Int) : Option Nat := match dGet (.int n) F.places with
  | some (.int (.ofNat a)) => some a
  | _ => none
noncomputable def oneRow (F : Fl) (at_ : Nat) (s : RS) : Row → Option (Nat × RS)
  | .let_ k => some (at_ + 1, { s with x := Int.fmod (3 * s.x + k) 7 })
  | .rem w => if s.notes.length + 1 < 1000 then some (at_ + 1, { s with notes := s.notes ++ [nt w s.x] }) else none
  | .sub n => match s.pile with
    | none => (placeF F n).bind fun a => some (a, { s with pile := some (at_ + 1) })
    | some _ => none
  | .ret => match s.pile with
    | some a => some (a, { s with pile := none })
    | none => none
  | .on_ _ gs => (gs[(Int.fmod s.x 3).toNat]?).bind fun n => (placeF F n).bind fun a => some (a, s)
  | .end_ => none
section
variable {G : Fz} {A : RA} {F : Fl} {p : Nat} {s : RS} {H : MH}
theorem wt_ok (va : Nat) (x k : Int) (hx : 0 ≤ x ∧ x < 7) (h : H.get va = some (.dict [(.str 344, .int x)])) : ∀ n d : Nat, (ev (PgC lf3 lg3) (n + 60) (d + 5)).c (.fn 1659549907034316584678504) [.tup [.str 6248821358, .int k], .ref va] H = some (.int (Int.fmod (3 * x + k) 7), H) := by
  intro n d
  rw [ec_fn, callF_ _ _ _ f3_F__law_worth rfl rfl]
  have b1 : x.natAbs < 1073741824 := by omega
  simp only [zct,zcv,zcw,zcx,zcy,zcz,zcB,zcC,zbP,zcD,zcE,zcF,zcG,zbQ,zcH,zcI,zcJ,zcK,zbR,zeA,zeB,zeC,zeD,zcL,zcM,zcP,zcS,zbS,zbT,zcU,zcW,zcX,zcY,zcZ,zbU,zc0,zf0,zf1,zbW,zbX,zbZ,zeF,zeG,zc1,zc2,zb2,zb3,zb4,zb5,zc3,zc4,zeH,zeI,zeJ,zb6,zca,zcc,zcd,zce,zc7,zeN,zeO,zda,zcf,zeP,zeQ,zdb,zeR,zeT,zeU,zeV,zeW,zeX,zdd,zeY,zeZ,ze0,zde,ze1,zdf,zdg,ze2,zdh,ze3,ze4,ze5,zdi,ze6,ze7,ze8,zfa,zfb,zfc,zdl,zdm,zdn,zdo,zdp,zci,zdq,zf2,zdr,zfe,zds,zff,zfg,zfh,zfi,zfj,zfk,zdt,zdu,zdv,zfl,zfm,zdw,zfn,zdx,zfq,zfr,zf3,zbE,zaX,zae,zaY,zaZ,zbk,zbv,zax,zbl,zao,zaK,za8,zbm,za9,za0,zba,zbb,zaf,zap,zaq,zaa,zar,zaL,zbF,za1,zag,za2,za3,zbn,zbw,zay,zbo,zas,zaM,zbc,zbp,zbd,za4,zbe,zbf,zah,zbG,zbj,zcj,zck,zbx,zaS,zaW,zbH,zbI,zcl,zby,zcm,zdy,zdz,zcn,zco,zfs,zft,zdA,zdB,zdC,zfv,zfw,zfx,zfy,zfz,zdD,zdF,zdG,zdH,zfA,zdI,zdJ,zdL,zdM,zfB,zfC,zfD,zdO,zcp,zfE,zdP,zdQ,zdR,zdS,zdT,zdV,zdW,zcq,zbJ,zbK,zdX,zdY,zfF,zd2,zfG,zfJ,zfK,zd5,zd6,zd7,zd8,zd9,zfL,zfM,zfN,zfO,zfP,zeb,zec,zfQ,zed,zee,zef,zeg,zeh,zcr,zei,zej,zem,zfR,zen,zfS,zfT,zfV,zfX,zfY,zeo,zep,zer,zfZ,zes,zeu,zew,zex,zez,zbr,zam,zbs,zbt,zbM,zcs,zaT,zbN,zaG,za7,F_put_all,F_gather,F_flatten,zbu,zbB,zbC,zan,zaH,zaI,zad,zaJ,F_FlowRun_go,if_true,if_false,zf4,zf5,cond_true,cond_false,List.zip,List.zipWith,List.length_cons,List.length_nil,Option.isSome_some,Bool.false_eq_true,reduceIte,reduceCtorEq,Nat.reduceEqDiff,Nat.reduceAdd,Nat.reduceLeDiff,Int.cast_ofNat_Int,decide_true,decide_false,Bool.and_true,Bool.true_and,Bool.and_false,Bool.false_and,Int.sub_zero,Int.reduceNeg,Nat.reduceLT,and_self,and_true,true_and,Bool.false_or,Bool.or_false,Bool.true_or,Bool.or_true,Bool.not_true,Bool.not_false,Int.natAbs_neg,Int.reduceSub,Int.reduceAdd,Int.reduceToNat,Int.natAbs_zero,Int.natAbs_one,Int.reduceLT,Int.reduceLE,Int.reduceGE,Int.reduceGT,decide_eq_true_eq,List.getElem?_cons_zero,List.getElem?_cons_succ,Nat.reduceSub,Int.reduceMul,Nat.reduceBEq,Nat.reducePow,Int.reducePow,and_false,false_and,eq_self,zbO,zbD _ _ zbx,IX,lim,F__law_worth3,Row.mv,h,b1,Int.reduceEq,okKey,isKey,sameKind,List.all,dGet,keyEq,bq]
theorem wr_ok (va : Nat) (x : Int) (hx : 0 ≤ x ∧ x < 7) (h : H.get va = some (.dict [(.str 344, .int x)])) : ∀ n d : Nat, (ev (PgC lf3 lg3) (n + 60) (d + 5)).c (.fn 1659549907034316584678504) [.tup [.str 6214218612], .ref va] H = some (.int (1 + Int.fmod x 3), H) := by
  intro n d
  rw [ec_fn, callF_ _ _ _ f3_F__law_worth rfl rfl]
  simp only [zct,zcv,zcw,zcx,zcy,zcz,zcB,zcC,zbP,zcD,zcE,zcF,zcG,zbQ,zcH,zcI,zcJ,zcK,zbR,zeA,zeB,zeC,zeD,zcL,zcM,zcP,zcS,zbS,zbT,zcU,zcW,zcX,zcY,zcZ,zbU,zc0,zf0,zf1,zbW,zbX,zbZ,zeF,zeG,zc1,zc2,zb2,zb3,zb4,zb5,zc3,zc4,zeH,zeI,zeJ,zb6,zca,zcc,zcd,zce,zc7,zeN,zeO,zda,zcf,zeP,zeQ,zdb,zeR,zeT,zeU,zeV,zeW,zeX,zdd,zeY,zeZ,ze0,zde,ze1,zdf,zdg,ze2,zdh,ze3,ze4,ze5,zdi,ze6,ze7,ze8,zfa,zfb,zfc,zdl,zdm,zdn,zdo,zdp,zci,zdq,zf2,zdr,zfe,zds,zff,zfg,zfh,zfi,zfj,zfk,zdt,zdu,zdv,zfl,zfm,zdw,zfn,zdx,zfq,zfr,zf3,zbE,zaX,zae,zaY,zaZ,zbk,zbv,zax,zbl,zao,zaK,za8,zbm,za9,za0,zba,zbb,zaf,zap,zaq,zaa,zar,zaL,zbF,za1,zag,za2,za3,zbn,zbw,zay,zbo,zas,zaM,zbc,zbp,zbd,za4,zbe,zbf,zah,zbG,zbj,zcj,zck,zbx,zaS,zaW,zbH,zbI,zcl,zby,zcm,zdy,zdz,zcn,zco,zfs,zft,zdA,zdB,zdC,zfv,zfw,zfx,zfy,zfz,zdD,zdF,zdG,zdH,zfA,zdI,zdJ,zdL,zdM,zfB,zfC,zfD,zdO,zcp,zfE,zdP,zdQ,zdR,zdS,zdT,zdV,zdW,zcq,zbJ,zbK,zdX,zdY,zfF,zd2,zfG,zfJ,zfK,zd5,zd6,zd7,zd8,zd9,zfL,zfM,zfN,zfO,zfP,zeb,zec,zfQ,zed,zee,zef,zeg,zeh,zcr,zei,zej,zem,zfR,zen,zfS,zfT,zfV,zfX,zfY,zeo,zep,zer,zfZ,zes,zeu,zew,zex,zez,zbr,zam,zbs,zbt,zbM,zcs,zaT,zbN,zaG,za7,F_put_all,F_gather,F_flatten,zbu,zbB,zbC,zan,zaH,zaI,zad,zaJ,F_FlowRun_go,if_true,if_false,zf4,zf5,cond_true,cond_false,List.zip,List.zipWith,List.length_cons,List.length_nil,Option.isSome_some,Bool.false_eq_true,reduceIte,reduceCtorEq,Nat.reduceEqDiff,Nat.reduceAdd,Nat.reduceLeDiff,Int.cast_ofNat_Int,decide_true,decide_false,Bool.and_true,Bool.true_and,Bool.and_false,Bool.false_and,Int.sub_zero,Int.reduceNeg,Nat.reduceLT,and_self,and_true,true_and,Bool.false_or,Bool.or_false,Bool.true_or,Bool.or_true,Bool.not_true,Bool.not_false,Int.natAbs_neg,Int.reduceSub,Int.reduceAdd,Int.reduceToNat,Int.natAbs_zero,Int.natAbs_one,Int.reduceLT,Int.reduceLE,Int.reduceGE,Int.reduceGT,decide_eq_true_eq,List.getElem?_cons_zero,List.getElem?_cons_succ,Nat.reduceSub,Int.reduceMul,Nat.reduceBEq,Nat.reducePow,Int.reducePow,and_false,false_and,eq_self,zbO,zbD _ _ zbx,IX,lim,F__law_worth3,Row.mv,h,Int.reduceEq,okKey,isKey,sameKind,List.all,dGet,keyEq,bq]
theorem worth_ok (h : Sx G A s H) (f : RFix G A F) (t : MV) {v : Int} (q : ∀ n d : Nat, (ev (PgC lf3 lg3) (n + 60) (d + 5)).c (.fn 1659549907034316584678504) [t, .ref A.va] H = some (.int v, H)) :
    ∀ n d : Nat, (ev (PgC lf3 lg3) (n + 80) (d + 8)).c (.fn 196254634976314992399582029673955626514985301736485678804054381246074043110747630893076508655744927425992349348968) [.ref A.r, t] H = some (.int v, H) := by
  intro n d
  rw [ec_fn, callF_ _ _ _ zap rfl rfl]
  obtain ⟨p, h'⟩ := id h
  have t := h'.at f
  simp only [zct,zcv,zcw,zcx,zcy,zcz,zcB,zcC,zbP,zcD,zcE,zcF,zcG,zbQ,zcH,zcI,zcJ,zcK,zbR,zeA,zeB,zeC,zeD,zcL,zcM,zcP,zcS,zbS,zbT,zcU,zcW,zcX,zcY,zcZ,zbU,zc0,zf0,zf1,zbW,zbX,zbZ,zeF,zeG,zc1,zc2,zb2,zb3,zb4,zb5,zc3,zc4,zeH,zeI,zeJ,zb6,zca,zcc,zcd,zce,zc7,zeN,zeO,zda,zcf,zeP,zeQ,zdb,zeR,zeT,zeU,zeV,zeW,zeX,zdd,zeY,zeZ,ze0,zde,ze1,zdf,zdg,ze2,zdh,ze3,ze4,ze5,zdi,ze6,ze7,ze8,zfa,zfb,zfc,zdl,zdm,zdn,zdo,zdp,zci,zdq,zf2,zdr,zfe,zds,zff,zfg,zfh,zfi,zfj,zfk,zdt,zdu,zdv,zfl,zfm,zdw,zfn,zdx,zfq,zfr,zf3,zbE,zaX,zae,zaY,zaZ,zbk,zbv,zax,zbl,zao,zaK,za8,zbm,za9,za0,zba,zbb,zaf,zap,zaq,zaa,zar,zaL,zbF,za1,zag,za2,za3,zbn,zbw,zay,zbo,zas,zaM,zbc,zbp,zbd,za4,zbe,zbf,zah,zbG,zbj,zcj,zck,zbx,zaS,zaW,zbH,zbI,zcl,zby,zcm,zdy,zdz,zcn,zco,zfs,zft,zdA,zdB,zdC,zfv,zfw,zfx,zfy,zfz,zdD,zdF,zdG,zdH,zfA,zdI,zdJ,zdL,zdM,zfB,zfC,zfD,zdO,zcp,zfE,zdP,zdQ,zdR,zdS,zdT,zdV,zdW,zcq,zbJ,zbK,zdX,zdY,zfF,zd2,zfG,zfJ,zfK,zd5,zd6,zd7,zd8,zd9,zfL,zfM,zfN,zfO,zfP,zeb,zec,zfQ,zed,zee,zef,zeg,zeh,zcr,zei,zej,zem,zfR,zen,zfS,zfT,zfV,zfX,zfY,zeo,zep,zer,zfZ,zes,zeu,zew,zex,zez,zbr,zam,zbs,zbt,zbM,zcs,zaT,zbN,zaG,za7,F_put_all,F_gather,F_flatten,zbu,zbB,zbC,zan,zaH,zaI,zad,zaJ,F_FlowRun_go,if_true,if_false,zf4,zf5,cond_true,cond_false,List.zip,List.zipWith,List.length_cons,List.length_nil,Option.isSome_some,Bool.false_eq_true,reduceIte,reduceCtorEq,Nat.reduceEqDiff,Nat.reduceAdd,Nat.reduceLeDiff,Int.cast_ofNat_Int,decide_true,decide_false,Bool.and_true,Bool.true_and,Bool.and_false,Bool.false_and,Int.sub_zero,Int.reduceNeg,Nat.reduceLT,and_self,and_true,true_and,Bool.false_or,Bool.or_false,Bool.true_or,Bool.or_true,Bool.not_true,Bool.not_false,Int.natAbs_neg,Int.reduceSub,Int.reduceAdd,Int.reduceToNat,Int.natAbs_zero,Int.natAbs_one,Int.reduceLT,Int.reduceLE,Int.reduceGE,Int.reduceGT,decide_eq_true_eq,List.getElem?_cons_zero,List.getElem?_cons_succ,Nat.reduceSub,Int.reduceMul,Nat.reduceBEq,Nat.reducePow,Int.reducePow,and_false,false_and,eq_self,zbO,zbD _ _ zbx,IX,lim,F__law_worth3,Row.mv,t.worth,t.values,q,f3_F__law_worth]
theorem whole3_ok (h : Sx G A s H) (f : RFix G A F) :
    ∀ n d : Nat, (ev (PgC lf3 lg3) (n + 120) (d + 10)).c (.fn 196254634976314992399582029673955626514985301736485678804054381246074043110747630893076508655744927425992231709797) [.ref A.r, .tup [.str 6214218612]] H = some (.int (1 + Int.fmod s.x 3), H) := by
  intro n d
  rw [ec_fn, callF_ _ _ _ zaq rfl rfl]
  obtain ⟨p, h'⟩ := id h
  have t := h'.at f
  have n1 := worth_ok h f _ (wr_ok A.va s.x h'.hx h'.va)
  have b := fmod_range s.x 3 (by decide)
  have n2 : ∀ n d H, (ev (PgC lf3 lg3) (n + 40) (d + 4)).c (.fn 27050993673148788582) [.int (1 + Int.fmod s.x 3), .int 16] H = some (.int (1 + Int.fmod s.x 3), H) := fun n d H => whole_ok n d _ (by omega) (by omega) H
  simp only [zct,zcv,zcw,zcx,zcy,zcz,zcB,zcC,zbP,zcD,zcE,zcF,zcG,zbQ,zcH,zcI,zcJ,zcK,zbR,zeA,zeB,zeC,zeD,zcL,zcM,zcP,zcS,zbS,zbT,zcU,zcW,zcX,zcY,zcZ,zbU,zc0,zf0,zf1,zbW,zbX,zbZ,zeF,zeG,zc1,zc2,zb2,zb3,zb4,zb5,zc3,zc4,zeH,zeI,zeJ,zb6,zca,zcc,zcd,zce,zc7,zeN,zeO,zda,zcf,zeP,zeQ,zdb,zeR,zeT,zeU,zeV,zeW,zeX,zdd,zeY,zeZ,ze0,zde,ze1,zdf,zdg,ze2,zdh,ze3,ze4,ze5,zdi,ze6,ze7,ze8,zfa,zfb,zfc,zdl,zdm,zdn,zdo,zdp,zci,zdq,zf2,zdr,zfe,zds,zff,zfg,zfh,zfi,zfj,zfk,zdt,zdu,zdv,zfl,zfm,zdw,zfn,zdx,zfq,zfr,zf3,zbE,zaX,zae,zaY,zaZ,zbk,zbv,zax,zbl,zao,zaK,za8,zbm,za9,za0,zba,zbb,zaf,zap,zaq,zaa,zar,zaL,zbF,za1,zag,za2,za3,zbn,zbw,zay,zbo,zas,zaM,zbc,zbp,zbd,za4,zbe,zbf,zah,zbG,zbj,zcj,zck,zbx,zaS,zaW,zbH,zbI,zcl,zby,zcm,zdy,zdz,zcn,zco,zfs,zft,zdA,zdB,zdC,zfv,zfw,zfx,zfy,zfz,zdD,zdF,zdG,zdH,zfA,zdI,zdJ,zdL,zdM,zfB,zfC,zfD,zdO,zcp,zfE,zdP,zdQ,zdR,zdS,zdT,zdV,zdW,zcq,zbJ,zbK,zdX,zdY,zfF,zd2,zfG,zfJ,zfK,zd5,zd6,zd7,zd8,zd9,zfL,zfM,zfN,zfO,zfP,zeb,zec,zfQ,zed,zee,zef,zeg,zeh,zcr,zei,zej,zem,zfR,zen,zfS,zfT,zfV,zfX,zfY,zeo,zep,zer,zfZ,zes,zeu,zew,zex,zez,zbr,zam,zbs,zbt,zbM,zcs,zaT,zbN,zaG,za7,F_put_all,F_gather,F_flatten,zbu,zbB,zbC,zan,zaH,zaI,zad,zaJ,F_FlowRun_go,if_true,if_false,zf4,zf5,cond_true,cond_false,List.zip,List.zipWith,List.length_cons,List.length_nil,Option.isSome_some,Bool.false_eq_true,reduceIte,reduceCtorEq,Nat.reduceEqDiff,Nat.reduceAdd,Nat.reduceLeDiff,Int.cast_ofNat_Int,decide_true,decide_false,Bool.and_true,Bool.true_and,Bool.and_false,Bool.false_and,Int.sub_zero,Int.reduceNeg,Nat.reduceLT,and_self,and_true,true_and,Bool.false_or,Bool.or_false,Bool.true_or,Bool.or_true,Bool.not_true,Bool.not_false,Int.natAbs_neg,Int.reduceSub,Int.reduceAdd,Int.reduceToNat,Int.natAbs_zero,Int.natAbs_one,Int.reduceLT,Int.reduceLE,Int.reduceGE,Int.reduceGT,decide_eq_true_eq,List.getElem?_cons_zero,List.getElem?_cons_succ,Nat.reduceSub,Int.reduceMul,Nat.reduceBEq,Nat.reducePow,Int.reducePow,and_false,false_and,eq_self,zbO,zbD _ _ zbx,IX,lim,F__law_worth3,Row.mv,t.mw,t.bits,n1,n2]
theorem value_ok (h : Sx G A s H) (f : RFix G A F) : ∀ n d : Nat, (ev (PgC lf3 lg3) (n + 20) (d + 3)).c (.fn 196254634976314992399582029673955626514985301736485678804054381246074043110747630922737992600407855010891708853605) [.ref A.r, .str 344] H = some (.int s.x, H) := by
  intro n d
  rw [ec_fn, callF_ _ _ _ zaa rfl rfl]
  obtain ⟨p, h'⟩ := id h
  have t := h'.at f
  simp only [zct,zcv,zcw,zcx,zcy,zcz,zcB,zcC,zbP,zcD,zcE,zcF,zcG,zbQ,zcH,zcI,zcJ,zcK,zbR,zeA,zeB,zeC,zeD,zcL,zcM,zcP,zcS,zbS,zbT,zcU,zcW,zcX,zcY,zcZ,zbU,zc0,zf0,zf1,zbW,zbX,zbZ,zeF,zeG,zc1,zc2,zb2,zb3,zb4,zb5,zc3,zc4,zeH,zeI,zeJ,zb6,zca,zcc,zcd,zce,zc7,zeN,zeO,zda,zcf,zeP,zeQ,zdb,zeR,zeT,zeU,zeV,zeW,zeX,zdd,zeY,zeZ,ze0,zde,ze1,zdf,zdg,ze2,zdh,ze3,ze4,ze5,zdi,ze6,ze7,ze8,zfa,zfb,zfc,zdl,zdm,zdn,zdo,zdp,zci,zdq,zf2,zdr,zfe,zds,zff,zfg,zfh,zfi,zfj,zfk,zdt,zdu,zdv,zfl,zfm,zdw,zfn,zdx,zfq,zfr,zf3,zbE,zaX,zae,zaY,zaZ,zbk,zbv,zax,zbl,zao,zaK,za8,zbm,za9,za0,zba,zbb,zaf,zap,zaq,zaa,zar,zaL,zbF,za1,zag,za2,za3,zbn,zbw,zay,zbo,zas,zaM,zbc,zbp,zbd,za4,zbe,zbf,zah,zbG,zbj,zcj,zck,zbx,zaS,zaW,zbH,zbI,zcl,zby,zcm,zdy,zdz,zcn,zco,zfs,zft,zdA,zdB,zdC,zfv,zfw,zfx,zfy,zfz,zdD,zdF,zdG,zdH,zfA,zdI,zdJ,zdL,zdM,zfB,zfC,zfD,zdO,zcp,zfE,zdP,zdQ,zdR,zdS,zdT,zdV,zdW,zcq,zbJ,zbK,zdX,zdY,zfF,zd2,zfG,zfJ,zfK,zd5,zd6,zd7,zd8,zd9,zfL,zfM,zfN,zfO,zfP,zeb,zec,zfQ,zed,zee,zef,zeg,zeh,zcr,zei,zej,zem,zfR,zen,zfS,zfT,zfV,zfX,zfY,zeo,zep,zer,zfZ,zes,zeu,zew,zex,zez,zbr,zam,zbs,zbt,zbM,zcs,zaT,zbN,zaG,za7,F_put_all,F_gather,F_flatten,zbu,zbB,zbC,zan,zaH,zaI,zad,zaJ,F_FlowRun_go,if_true,if_false,zf4,zf5,cond_true,cond_false,List.zip,List.zipWith,List.length_cons,List.length_nil,Option.isSome_some,Bool.false_eq_true,reduceIte,reduceCtorEq,Nat.reduceEqDiff,Nat.reduceAdd,Nat.reduceLeDiff,Int.cast_ofNat_Int,decide_true,decide_false,Bool.and_true,Bool.true_and,Bool.and_false,Bool.false_and,Int.sub_zero,Int.reduceNeg,Nat.reduceLT,and_self,and_true,true_and,Bool.false_or,Bool.or_false,Bool.true_or,Bool.or_true,Bool.not_true,Bool.not_false,Int.natAbs_neg,Int.reduceSub,Int.reduceAdd,Int.reduceToNat,Int.natAbs_zero,Int.natAbs_one,Int.reduceLT,Int.reduceLE,Int.reduceGE,Int.reduceGT,decide_eq_true_eq,List.getElem?_cons_zero,List.getElem?_cons_succ,Nat.reduceSub,Int.reduceMul,Nat.reduceBEq,Nat.reducePow,Int.reducePow,and_false,false_and,eq_self,zbO,zbD _ _ zbx,IX,lim,F__law_worth3,Row.mv,t.values,t.md,t.va,okKey,isKey,sameKind,List.all,dGet,keyEq,bq,Option.getD_some]
theorem storeX (h : Sx G A s H) (f : RFix G A F) (v : Int) (hv : 0 ≤ v ∧ v < 7) :
    ∃ H', (∀ n d : Nat, (ev (PgC lf3 lg3) (n + 20) (d + 3)).c (.fn 196254634976314992399582029673955626514985301736485678804054381246074043110747630893076508655744927425975253168741) [.ref A.r, .str 344, .int v] H = some (.none, H')) ∧ Sx G A { s with x := v } H' := by
  obtain ⟨p, h'⟩ := id h
  refine ⟨_, fun n d => ?_, p, h'.store v hv⟩
  rw [ec_fn, callF_ _ _ _ zar rfl rfl]
  have t := h'.at f
  simp only [zct,zcv,zcw,zcx,zcy,zcz,zcB,zcC,zbP,zcD,zcE,zcF,zcG,zbQ,zcH,zcI,zcJ,zcK,zbR,zeA,zeB,zeC,zeD,zcL,zcM,zcP,zcS,zbS,zbT,zcU,zcW,zcX,zcY,zcZ,zbU,zc0,zf0,zf1,zbW,zbX,zbZ,zeF,zeG,zc1,zc2,zb2,zb3,zb4,zb5,zc3,zc4,zeH,zeI,zeJ,zb6,zca,zcc,zcd,zce,zc7,zeN,zeO,zda,zcf,zeP,zeQ,zdb,zeR,zeT,zeU,zeV,zeW,zeX,zdd,zeY,zeZ,ze0,zde,ze1,zdf,zdg,ze2,zdh,ze3,ze4,ze5,zdi,ze6,ze7,ze8,zfa,zfb,zfc,zdl,zdm,zdn,zdo,zdp,zci,zdq,zf2,zdr,zfe,zds,zff,zfg,zfh,zfi,zfj,zfk,zdt,zdu,zdv,zfl,zfm,zdw,zfn,zdx,zfq,zfr,zf3,zbE,zaX,zae,zaY,zaZ,zbk,zbv,zax,zbl,zao,zaK,za8,zbm,za9,za0,zba,zbb,zaf,zap,zaq,zaa,zar,zaL,zbF,za1,zag,za2,za3,zbn,zbw,zay,zbo,zas,zaM,zbc,zbp,zbd,za4,zbe,zbf,zah,zbG,zbj,zcj,zck,zbx,zaS,zaW,zbH,zbI,zcl,zby,zcm,zdy,zdz,zcn,zco,zfs,zft,zdA,zdB,zdC,zfv,zfw,zfx,zfy,zfz,zdD,zdF,zdG,zdH,zfA,zdI,zdJ,zdL,zdM,zfB,zfC,zfD,zdO,zcp,zfE,zdP,zdQ,zdR,zdS,zdT,zdV,zdW,zcq,zbJ,zbK,zdX,zdY,zfF,zd2,zfG,zfJ,zfK,zd5,zd6,zd7,zd8,zd9,zfL,zfM,zfN,zfO,zfP,zeb,zec,zfQ,zed,zee,zef,zeg,zeh,zcr,zei,zej,zem,zfR,zen,zfS,zfT,zfV,zfX,zfY,zeo,zep,zer,zfZ,zes,zeu,zew,zex,zez,zbr,zam,zbs,zbt,zbM,zcs,zaT,zbN,zaG,za7,F_put_all,F_gather,F_flatten,zbu,zbB,zbC,zan,zaH,zaI,zad,zaJ,F_FlowRun_go,if_true,if_false,zf4,zf5,cond_true,cond_false,List.zip,List.zipWith,List.length_cons,List.length_nil,Option.isSome_some,Bool.false_eq_true,reduceIte,reduceCtorEq,Nat.reduceEqDiff,Nat.reduceAdd,Nat.reduceLeDiff,Int.cast_ofNat_Int,decide_true,decide_false,Bool.and_true,Bool.true_and,Bool.and_false,Bool.false_and,Int.sub_zero,Int.reduceNeg,Nat.reduceLT,and_self,and_true,true_and,Bool.false_or,Bool.or_false,Bool.true_or,Bool.or_true,Bool.not_true,Bool.not_false,Int.natAbs_neg,Int.reduceSub,Int.reduceAdd,Int.reduceToNat,Int.natAbs_zero,Int.natAbs_one,Int.reduceLT,Int.reduceLE,Int.reduceGE,Int.reduceGT,decide_eq_true_eq,List.getElem?_cons_zero,List.getElem?_cons_succ,Nat.reduceSub,Int.reduceMul,Nat.reduceBEq,Nat.reducePow,Int.reducePow,and_false,false_and,eq_self,zbO,zbD _ _ zbx,IX,lim,F__law_worth3,Row.mv,t.values,t.va,okKey,isKey,sameKind,List.all,dGet,keyEq,bq,dPut,valD]
theorem place_ok (h : Sx G A s H) (f : RFix G A F) (i : Int) {a : Nat} (q : placeF F i = some a) : ∀ n d : Nat, (ev (PgC lf3 lg3) (n + 40) (d + 3)).c (.fn 26547700982972641126) [.ref A.fl, .int i] H = some (.int a, H) := by
  intro n d
  rw [ec_fn, callF_ _ _ _ za0 rfl rfl]
  obtain ⟨p, h'⟩ := id h
  have t := h'.at f
  have hk := f.kp i
  have hq : dGet (.int i) F.places = some (.int a) := by
    unfold placeF at q
    split at q
    · rename_i b e; rw [e, ← Option.some.inj q]; rfl
    · cases q
  simp only [zct,zcv,zcw,zcx,zcy,zcz,zcB,zcC,zbP,zcD,zcE,zcF,zcG,zbQ,zcH,zcI,zcJ,zcK,zbR,zeA,zeB,zeC,zeD,zcL,zcM,zcP,zcS,zbS,zbT,zcU,zcW,zcX,zcY,zcZ,zbU,zc0,zf0,zf1,zbW,zbX,zbZ,zeF,zeG,zc1,zc2,zb2,zb3,zb4,zb5,zc3,zc4,zeH,zeI,zeJ,zb6,zca,zcc,zcd,zce,zc7,zeN,zeO,zda,zcf,zeP,zeQ,zdb,zeR,zeT,zeU,zeV,zeW,zeX,zdd,zeY,zeZ,ze0,zde,ze1,zdf,zdg,ze2,zdh,ze3,ze4,ze5,zdi,ze6,ze7,ze8,zfa,zfb,zfc,zdl,zdm,zdn,zdo,zdp,zci,zdq,zf2,zdr,zfe,zds,zff,zfg,zfh,zfi,zfj,zfk,zdt,zdu,zdv,zfl,zfm,zdw,zfn,zdx,zfq,zfr,zf3,zbE,zaX,zae,zaY,zaZ,zbk,zbv,zax,zbl,zao,zaK,za8,zbm,za9,za0,zba,zbb,zaf,zap,zaq,zaa,zar,zaL,zbF,za1,zag,za2,za3,zbn,zbw,zay,zbo,zas,zaM,zbc,zbp,zbd,za4,zbe,zbf,zah,zbG,zbj,zcj,zck,zbx,zaS,zaW,zbH,zbI,zcl,zby,zcm,zdy,zdz,zcn,zco,zfs,zft,zdA,zdB,zdC,zfv,zfw,zfx,zfy,zfz,zdD,zdF,zdG,zdH,zfA,zdI,zdJ,zdL,zdM,zfB,zfC,zfD,zdO,zcp,zfE,zdP,zdQ,zdR,zdS,zdT,zdV,zdW,zcq,zbJ,zbK,zdX,zdY,zfF,zd2,zfG,zfJ,zfK,zd5,zd6,zd7,zd8,zd9,zfL,zfM,zfN,zfO,zfP,zeb,zec,zfQ,zed,zee,zef,zeg,zeh,zcr,zei,zej,zem,zfR,zen,zfS,zfT,zfV,zfX,zfY,zeo,zep,zer,zfZ,zes,zeu,zew,zex,zez,zbr,zam,zbs,zbt,zbM,zcs,zaT,zbN,zaG,za7,F_put_all,F_gather,F_flatten,zbu,zbB,zbC,zan,zaH,zaI,zad,zaJ,F_FlowRun_go,if_true,if_false,zf4,zf5,cond_true,cond_false,List.zip,List.zipWith,List.length_cons,List.length_nil,Option.isSome_some,Bool.false_eq_true,reduceIte,reduceCtorEq,Nat.reduceEqDiff,Nat.reduceAdd,Nat.reduceLeDiff,Int.cast_ofNat_Int,decide_true,decide_false,Bool.and_true,Bool.true_and,Bool.and_false,Bool.false_and,Int.sub_zero,Int.reduceNeg,Nat.reduceLT,and_self,and_true,true_and,Bool.false_or,Bool.or_false,Bool.true_or,Bool.or_true,Bool.not_true,Bool.not_false,Int.natAbs_neg,Int.reduceSub,Int.reduceAdd,Int.reduceToNat,Int.natAbs_zero,Int.natAbs_one,Int.reduceLT,Int.reduceLE,Int.reduceGE,Int.reduceGT,decide_eq_true_eq,List.getElem?_cons_zero,List.getElem?_cons_succ,Nat.reduceSub,Int.reduceMul,Nat.reduceBEq,Nat.reducePow,Int.reducePow,and_false,false_and,eq_self,zbO,zbD _ _ zbx,IX,lim,F__law_worth3,Row.mv,t.places,t.pa,hk,hq]
theorem floor_s (k p : Nat) (H : MH) (h : H.get p = some (.list [.tup [.str 1405785167170, .int k]])) : ∀ n d : Nat, (ev (PgC lf3 lg3) (n + 80) (d + 2)).c (.fn 25827140487513861990) [.ref p] H = some (.int 1, H) := by
  intro n d
  rw [ec_fn, callF_ _ _ _ zaZ rfl rfl]
  simp only [zct,zcv,zcw,zcx,zcy,zcz,zcB,zcC,zbP,zcD,zcE,zcF,zcG,zbQ,zcH,zcI,zcJ,zcK,zbR,zeA,zeB,zeC,zeD,zcL,zcM,zcP,zcS,zbS,zbT,zcU,zcW,zcX,zcY,zcZ,zbU,zc0,zf0,zf1,zbW,zbX,zbZ,zeF,zeG,zc1,zc2,zb2,zb3,zb4,zb5,zc3,zc4,zeH,zeI,zeJ,zb6,zca,zcc,zcd,zce,zc7,zeN,zeO,zda,zcf,zeP,zeQ,zdb,zeR,zeT,zeU,zeV,zeW,zeX,zdd,zeY,zeZ,ze0,zde,ze1,zdf,zdg,ze2,zdh,ze3,ze4,ze5,zdi,ze6,ze7,ze8,zfa,zfb,zfc,zdl,zdm,zdn,zdo,zdp,zci,zdq,zf2,zdr,zfe,zds,zff,zfg,zfh,zfi,zfj,zfk,zdt,zdu,zdv,zfl,zfm,zdw,zfn,zdx,zfq,zfr,zf3,zbE,zaX,zae,zaY,zaZ,zbk,zbv,zax,zbl,zao,zaK,za8,zbm,za9,za0,zba,zbb,zaf,zap,zaq,zaa,zar,zaL,zbF,za1,zag,za2,za3,zbn,zbw,zay,zbo,zas,zaM,zbc,zbp,zbd,za4,zbe,zbf,zah,zbG,zbj,zcj,zck,zbx,zaS,zaW,zbH,zbI,zcl,zby,zcm,zdy,zdz,zcn,zco,zfs,zft,zdA,zdB,zdC,zfv,zfw,zfx,zfy,zfz,zdD,zdF,zdG,zdH,zfA,zdI,zdJ,zdL,zdM,zfB,zfC,zfD,zdO,zcp,zfE,zdP,zdQ,zdR,zdS,zdT,zdV,zdW,zcq,zbJ,zbK,zdX,zdY,zfF,zd2,zfG,zfJ,zfK,zd5,zd6,zd7,zd8,zd9,zfL,zfM,zfN,zfO,zfP,zeb,zec,zfQ,zed,zee,zef,zeg,zeh,zcr,zei,zej,zem,zfR,zen,zfS,zfT,zfV,zfX,zfY,zeo,zep,zer,zfZ,zes,zeu,zew,zex,zez,zbr,zam,zbs,zbt,zbM,zcs,zaT,zbN,zaG,za7,F_put_all,F_gather,F_flatten,zbu,zbB,zbC,zan,zaH,zaI,zad,zaJ,F_FlowRun_go,if_true,if_false,zf4,zf5,cond_true,cond_false,List.zip,List.zipWith,List.length_cons,List.length_nil,Option.isSome_some,Bool.false_eq_true,reduceIte,reduceCtorEq,Nat.reduceEqDiff,Nat.reduceAdd,Nat.reduceLeDiff,Int.cast_ofNat_Int,decide_true,decide_false,Bool.and_true,Bool.true_and,Bool.and_false,Bool.false_and,Int.sub_zero,Int.reduceNeg,Nat.reduceLT,and_self,and_true,true_and,Bool.false_or,Bool.or_false,Bool.true_or,Bool.or_true,Bool.not_true,Bool.not_false,Int.natAbs_neg,Int.reduceSub,Int.reduceAdd,Int.reduceToNat,Int.natAbs_zero,Int.natAbs_one,Int.reduceLT,Int.reduceLE,Int.reduceGE,Int.reduceGT,decide_eq_true_eq,List.getElem?_cons_zero,List.getElem?_cons_succ,Nat.reduceSub,Int.reduceMul,Nat.reduceBEq,Nat.reducePow,Int.reducePow,and_false,false_and,eq_self,zbO,zbD _ _ zbx,IX,lim,F__law_worth3,Row.mv,h,Int.toNat_one,Nat.zero_le,zbZ,show (1 : Int).toNat = 0 + 1 from rfl]
end
end Mn.Mg
end
section
set_option maxRecDepth 100000
namespace Mn.Mg
noncomputable def isFlow : Row → Bool
  | .let_ _ => false
  | .rem _ => false
  | .end_ => false
  | _ => true
noncomputable def isEnd : Row → Bool
  | .end_ => true
  | _ => false
noncomputable def goB (F : Fl) (at_ : Nat) (s : RS) (k : Nat → RS → Option (Int × RS)) : Option (Int × RS) := (F.rows[at_]?).bind fun p => if isEnd p.2 = true then some ((F.rows.length : Int), s) else (oneRow F at_ s p.2).bind fun a => k a.1 a.2
noncomputable def goF (F : Fl) : Nat → Nat → RS → Option (Int × RS)
  | 0, at_, s => some (if F.rows.length ≤ at_ then (at_ : Int) else -1, s)
  | k + 1, at_, s => goB F at_ s (goF F k)
noncomputable def fb (i : Nat) (b : List MS) : List MS := match b[i]? with
  | some (.for_ _ _ c) => c
  | _ => []
section
variable {G : Fz} {A : RA} {F : Fl} {p : Nat} {s : RS} {H : MH}
theorem cut_ok (h : St G A p s H) (f : RFix G A F) : ∀ n d : Nat, (ev (PgC lf3 lg3) (n + 40) (d + 2)).c (.fn 390831091446895) [.ref A.co, .int 0] H = some (.none, (H.new (.list [])).upd A.cd (ctl H.next)) := by
  intro n d
  rw [ec_fn, callF_ _ _ _ zbk rfl rfl]
  have t := h.at f
  have c1 := h.ext _ _ f.co
  have c2 := h.cd
  have pi := h.pi
  have n1 : A.co ≠ H.next := Nat.ne_of_lt (h.ltG f.co)
  have n2 : A.cd ≠ H.next := Nat.ne_of_lt h.bcd
  have b : (pmv s.pile).length ≤ 1048576 := by cases s.pile with | none => exact Nat.zero_le _ | some k => exact (by decide : 1 ≤ 1048576)
  have sa : setAttr (PgC lf3 lg3) (H.new (.list [])) (.ref A.co) 6180924517 (.ref H.next) = some ((H.new (.list [])).upd A.cd (ctl H.next)) := by
    unfold setAttr
    rw [instA ((new_ne _ _ _ n1).trans c1) ((new_ne _ _ _ n2).trans c2)]
    rfl
  generalize pmv s.pile = pm at pi b
  simp only [zct,zcv,zcw,zcx,zcy,zcz,zcB,zcC,zbP,zcD,zcE,zcF,zcG,zbQ,zcH,zcI,zcJ,zcK,zbR,zeA,zeB,zeC,zeD,zcL,zcM,zcP,zcS,zbS,zbT,zcU,zcW,zcX,zcY,zcZ,zbU,zc0,zf0,zf1,zbW,zbX,zbZ,zeF,zeG,zc1,zc2,zb2,zb3,zb4,zb5,zc3,zc4,zeH,zeI,zeJ,zb6,zca,zcc,zcd,zce,zc7,zeN,zeO,zda,zcf,zeP,zeQ,zdb,zeR,zeT,zeU,zeV,zeW,zeX,zdd,zeY,zeZ,ze0,zde,ze1,zdf,zdg,ze2,zdh,ze3,ze4,ze5,zdi,ze6,ze7,ze8,zfa,zfb,zfc,zdl,zdm,zdn,zdo,zdp,zci,zdq,zf2,zdr,zfe,zds,zff,zfg,zfh,zfi,zfj,zfk,zdt,zdu,zdv,zfl,zfm,zdw,zfn,zdx,zfq,zfr,zf3,zbE,zaX,zae,zaY,zaZ,zbk,zbv,zax,zbl,zao,zaK,za8,zbm,za9,za0,zba,zbb,zaf,zap,zaq,zaa,zar,zaL,zbF,za1,zag,za2,za3,zbn,zbw,zay,zbo,zas,zaM,zbc,zbp,zbd,za4,zbe,zbf,zah,zbG,zbj,zcj,zck,zbx,zaS,zaW,zbH,zbI,zcl,zby,zcm,zdy,zdz,zcn,zco,zfs,zft,zdA,zdB,zdC,zfv,zfw,zfx,zfy,zfz,zdD,zdF,zdG,zdH,zfA,zdI,zdJ,zdL,zdM,zfB,zfC,zfD,zdO,zcp,zfE,zdP,zdQ,zdR,zdS,zdT,zdV,zdW,zcq,zbJ,zbK,zdX,zdY,zfF,zd2,zfG,zfJ,zfK,zd5,zd6,zd7,zd8,zd9,zfL,zfM,zfN,zfO,zfP,zeb,zec,zfQ,zed,zee,zef,zeg,zeh,zcr,zei,zej,zem,zfR,zen,zfS,zfT,zfV,zfX,zfY,zeo,zep,zer,zfZ,zes,zeu,zew,zex,zez,zbr,zam,zbs,zbt,zbM,zcs,zaT,zbN,zaG,za7,F_put_all,F_gather,F_flatten,zbu,zbB,zbC,zan,zaH,zaI,zad,zaJ,F_FlowRun_go,if_true,if_false,zf4,zf5,cond_true,cond_false,List.zip,List.zipWith,List.length_cons,List.length_nil,Option.isSome_some,Bool.false_eq_true,reduceIte,reduceCtorEq,Nat.reduceEqDiff,Nat.reduceAdd,Nat.reduceLeDiff,Int.cast_ofNat_Int,decide_true,decide_false,Bool.and_true,Bool.true_and,Bool.and_false,Bool.false_and,Int.sub_zero,Int.reduceNeg,Nat.reduceLT,and_self,and_true,true_and,Bool.false_or,Bool.or_false,Bool.true_or,Bool.or_true,Bool.not_true,Bool.not_false,Int.natAbs_neg,Int.reduceSub,Int.reduceAdd,Int.reduceToNat,Int.natAbs_zero,Int.natAbs_one,Int.reduceLT,Int.reduceLE,Int.reduceGE,Int.reduceGT,decide_eq_true_eq,List.getElem?_cons_zero,List.getElem?_cons_succ,Nat.reduceSub,Int.reduceMul,Nat.reduceBEq,Nat.reducePow,Int.reducePow,and_false,false_and,eq_self,zbO,zbD _ _ zbx,IX,lim,Row.mv,pmv,t.pile,pi,b,Int.toNat_zero,List.take_zero,sa,Nat.zero_le]
theorem ret_ok (h : Sx G A s H) (f : RFix G A F) (at_ k : Nat) (q : s.pile = some k) : ∃ H', (∀ n d : Nat, (ev (PgC lf3 lg3) (n + 350) (d + 17)).c (.fn 100327547307650416) [.ref A.r, .int at_, Row.ret.mv] H = some (.int k, H')) ∧ Sx G A { s with pile := none } H' := by
  obtain ⟨p, h'⟩ := h
  have tt := h'.at f
  have pi := h'.pi
  rw [q] at pi
  simp only [pmv] at pi
  have n1 := floor_s k p H pi
  have n2 := cut_ok h' f
  have n3 : ∀ n d : Nat, (ev (PgC lf3 lg3) (n + 120) (d + 6)).c (.fn 114632105102705455381897896805) [.ref A.co] H = some (.int k, (H.new (.list [])).upd A.cd (ctl H.next)) := by
    intro n d
    rw [ec_fn, callF_ _ _ _ zax rfl rfl]
    simp only [zct,zcv,zcw,zcx,zcy,zcz,zcB,zcC,zbP,zcD,zcE,zcF,zcG,zbQ,zcH,zcI,zcJ,zcK,zbR,zeA,zeB,zeC,zeD,zcL,zcM,zcP,zcS,zbS,zbT,zcU,zcW,zcX,zcY,zcZ,zbU,zc0,zf0,zf1,zbW,zbX,zbZ,zeF,zeG,zc1,zc2,zb2,zb3,zb4,zb5,zc3,zc4,zeH,zeI,zeJ,zb6,zca,zcc,zcd,zce,zc7,zeN,zeO,zda,zcf,zeP,zeQ,zdb,zeR,zeT,zeU,zeV,zeW,zeX,zdd,zeY,zeZ,ze0,zde,ze1,zdf,zdg,ze2,zdh,ze3,ze4,ze5,zdi,ze6,ze7,ze8,zfa,zfb,zfc,zdl,zdm,zdn,zdo,zdp,zci,zdq,zf2,zdr,zfe,zds,zff,zfg,zfh,zfi,zfj,zfk,zdt,zdu,zdv,zfl,zfm,zdw,zfn,zdx,zfq,zfr,zf3,zbE,zaX,zae,zaY,zaZ,zbk,zbv,zax,zbl,zao,zaK,za8,zbm,za9,za0,zba,zbb,zaf,zap,zaq,zaa,zar,zaL,zbF,za1,zag,za2,za3,zbn,zbw,zay,zbo,zas,zaM,zbc,zbp,zbd,za4,zbe,zbf,zah,zbG,zbj,zcj,zck,zbx,zaS,zaW,zbH,zbI,zcl,zby,zcm,zdy,zdz,zcn,zco,zfs,zft,zdA,zdB,zdC,zfv,zfw,zfx,zfy,zfz,zdD,zdF,zdG,zdH,zfA,zdI,zdJ,zdL,zdM,zfB,zfC,zfD,zdO,zcp,zfE,zdP,zdQ,zdR,zdS,zdT,zdV,zdW,zcq,zbJ,zbK,zdX,zdY,zfF,zd2,zfG,zfJ,zfK,zd5,zd6,zd7,zd8,zd9,zfL,zfM,zfN,zfO,zfP,zeb,zec,zfQ,zed,zee,zef,zeg,zeh,zcr,zei,zej,zem,zfR,zen,zfS,zfT,zfV,zfX,zfY,zeo,zep,zer,zfZ,zes,zeu,zew,zex,zez,zbr,zam,zbs,zbt,zbM,zcs,zaT,zbN,zaG,za7,F_put_all,F_gather,F_flatten,zbu,zbB,zbC,zan,zaH,zaI,zad,zaJ,F_FlowRun_go,if_true,if_false,zf4,zf5,cond_true,cond_false,List.zip,List.zipWith,List.length_cons,List.length_nil,Option.isSome_some,Bool.false_eq_true,reduceIte,reduceCtorEq,Nat.reduceEqDiff,Nat.reduceAdd,Nat.reduceLeDiff,Int.cast_ofNat_Int,decide_true,decide_false,Bool.and_true,Bool.true_and,Bool.and_false,Bool.false_and,Int.sub_zero,Int.reduceNeg,Nat.reduceLT,and_self,and_true,true_and,Bool.false_or,Bool.or_false,Bool.true_or,Bool.or_true,Bool.not_true,Bool.not_false,Int.natAbs_neg,Int.reduceSub,Int.reduceAdd,Int.reduceToNat,Int.natAbs_zero,Int.natAbs_one,Int.reduceLT,Int.reduceLE,Int.reduceGE,Int.reduceGT,decide_eq_true_eq,List.getElem?_cons_zero,List.getElem?_cons_succ,Nat.reduceSub,Int.reduceMul,Nat.reduceBEq,Nat.reducePow,Int.reducePow,and_false,false_and,eq_self,zbO,zbD _ _ zbx,IX,lim,Row.mv,pmv,tt.pile,pi,n1,n2,Int.reduceEq]
  refine ⟨_, fun n d => ?_, _, h'.cut⟩
  rw [ec_fn, callF_ _ _ _ zbb rfl rfl]
  simp only [zct,zcv,zcw,zcx,zcy,zcz,zcB,zcC,zbP,zcD,zcE,zcF,zcG,zbQ,zcH,zcI,zcJ,zcK,zbR,zeA,zeB,zeC,zeD,zcL,zcM,zcP,zcS,zbS,zbT,zcU,zcW,zcX,zcY,zcZ,zbU,zc0,zf0,zf1,zbW,zbX,zbZ,zeF,zeG,zc1,zc2,zb2,zb3,zb4,zb5,zc3,zc4,zeH,zeI,zeJ,zb6,zca,zcc,zcd,zce,zc7,zeN,zeO,zda,zcf,zeP,zeQ,zdb,zeR,zeT,zeU,zeV,zeW,zeX,zdd,zeY,zeZ,ze0,zde,ze1,zdf,zdg,ze2,zdh,ze3,ze4,ze5,zdi,ze6,ze7,ze8,zfa,zfb,zfc,zdl,zdm,zdn,zdo,zdp,zci,zdq,zf2,zdr,zfe,zds,zff,zfg,zfh,zfi,zfj,zfk,zdt,zdu,zdv,zfl,zfm,zdw,zfn,zdx,zfq,zfr,zf3,zbE,zaX,zae,zaY,zaZ,zbk,zbv,zax,zbl,zao,zaK,za8,zbm,za9,za0,zba,zbb,zaf,zap,zaq,zaa,zar,zaL,zbF,za1,zag,za2,za3,zbn,zbw,zay,zbo,zas,zaM,zbc,zbp,zbd,za4,zbe,zbf,zah,zbG,zbj,zcj,zck,zbx,zaS,zaW,zbH,zbI,zcl,zby,zcm,zdy,zdz,zcn,zco,zfs,zft,zdA,zdB,zdC,zfv,zfw,zfx,zfy,zfz,zdD,zdF,zdG,zdH,zfA,zdI,zdJ,zdL,zdM,zfB,zfC,zfD,zdO,zcp,zfE,zdP,zdQ,zdR,zdS,zdT,zdV,zdW,zcq,zbJ,zbK,zdX,zdY,zfF,zd2,zfG,zfJ,zfK,zd5,zd6,zd7,zd8,zd9,zfL,zfM,zfN,zfO,zfP,zeb,zec,zfQ,zed,zee,zef,zeg,zeh,zcr,zei,zej,zem,zfR,zen,zfS,zfT,zfV,zfX,zfY,zeo,zep,zer,zfZ,zes,zeu,zew,zex,zez,zbr,zam,zbs,zbt,zbM,zcs,zaT,zbN,zaG,za7,F_put_all,F_gather,F_flatten,zbu,zbB,zbC,zan,zaH,zaI,zad,zaJ,F_FlowRun_go,if_true,if_false,zf4,zf5,cond_true,cond_false,List.zip,List.zipWith,List.length_cons,List.length_nil,Option.isSome_some,Bool.false_eq_true,reduceIte,reduceCtorEq,Nat.reduceEqDiff,Nat.reduceAdd,Nat.reduceLeDiff,Int.cast_ofNat_Int,decide_true,decide_false,Bool.and_true,Bool.true_and,Bool.and_false,Bool.false_and,Int.sub_zero,Int.reduceNeg,Nat.reduceLT,and_self,and_true,true_and,Bool.false_or,Bool.or_false,Bool.true_or,Bool.or_true,Bool.not_true,Bool.not_false,Int.natAbs_neg,Int.reduceSub,Int.reduceAdd,Int.reduceToNat,Int.natAbs_zero,Int.natAbs_one,Int.reduceLT,Int.reduceLE,Int.reduceGE,Int.reduceGT,decide_eq_true_eq,List.getElem?_cons_zero,List.getElem?_cons_succ,Nat.reduceSub,Int.reduceMul,Nat.reduceBEq,Nat.reducePow,Int.reducePow,and_false,false_and,eq_self,zbO,zbD _ _ zbx,IX,lim,Row.mv,pmv,tt.control,n3]
theorem sub_ok (h : Sx G A s H) (f : RFix G A F) (at_ : Nat) (ln : Int) {a : Nat} (q : s.pile = none) (qa : placeF F ln = some a) : ∃ H', (∀ n d : Nat, (ev (PgC lf3 lg3) (n + 350) (d + 17)).c (.fn 100327547307650416) [.ref A.r, .int at_, (Row.sub ln).mv] H = some (.int a, H')) ∧ Sx G A { s with pile := some (at_ + 1) } H' := by
  have n1 := place_ok h f ln qa
  obtain ⟨p, h'⟩ := h
  have tt := h'.at f
  have pi := h'.pi
  rw [q] at pi
  simp only [pmv] at pi
  have mp := tt.mp
  have e1 : (MV.int ((at_ : Int) + 1)) = .int ((at_ + 1 : Nat) : Int) := rfl
  have n2 : ∀ n d : Nat, (ev (PgC lf3 lg3) (n + 60) (d + 4)).c (.fn 26550255131573645166) [.ref A.co, .tup [.str 1405785167170, .int ((at_ : Int) + 1)]] H = some (.none, H.upd p (.list (pmv (some (at_ + 1))))) := by
    intro n d
    rw [ec_fn, callF_ _ _ _ zaY rfl rfl]
    simp only [zct,zcv,zcw,zcx,zcy,zcz,zcB,zcC,zbP,zcD,zcE,zcF,zcG,zbQ,zcH,zcI,zcJ,zcK,zbR,zeA,zeB,zeC,zeD,zcL,zcM,zcP,zcS,zbS,zbT,zcU,zcW,zcX,zcY,zcZ,zbU,zc0,zf0,zf1,zbW,zbX,zbZ,zeF,zeG,zc1,zc2,zb2,zb3,zb4,zb5,zc3,zc4,zeH,zeI,zeJ,zb6,zca,zcc,zcd,zce,zc7,zeN,zeO,zda,zcf,zeP,zeQ,zdb,zeR,zeT,zeU,zeV,zeW,zeX,zdd,zeY,zeZ,ze0,zde,ze1,zdf,zdg,ze2,zdh,ze3,ze4,ze5,zdi,ze6,ze7,ze8,zfa,zfb,zfc,zdl,zdm,zdn,zdo,zdp,zci,zdq,zf2,zdr,zfe,zds,zff,zfg,zfh,zfi,zfj,zfk,zdt,zdu,zdv,zfl,zfm,zdw,zfn,zdx,zfq,zfr,zf3,zbE,zaX,zae,zaY,zaZ,zbk,zbv,zax,zbl,zao,zaK,za8,zbm,za9,za0,zba,zbb,zaf,zap,zaq,zaa,zar,zaL,zbF,za1,zag,za2,za3,zbn,zbw,zay,zbo,zas,zaM,zbc,zbp,zbd,za4,zbe,zbf,zah,zbG,zbj,zcj,zck,zbx,zaS,zaW,zbH,zbI,zcl,zby,zcm,zdy,zdz,zcn,zco,zfs,zft,zdA,zdB,zdC,zfv,zfw,zfx,zfy,zfz,zdD,zdF,zdG,zdH,zfA,zdI,zdJ,zdL,zdM,zfB,zfC,zfD,zdO,zcp,zfE,zdP,zdQ,zdR,zdS,zdT,zdV,zdW,zcq,zbJ,zbK,zdX,zdY,zfF,zd2,zfG,zfJ,zfK,zd5,zd6,zd7,zd8,zd9,zfL,zfM,zfN,zfO,zfP,zeb,zec,zfQ,zed,zee,zef,zeg,zeh,zcr,zei,zej,zem,zfR,zen,zfS,zfT,zfV,zfX,zfY,zeo,zep,zer,zfZ,zes,zeu,zew,zex,zez,zbr,zam,zbs,zbt,zbM,zcs,zaT,zbN,zaG,za7,F_put_all,F_gather,F_flatten,zbu,zbB,zbC,zan,zaH,zaI,zad,zaJ,F_FlowRun_go,if_true,if_false,zf4,zf5,cond_true,cond_false,List.zip,List.zipWith,List.length_cons,List.length_nil,Option.isSome_some,Bool.false_eq_true,reduceIte,reduceCtorEq,Nat.reduceEqDiff,Nat.reduceAdd,Nat.reduceLeDiff,Int.cast_ofNat_Int,decide_true,decide_false,Bool.and_true,Bool.true_and,Bool.and_false,Bool.false_and,Int.sub_zero,Int.reduceNeg,Nat.reduceLT,and_self,and_true,true_and,Bool.false_or,Bool.or_false,Bool.true_or,Bool.or_true,Bool.not_true,Bool.not_false,Int.natAbs_neg,Int.reduceSub,Int.reduceAdd,Int.reduceToNat,Int.natAbs_zero,Int.natAbs_one,Int.reduceLT,Int.reduceLE,Int.reduceGE,Int.reduceGT,decide_eq_true_eq,List.getElem?_cons_zero,List.getElem?_cons_succ,Nat.reduceSub,Int.reduceMul,Nat.reduceBEq,Nat.reducePow,Int.reducePow,and_false,false_and,eq_self,zbO,zbD _ _ zbx,IX,lim,Row.mv,pmv,tt.pile,tt.most,pi,mp,Nat.zero_le,List.nil_append,castS]
  have n3 : ∀ n d : Nat, (ev (PgC lf3 lg3) (n + 90) (d + 6)).c (.fn 1543763096930) [.ref A.co, .int ((at_ : Int) + 1)] H = some (.none, H.upd p (.list (pmv (some (at_ + 1))))) := by
    intro n d
    rw [ec_fn, callF_ _ _ _ zbv rfl rfl]
    simp only [zct,zcv,zcw,zcx,zcy,zcz,zcB,zcC,zbP,zcD,zcE,zcF,zcG,zbQ,zcH,zcI,zcJ,zcK,zbR,zeA,zeB,zeC,zeD,zcL,zcM,zcP,zcS,zbS,zbT,zcU,zcW,zcX,zcY,zcZ,zbU,zc0,zf0,zf1,zbW,zbX,zbZ,zeF,zeG,zc1,zc2,zb2,zb3,zb4,zb5,zc3,zc4,zeH,zeI,zeJ,zb6,zca,zcc,zcd,zce,zc7,zeN,zeO,zda,zcf,zeP,zeQ,zdb,zeR,zeT,zeU,zeV,zeW,zeX,zdd,zeY,zeZ,ze0,zde,ze1,zdf,zdg,ze2,zdh,ze3,ze4,ze5,zdi,ze6,ze7,ze8,zfa,zfb,zfc,zdl,zdm,zdn,zdo,zdp,zci,zdq,zf2,zdr,zfe,zds,zff,zfg,zfh,zfi,zfj,zfk,zdt,zdu,zdv,zfl,zfm,zdw,zfn,zdx,zfq,zfr,zf3,zbE,zaX,zae,zaY,zaZ,zbk,zbv,zax,zbl,zao,zaK,za8,zbm,za9,za0,zba,zbb,zaf,zap,zaq,zaa,zar,zaL,zbF,za1,zag,za2,za3,zbn,zbw,zay,zbo,zas,zaM,zbc,zbp,zbd,za4,zbe,zbf,zah,zbG,zbj,zcj,zck,zbx,zaS,zaW,zbH,zbI,zcl,zby,zcm,zdy,zdz,zcn,zco,zfs,zft,zdA,zdB,zdC,zfv,zfw,zfx,zfy,zfz,zdD,zdF,zdG,zdH,zfA,zdI,zdJ,zdL,zdM,zfB,zfC,zfD,zdO,zcp,zfE,zdP,zdQ,zdR,zdS,zdT,zdV,zdW,zcq,zbJ,zbK,zdX,zdY,zfF,zd2,zfG,zfJ,zfK,zd5,zd6,zd7,zd8,zd9,zfL,zfM,zfN,zfO,zfP,zeb,zec,zfQ,zed,zee,zef,zeg,zeh,zcr,zei,zej,zem,zfR,zen,zfS,zfT,zfV,zfX,zfY,zeo,zep,zer,zfZ,zes,zeu,zew,zex,zez,zbr,zam,zbs,zbt,zbM,zcs,zaT,zbN,zaG,za7,F_put_all,F_gather,F_flatten,zbu,zbB,zbC,zan,zaH,zaI,zad,zaJ,F_FlowRun_go,if_true,if_false,zf4,zf5,cond_true,cond_false,List.zip,List.zipWith,List.length_cons,List.length_nil,Option.isSome_some,Bool.false_eq_true,reduceIte,reduceCtorEq,Nat.reduceEqDiff,Nat.reduceAdd,Nat.reduceLeDiff,Int.cast_ofNat_Int,decide_true,decide_false,Bool.and_true,Bool.true_and,Bool.and_false,Bool.false_and,Int.sub_zero,Int.reduceNeg,Nat.reduceLT,and_self,and_true,true_and,Bool.false_or,Bool.or_false,Bool.true_or,Bool.or_true,Bool.not_true,Bool.not_false,Int.natAbs_neg,Int.reduceSub,Int.reduceAdd,Int.reduceToNat,Int.natAbs_zero,Int.natAbs_one,Int.reduceLT,Int.reduceLE,Int.reduceGE,Int.reduceGT,decide_eq_true_eq,List.getElem?_cons_zero,List.getElem?_cons_succ,Nat.reduceSub,Int.reduceMul,Nat.reduceBEq,Nat.reducePow,Int.reducePow,and_false,false_and,eq_self,zbO,zbD _ _ zbx,IX,lim,Row.mv,pmv,n2]
  refine ⟨_, fun n d => ?_, _, h'.push (at_ + 1)⟩
  rw [ec_fn, callF_ _ _ _ zbb rfl rfl]
  simp only [zct,zcv,zcw,zcx,zcy,zcz,zcB,zcC,zbP,zcD,zcE,zcF,zcG,zbQ,zcH,zcI,zcJ,zcK,zbR,zeA,zeB,zeC,zeD,zcL,zcM,zcP,zcS,zbS,zbT,zcU,zcW,zcX,zcY,zcZ,zbU,zc0,zf0,zf1,zbW,zbX,zbZ,zeF,zeG,zc1,zc2,zb2,zb3,zb4,zb5,zc3,zc4,zeH,zeI,zeJ,zb6,zca,zcc,zcd,zce,zc7,zeN,zeO,zda,zcf,zeP,zeQ,zdb,zeR,zeT,zeU,zeV,zeW,zeX,zdd,zeY,zeZ,ze0,zde,ze1,zdf,zdg,ze2,zdh,ze3,ze4,ze5,zdi,ze6,ze7,ze8,zfa,zfb,zfc,zdl,zdm,zdn,zdo,zdp,zci,zdq,zf2,zdr,zfe,zds,zff,zfg,zfh,zfi,zfj,zfk,zdt,zdu,zdv,zfl,zfm,zdw,zfn,zdx,zfq,zfr,zf3,zbE,zaX,zae,zaY,zaZ,zbk,zbv,zax,zbl,zao,zaK,za8,zbm,za9,za0,zba,zbb,zaf,zap,zaq,zaa,zar,zaL,zbF,za1,zag,za2,za3,zbn,zbw,zay,zbo,zas,zaM,zbc,zbp,zbd,za4,zbe,zbf,zah,zbG,zbj,zcj,zck,zbx,zaS,zaW,zbH,zbI,zcl,zby,zcm,zdy,zdz,zcn,zco,zfs,zft,zdA,zdB,zdC,zfv,zfw,zfx,zfy,zfz,zdD,zdF,zdG,zdH,zfA,zdI,zdJ,zdL,zdM,zfB,zfC,zfD,zdO,zcp,zfE,zdP,zdQ,zdR,zdS,zdT,zdV,zdW,zcq,zbJ,zbK,zdX,zdY,zfF,zd2,zfG,zfJ,zfK,zd5,zd6,zd7,zd8,zd9,zfL,zfM,zfN,zfO,zfP,zeb,zec,zfQ,zed,zee,zef,zeg,zeh,zcr,zei,zej,zem,zfR,zen,zfS,zfT,zfV,zfX,zfY,zeo,zep,zer,zfZ,zes,zeu,zew,zex,zez,zbr,zam,zbs,zbt,zbM,zcs,zaT,zbN,zaG,za7,F_put_all,F_gather,F_flatten,zbu,zbB,zbC,zan,zaH,zaI,zad,zaJ,F_FlowRun_go,if_true,if_false,zf4,zf5,cond_true,cond_false,List.zip,List.zipWith,List.length_cons,List.length_nil,Option.isSome_some,Bool.false_eq_true,reduceIte,reduceCtorEq,Nat.reduceEqDiff,Nat.reduceAdd,Nat.reduceLeDiff,Int.cast_ofNat_Int,decide_true,decide_false,Bool.and_true,Bool.true_and,Bool.and_false,Bool.false_and,Int.sub_zero,Int.reduceNeg,Nat.reduceLT,and_self,and_true,true_and,Bool.false_or,Bool.or_false,Bool.true_or,Bool.or_true,Bool.not_true,Bool.not_false,Int.natAbs_neg,Int.reduceSub,Int.reduceAdd,Int.reduceToNat,Int.natAbs_zero,Int.natAbs_one,Int.reduceLT,Int.reduceLE,Int.reduceGE,Int.reduceGT,decide_eq_true_eq,List.getElem?_cons_zero,List.getElem?_cons_succ,Nat.reduceSub,Int.reduceMul,Nat.reduceBEq,Nat.reducePow,Int.reducePow,and_false,false_and,eq_self,zbO,zbD _ _ zbx,IX,lim,Row.mv,pmv,tt.control,tt.flat,n1,n3]
theorem on_ok (h : Sx G A s H) (f : RFix G A F) (at_ k : Nat) (gs : List Int) (ok : (Row.on_ k gs).ok G) {ln : Int} {a : Nat} (q : gs[(Int.fmod s.x 3).toNat]? = some ln) (qa : placeF F ln = some a) : ∀ n d : Nat, (ev (PgC lf3 lg3) (n + 350) (d + 17)).c (.fn 100327547307650416) [.ref A.r, .int at_, (Row.on_ k gs).mv] H = some (.int a, H) := by
  have n1 := place_ok h f ln qa
  have n2 := whole3_ok h f
  obtain ⟨p, h'⟩ := h
  have tt := h'.at f
  have g1 := h'.ext _ _ ok.1
  have b := fmod_range s.x 3 (by decide)
  have n3 : ∀ n d H, (ev (PgC lf3 lg3) (n + 40) (d + 4)).c (.fn 390775174292846) [.int (1 + Int.fmod s.x 3), .int 3] H = some (.int (Int.fmod s.x 3), H) := fun n d H => chosen_ok n d _ b.1 b.2 H
  have i1 : idx (gs.map .int) (Int.fmod s.x 3) = some (.int ln) := by
    rw [idx_nat _ (Int.fmod s.x 3).toNat (by omega) (by omega), List.getElem?_map, q]; rfl
  have l1 : gs.length = 3 := ok.2
  intro n d
  rw [ec_fn, callF_ _ _ _ zbb rfl rfl]
  simp only [zct,zcv,zcw,zcx,zcy,zcz,zcB,zcC,zbP,zcD,zcE,zcF,zcG,zbQ,zcH,zcI,zcJ,zcK,zbR,zeA,zeB,zeC,zeD,zcL,zcM,zcP,zcS,zbS,zbT,zcU,zcW,zcX,zcY,zcZ,zbU,zc0,zf0,zf1,zbW,zbX,zbZ,zeF,zeG,zc1,zc2,zb2,zb3,zb4,zb5,zc3,zc4,zeH,zeI,zeJ,zb6,zca,zcc,zcd,zce,zc7,zeN,zeO,zda,zcf,zeP,zeQ,zdb,zeR,zeT,zeU,zeV,zeW,zeX,zdd,zeY,zeZ,ze0,zde,ze1,zdf,zdg,ze2,zdh,ze3,ze4,ze5,zdi,ze6,ze7,ze8,zfa,zfb,zfc,zdl,zdm,zdn,zdo,zdp,zci,zdq,zf2,zdr,zfe,zds,zff,zfg,zfh,zfi,zfj,zfk,zdt,zdu,zdv,zfl,zfm,zdw,zfn,zdx,zfq,zfr,zf3,zbE,zaX,zae,zaY,zaZ,zbk,zbv,zax,zbl,zao,zaK,za8,zbm,za9,za0,zba,zbb,zaf,zap,zaq,zaa,zar,zaL,zbF,za1,zag,za2,za3,zbn,zbw,zay,zbo,zas,zaM,zbc,zbp,zbd,za4,zbe,zbf,zah,zbG,zbj,zcj,zck,zbx,zaS,zaW,zbH,zbI,zcl,zby,zcm,zdy,zdz,zcn,zco,zfs,zft,zdA,zdB,zdC,zfv,zfw,zfx,zfy,zfz,zdD,zdF,zdG,zdH,zfA,zdI,zdJ,zdL,zdM,zfB,zfC,zfD,zdO,zcp,zfE,zdP,zdQ,zdR,zdS,zdT,zdV,zdW,zcq,zbJ,zbK,zdX,zdY,zfF,zd2,zfG,zfJ,zfK,zd5,zd6,zd7,zd8,zd9,zfL,zfM,zfN,zfO,zfP,zeb,zec,zfQ,zed,zee,zef,zeg,zeh,zcr,zei,zej,zem,zfR,zen,zfS,zfT,zfV,zfX,zfY,zeo,zep,zer,zfZ,zes,zeu,zew,zex,zez,zbr,zam,zbs,zbt,zbM,zcs,zaT,zbN,zaG,za7,F_put_all,F_gather,F_flatten,zbu,zbB,zbC,zan,zaH,zaI,zad,zaJ,F_FlowRun_go,if_true,if_false,zf4,zf5,cond_true,cond_false,List.zip,List.zipWith,List.length_cons,List.length_nil,Option.isSome_some,Bool.false_eq_true,reduceIte,reduceCtorEq,Nat.reduceEqDiff,Nat.reduceAdd,Nat.reduceLeDiff,Int.cast_ofNat_Int,decide_true,decide_false,Bool.and_true,Bool.true_and,Bool.and_false,Bool.false_and,Int.sub_zero,Int.reduceNeg,Nat.reduceLT,and_self,and_true,true_and,Bool.false_or,Bool.or_false,Bool.true_or,Bool.or_true,Bool.not_true,Bool.not_false,Int.natAbs_neg,Int.reduceSub,Int.reduceAdd,Int.reduceToNat,Int.natAbs_zero,Int.natAbs_one,Int.reduceLT,Int.reduceLE,Int.reduceGE,Int.reduceGT,decide_eq_true_eq,List.getElem?_cons_zero,List.getElem?_cons_succ,Nat.reduceSub,Int.reduceMul,Nat.reduceBEq,Nat.reducePow,Int.reducePow,and_false,false_and,eq_self,zbO,zbD _ _ zbx,IX,lim,Row.mv,pmv,tt.mh,tt.flat,g1,n1,n2,n3,List.length_map,l1,i1]
theorem jumpX (at_ : Nat) {r : MV} {rest : List MV} {k : Nat} {H' : MH} (hr : r = .tup (.str k :: rest)) {v : MV} (hk : (1414223777620 == k || (5542071632 == k || (5491348559 == k || (1405785167170 == k || (5625497423 == k || 371932697809486 == k))))) = true)
    (n1 : ∀ n d : Nat, (ev (PgC lf3 lg3) (n + 350) (d + 17)).c (.fn 100327547307650416) [.ref A.r, .int at_, r] H = some (v, H')) : ∀ n d : Nat, (ev (PgC lf3 lg3) (n + 370) (d + 18)).c (.fn 100327547239952247) [.ref A.r, .int at_, r] H = some (v, H') := by
  intro n d
  rw [ec_fn, callF_ _ _ _ zba rfl rfl]
  rw [hr] at n1 ⊢
  simp only [zct,zcv,zcw,zcx,zcy,zcz,zcB,zcC,zbP,zcD,zcE,zcF,zcG,zbQ,zcH,zcI,zcJ,zcK,zbR,zeA,zeB,zeC,zeD,zcL,zcM,zcP,zcS,zbS,zbT,zcU,zcW,zcX,zcY,zcZ,zbU,zc0,zf0,zf1,zbW,zbX,zbZ,zeF,zeG,zc1,zc2,zb2,zb3,zb4,zb5,zc3,zc4,zeH,zeI,zeJ,zb6,zca,zcc,zcd,zce,zc7,zeN,zeO,zda,zcf,zeP,zeQ,zdb,zeR,zeT,zeU,zeV,zeW,zeX,zdd,zeY,zeZ,ze0,zde,ze1,zdf,zdg,ze2,zdh,ze3,ze4,ze5,zdi,ze6,ze7,ze8,zfa,zfb,zfc,zdl,zdm,zdn,zdo,zdp,zci,zdq,zf2,zdr,zfe,zds,zff,zfg,zfh,zfi,zfj,zfk,zdt,zdu,zdv,zfl,zfm,zdw,zfn,zdx,zfq,zfr,zf3,zbE,zaX,zae,zaY,zaZ,zbk,zbv,zax,zbl,zao,zaK,za8,zbm,za9,za0,zba,zbb,zaf,zap,zaq,zaa,zar,zaL,zbF,za1,zag,za2,za3,zbn,zbw,zay,zbo,zas,zaM,zbc,zbp,zbd,za4,zbe,zbf,zah,zbG,zbj,zcj,zck,zbx,zaS,zaW,zbH,zbI,zcl,zby,zcm,zdy,zdz,zcn,zco,zfs,zft,zdA,zdB,zdC,zfv,zfw,zfx,zfy,zfz,zdD,zdF,zdG,zdH,zfA,zdI,zdJ,zdL,zdM,zfB,zfC,zfD,zdO,zcp,zfE,zdP,zdQ,zdR,zdS,zdT,zdV,zdW,zcq,zbJ,zbK,zdX,zdY,zfF,zd2,zfG,zfJ,zfK,zd5,zd6,zd7,zd8,zd9,zfL,zfM,zfN,zfO,zfP,zeb,zec,zfQ,zed,zee,zef,zeg,zeh,zcr,zei,zej,zem,zfR,zen,zfS,zfT,zfV,zfX,zfY,zeo,zep,zer,zfZ,zes,zeu,zew,zex,zez,zbr,zam,zbs,zbt,zbM,zcs,zaT,zbN,zaG,za7,F_put_all,F_gather,F_flatten,zbu,zbB,zbC,zan,zaH,zaI,zad,zaJ,F_FlowRun_go,if_true,if_false,zf4,zf5,cond_true,cond_false,List.zip,List.zipWith,List.length_cons,List.length_nil,Option.isSome_some,Bool.false_eq_true,reduceIte,reduceCtorEq,Nat.reduceEqDiff,Nat.reduceAdd,Nat.reduceLeDiff,Int.cast_ofNat_Int,decide_true,decide_false,Bool.and_true,Bool.true_and,Bool.and_false,Bool.false_and,Int.sub_zero,Int.reduceNeg,Nat.reduceLT,and_self,and_true,true_and,Bool.false_or,Bool.or_false,Bool.true_or,Bool.or_true,Bool.not_true,Bool.not_false,Int.natAbs_neg,Int.reduceSub,Int.reduceAdd,Int.reduceToNat,Int.natAbs_zero,Int.natAbs_one,Int.reduceLT,Int.reduceLE,Int.reduceGE,Int.reduceGT,decide_eq_true_eq,List.getElem?_cons_zero,List.getElem?_cons_succ,Nat.reduceSub,Int.reduceMul,Nat.reduceBEq,Nat.reducePow,Int.reducePow,and_false,false_and,eq_self,zbO,zbD _ _ zbx,IX,lim,Row.mv,pmv,n1,hk]
theorem flowX (h : Sx G A s H) (f : RFix G A F) (at_ : Nat) (r : Row) (ok : r.ok G) (hf : isFlow r = true) {a' : Nat} {s' : RS} (q : oneRow F at_ s r = some (a', s')) :
    ∃ H', (∀ n d : Nat, (ev (PgC lf3 lg3) (n + 370) (d + 18)).c (.fn 100327547239952247) [.ref A.r, .int at_, r.mv] H = some (.int a', H')) ∧ Sx G A s' H' := by
  cases r with
  | sub n =>
    unfold oneRow at q
    cases hp : s.pile with
    | some k => rw [hp] at q; cases q
    | none =>
      rw [hp] at q
      refine bnd (f := fun a => some (a, { s with pile := some (at_ + 1) })) q fun a q1 q => ?_
      obtain ⟨H', n1, S'⟩ := sub_ok h f at_ n hp q1
      obtain rfl : a = a' := congrArg Prod.fst (Option.some.inj q)
      rw [← show _ = s' from congrArg Prod.snd (Option.some.inj q)]
      exact ⟨H', jumpX at_ rfl rfl n1, S'⟩
  | ret =>
    unfold oneRow at q
    cases hp : s.pile with
    | none => rw [hp] at q; cases q
    | some k =>
      rw [hp] at q
      obtain ⟨H', n1, S'⟩ := ret_ok h f at_ k hp
      obtain rfl : k = a' := congrArg Prod.fst (Option.some.inj q)
      rw [← show _ = s' from congrArg Prod.snd (Option.some.inj q)]
      exact ⟨H', jumpX at_ rfl rfl n1, S'⟩
  | on_ k gs =>
    refine bnd (f := fun n => (placeF F n).bind fun a => some (a, s)) q fun n q1 q => bnd q fun a q2 q => ?_
    obtain rfl : a = a' := congrArg Prod.fst (Option.some.inj q)
    rw [← show _ = s' from congrArg Prod.snd (Option.some.inj q)]
    exact ⟨H, jumpX at_ rfl rfl (on_ok h f at_ k gs ok q1 q2), h⟩
  | let_ k => cases hf
  | rem w => cases hf
  | end_ => cases hf
end
end Mn.Mg
end
section
set_option maxRecDepth 100000
namespace Mn.Mg
noncomputable abbrev LG (A : RA) (at_ : Nat) (mo : Int) (z : Loc) : Loc := (6230994022, .ref A.r) :: (90484, .int at_) :: (6130987892, .int mo) :: z
noncomputable abbrev Z1 (L0 : Loc) : Prop := L0 = [] ∨ ∃ b, L0 = [(6852128163306360106612, b)]
section
variable {G : Fz} {A : RA} {F : Fl} {p : Nat} {s : RS} {H : MH}
theorem Fl.mv_len (F : Fl) : F.mv.length = F.rows.length := List.length_map ..
theorem row_idx (f : RFix G A F) {at_ : Nat} {ln : Int} {r : Row} (hr : F.rows[at_]? = some (ln, r)) : idx F.mv (at_ : Int) = some (.tup [.int ln, r.mv]) := by
  have := (List.getElem?_eq_some_iff.mp hr).1
  have := f.len
  rw [idx_nat _ at_ rfl (by omega)]
  unfold Fl.mv
  rw [List.getElem?_map, hr]; rfl
theorem flow_mv {r : Row} (h : isFlow r = true) : ∃ k rest, r.mv = .tup (.str k :: rest) ∧ (k == 21775700) = false ∧ (k == 22168909) = false ∧ (k == 21319236) = false := by
  cases r with
  | let_ k => cases h
  | rem w => cases h
  | end_ => cases h
  | _ => exact ⟨_, _, rfl, by decide, by decide, by decide⟩
theorem go_pre (h : Sx G A s H) (f : RFix G A F) (at_ : Nat) (mo : Int) {ln : Int} {r : Row} (hr : F.rows[at_]? = some (ln, r)) (n d : Nat) (tu : MV) (L0 : Loc) (ha : Z1 L0) :
    stmts (ev (PgC lf3 lg3) (n + 390) (d + 19)) (fb 0 F_FlowRun_go.body) (LG A at_ mo ((6248821358, tu) :: L0)) H = stmts (ev (PgC lf3 lg3) (n + 390) (d + 19)) ((fb 0 F_FlowRun_go.body).drop 2) (LG A at_ mo [(6248821358, tu), (6852128163306360106612, r.mv)]) H := by
  obtain ⟨p, h'⟩ := id h
  have c5 := h'.ext _ _ f.ra
  have tt := h'.at f
  have hl := f.len
  have hat := (List.getElem?_eq_some_iff.mp hr).1
  have b1 : F.mv.length ≤ 1048576 := by rw [F.mv_len]; omega
  have b2 : ¬ ((at_ : Int) ≥ (F.mv.length : Int)) := by rw [F.mv_len]; omega
  have e1 := row_idx f hr
  have hs : ∀ v, zf5 6852128163306360106612 v L0 = [(6852128163306360106612, v)] := fun v => by rcases ha with rfl | ⟨v', rfl⟩ <;> rfl
  have key : ∀ r2, stmts (ev (PgC lf3 lg3) (n + 390) (d + 19)) ((fb 0 F_FlowRun_go.body).take 2 ++ r2) (LG A at_ mo ((6248821358, tu) :: L0)) H = stmts (ev (PgC lf3 lg3) (n + 390) (d + 19)) r2 (LG A at_ mo [(6248821358, tu), (6852128163306360106612, r.mv)]) H := by
    intro r2
    simp only [F_FlowRun_go, fb, List.getElem?_cons_zero, LG, List.take, List.cons_append, List.nil_append]
    generalize r.mv = rv at e1
    simp only [zct,zcv,zcw,zcx,zcy,zcz,zcB,zcC,zbP,zcD,zcE,zcF,zcG,zbQ,zcH,zcI,zcJ,zcK,zbR,zeA,zeB,zeC,zeD,zcL,zcM,zcP,zcS,zbS,zbT,zcU,zcW,zcX,zcY,zcZ,zbU,zc0,zf0,zf1,zbW,zbX,zbZ,zeF,zeG,zc1,zc2,zb2,zb3,zb4,zb5,zc3,zc4,zeH,zeI,zeJ,zb6,zca,zcc,zcd,zce,zc7,zeN,zeO,zda,zcf,zeP,zeQ,zdb,zeR,zeT,zeU,zeV,zeW,zeX,zdd,zeY,zeZ,ze0,zde,ze1,zdf,zdg,ze2,zdh,ze3,ze4,ze5,zdi,ze6,ze7,ze8,zfa,zfb,zfc,zdl,zdm,zdn,zdo,zdp,zci,zdq,zf2,zdr,zfe,zds,zff,zfg,zfh,zfi,zfj,zfk,zdt,zdu,zdv,zfl,zfm,zdw,zfn,zdx,zfq,zfr,zf3,zbE,zaX,zae,zaY,zaZ,zbk,zbv,zax,zbl,zao,zaK,za8,zbm,za9,za0,zba,zbb,zaf,zap,zaq,zaa,zar,zaL,zbF,za1,zag,za2,za3,zbn,zbw,zay,zbo,zas,zaM,zbc,zbp,zbd,za4,zbe,zbf,zah,zbG,zbj,zcj,zck,zbx,zaS,zaW,zbH,zbI,zcl,zby,zcm,zdy,zdz,zcn,zco,zfs,zft,zdA,zdB,zdC,zfv,zfw,zfx,zfy,zfz,zdD,zdF,zdG,zdH,zfA,zdI,zdJ,zdL,zdM,zfB,zfC,zfD,zdO,zcp,zfE,zdP,zdQ,zdR,zdS,zdT,zdV,zdW,zcq,zbJ,zbK,zdX,zdY,zfF,zd2,zfG,zfJ,zfK,zd5,zd6,zd7,zd8,zd9,zfL,zfM,zfN,zfO,zfP,zeb,zec,zfQ,zed,zee,zef,zeg,zeh,zcr,zei,zej,zem,zfR,zen,zfS,zfT,zfV,zfX,zfY,zeo,zep,zer,zfZ,zes,zeu,zew,zex,zez,zbr,zam,zbs,zbt,zbM,zcs,zaT,zbN,zaG,za7,F_put_all,F_gather,F_flatten,zbu,zbB,zbC,zan,zaH,zaI,zad,zaJ,F_FlowRun_go,if_true,if_false,zf4,zf5,cond_true,cond_false,List.zip,List.zipWith,List.length_cons,List.length_nil,Option.isSome_some,Bool.false_eq_true,reduceIte,reduceCtorEq,Nat.reduceEqDiff,Nat.reduceAdd,Nat.reduceLeDiff,Int.cast_ofNat_Int,decide_true,decide_false,Bool.and_true,Bool.true_and,Bool.and_false,Bool.false_and,Int.sub_zero,Int.reduceNeg,Nat.reduceLT,and_self,and_true,true_and,Bool.false_or,Bool.or_false,Bool.true_or,Bool.or_true,Bool.not_true,Bool.not_false,Int.natAbs_neg,Int.reduceSub,Int.reduceAdd,Int.reduceToNat,Int.natAbs_zero,Int.natAbs_one,Int.reduceLT,Int.reduceLE,Int.reduceGE,Int.reduceGT,decide_eq_true_eq,List.getElem?_cons_zero,List.getElem?_cons_succ,Nat.reduceSub,Int.reduceMul,Nat.reduceBEq,Nat.reducePow,Int.reducePow,and_false,false_and,eq_self,zbO,zbD _ _ zbx,IX,lim,Row.mv,hs,tt.flat,tt.rows,c5,b1,b2,e1]
  exact key ((fb 0 F_FlowRun_go.body).drop 2)
theorem go_row (h : Sx G A s H) (f : RFix G A F) (at_ : Nat) (mo : Int) {ln : Int} {r : Row} (hr : F.rows[at_]? = some (ln, r)) (he : isEnd r = false) {a' : Nat} {s' : RS} (q : oneRow F at_ s r = some (a', s')) :
    ∃ H', Sx G A s' H' ∧ ∀ n d : Nat, ∀ tu : MV, ∀ L0 : Loc, Z1 L0 →
      ∃ b, stmts (ev (PgC lf3 lg3) (n + 390) (d + 19)) (fb 0 F_FlowRun_go.body) (LG A at_ mo ((6248821358, tu) :: L0)) H = some (.nxt, LG A a' mo [(6248821358, tu), (6852128163306360106612, b)], H') := by
  obtain ⟨p, h'⟩ := id h
  have tt := h'.at f
  have ok := f.ok _ (List.mem_of_getElem? hr)
  have pre := go_pre h f at_ mo hr
  cases hm : isFlow r with
  | true =>
    obtain ⟨H', n1, S'⟩ := flowX h f at_ r ok hm q
    refine ⟨H', S', fun n d tu L0 ha => ⟨r.mv, ?_⟩⟩
    rw [pre n d tu L0 ha]
    obtain ⟨k, rest, hk, k1, k2, k3⟩ := flow_mv hm
    rw [hk] at n1 ⊢
    simp only [F_FlowRun_go, fb, List.getElem?_cons_zero, LG, List.drop]
    simp only [zct,zcv,zcw,zcx,zcy,zcz,zcB,zcC,zbP,zcD,zcE,zcF,zcG,zbQ,zcH,zcI,zcJ,zcK,zbR,zeA,zeB,zeC,zeD,zcL,zcM,zcP,zcS,zbS,zbT,zcU,zcW,zcX,zcY,zcZ,zbU,zc0,zf0,zf1,zbW,zbX,zbZ,zeF,zeG,zc1,zc2,zb2,zb3,zb4,zb5,zc3,zc4,zeH,zeI,zeJ,zb6,zca,zcc,zcd,zce,zc7,zeN,zeO,zda,zcf,zeP,zeQ,zdb,zeR,zeT,zeU,zeV,zeW,zeX,zdd,zeY,zeZ,ze0,zde,ze1,zdf,zdg,ze2,zdh,ze3,ze4,ze5,zdi,ze6,ze7,ze8,zfa,zfb,zfc,zdl,zdm,zdn,zdo,zdp,zci,zdq,zf2,zdr,zfe,zds,zff,zfg,zfh,zfi,zfj,zfk,zdt,zdu,zdv,zfl,zfm,zdw,zfn,zdx,zfq,zfr,zf3,zbE,zaX,zae,zaY,zaZ,zbk,zbv,zax,zbl,zao,zaK,za8,zbm,za9,za0,zba,zbb,zaf,zap,zaq,zaa,zar,zaL,zbF,za1,zag,za2,za3,zbn,zbw,zay,zbo,zas,zaM,zbc,zbp,zbd,za4,zbe,zbf,zah,zbG,zbj,zcj,zck,zbx,zaS,zaW,zbH,zbI,zcl,zby,zcm,zdy,zdz,zcn,zco,zfs,zft,zdA,zdB,zdC,zfv,zfw,zfx,zfy,zfz,zdD,zdF,zdG,zdH,zfA,zdI,zdJ,zdL,zdM,zfB,zfC,zfD,zdO,zcp,zfE,zdP,zdQ,zdR,zdS,zdT,zdV,zdW,zcq,zbJ,zbK,zdX,zdY,zfF,zd2,zfG,zfJ,zfK,zd5,zd6,zd7,zd8,zd9,zfL,zfM,zfN,zfO,zfP,zeb,zec,zfQ,zed,zee,zef,zeg,zeh,zcr,zei,zej,zem,zfR,zen,zfS,zfT,zfV,zfX,zfY,zeo,zep,zer,zfZ,zes,zeu,zew,zex,zez,zbr,zam,zbs,zbt,zbM,zcs,zaT,zbN,zaG,za7,F_put_all,F_gather,F_flatten,zbu,zbB,zbC,zan,zaH,zaI,zad,zaJ,F_FlowRun_go,if_true,if_false,zf4,zf5,cond_true,cond_false,List.zip,List.zipWith,List.length_cons,List.length_nil,Option.isSome_some,Bool.false_eq_true,reduceIte,reduceCtorEq,Nat.reduceEqDiff,Nat.reduceAdd,Nat.reduceLeDiff,Int.cast_ofNat_Int,decide_true,decide_false,Bool.and_true,Bool.true_and,Bool.and_false,Bool.false_and,Int.sub_zero,Int.reduceNeg,Nat.reduceLT,and_self,and_true,true_and,Bool.false_or,Bool.or_false,Bool.true_or,Bool.or_true,Bool.not_true,Bool.not_false,Int.natAbs_neg,Int.reduceSub,Int.reduceAdd,Int.reduceToNat,Int.natAbs_zero,Int.natAbs_one,Int.reduceLT,Int.reduceLE,Int.reduceGE,Int.reduceGT,decide_eq_true_eq,List.getElem?_cons_zero,List.getElem?_cons_succ,Nat.reduceSub,Int.reduceMul,Nat.reduceBEq,Nat.reducePow,Int.reducePow,and_false,false_and,eq_self,zbO,zbD _ _ zbx,IX,lim,Row.mv,n1,k1,k2,k3]
  | false =>
    cases r with
    | let_ k =>
      obtain ⟨rfl, rfl⟩ : at_ + 1 = a' ∧ _ = s' := ⟨congrArg Prod.fst (Option.some.inj q), congrArg Prod.snd (Option.some.inj q)⟩
      have n1 := worth_ok h f _ (wt_ok A.va s.x k h'.hx h'.va)
      obtain ⟨H1, n2, S1⟩ := storeX h f (Int.fmod (3 * s.x + k) 7) (fmod_range _ 7 (by decide))
      refine ⟨H1, S1, fun n d tu L0 ha => ⟨(Row.let_ k).mv, ?_⟩⟩
      rw [pre n d tu L0 ha]
      simp only [F_FlowRun_go, fb, List.getElem?_cons_zero, LG, List.drop]
      rw [castS]
      simp only [zct,zcv,zcw,zcx,zcy,zcz,zcB,zcC,zbP,zcD,zcE,zcF,zcG,zbQ,zcH,zcI,zcJ,zcK,zbR,zeA,zeB,zeC,zeD,zcL,zcM,zcP,zcS,zbS,zbT,zcU,zcW,zcX,zcY,zcZ,zbU,zc0,zf0,zf1,zbW,zbX,zbZ,zeF,zeG,zc1,zc2,zb2,zb3,zb4,zb5,zc3,zc4,zeH,zeI,zeJ,zb6,zca,zcc,zcd,zce,zc7,zeN,zeO,zda,zcf,zeP,zeQ,zdb,zeR,zeT,zeU,zeV,zeW,zeX,zdd,zeY,zeZ,ze0,zde,ze1,zdf,zdg,ze2,zdh,ze3,ze4,ze5,zdi,ze6,ze7,ze8,zfa,zfb,zfc,zdl,zdm,zdn,zdo,zdp,zci,zdq,zf2,zdr,zfe,zds,zff,zfg,zfh,zfi,zfj,zfk,zdt,zdu,zdv,zfl,zfm,zdw,zfn,zdx,zfq,zfr,zf3,zbE,zaX,zae,zaY,zaZ,zbk,zbv,zax,zbl,zao,zaK,za8,zbm,za9,za0,zba,zbb,zaf,zap,zaq,zaa,zar,zaL,zbF,za1,zag,za2,za3,zbn,zbw,zay,zbo,zas,zaM,zbc,zbp,zbd,za4,zbe,zbf,zah,zbG,zbj,zcj,zck,zbx,zaS,zaW,zbH,zbI,zcl,zby,zcm,zdy,zdz,zcn,zco,zfs,zft,zdA,zdB,zdC,zfv,zfw,zfx,zfy,zfz,zdD,zdF,zdG,zdH,zfA,zdI,zdJ,zdL,zdM,zfB,zfC,zfD,zdO,zcp,zfE,zdP,zdQ,zdR,zdS,zdT,zdV,zdW,zcq,zbJ,zbK,zdX,zdY,zfF,zd2,zfG,zfJ,zfK,zd5,zd6,zd7,zd8,zd9,zfL,zfM,zfN,zfO,zfP,zeb,zec,zfQ,zed,zee,zef,zeg,zeh,zcr,zei,zej,zem,zfR,zen,zfS,zfT,zfV,zfX,zfY,zeo,zep,zer,zfZ,zes,zeu,zew,zex,zez,zbr,zam,zbs,zbt,zbM,zcs,zaT,zbN,zaG,za7,F_put_all,F_gather,F_flatten,zbu,zbB,zbC,zan,zaH,zaI,zad,zaJ,F_FlowRun_go,if_true,if_false,zf4,zf5,cond_true,cond_false,List.zip,List.zipWith,List.length_cons,List.length_nil,Option.isSome_some,Bool.false_eq_true,reduceIte,reduceCtorEq,Nat.reduceEqDiff,Nat.reduceAdd,Nat.reduceLeDiff,Int.cast_ofNat_Int,decide_true,decide_false,Bool.and_true,Bool.true_and,Bool.and_false,Bool.false_and,Int.sub_zero,Int.reduceNeg,Nat.reduceLT,and_self,and_true,true_and,Bool.false_or,Bool.or_false,Bool.true_or,Bool.or_true,Bool.not_true,Bool.not_false,Int.natAbs_neg,Int.reduceSub,Int.reduceAdd,Int.reduceToNat,Int.natAbs_zero,Int.natAbs_one,Int.reduceLT,Int.reduceLE,Int.reduceGE,Int.reduceGT,decide_eq_true_eq,List.getElem?_cons_zero,List.getElem?_cons_succ,Nat.reduceSub,Int.reduceMul,Nat.reduceBEq,Nat.reducePow,Int.reducePow,and_false,false_and,eq_self,zbO,zbD _ _ zbx,IX,lim,Row.mv,tt.mw,tt.ms,n1,n2]
    | rem x =>
      refine gd (show (if s.notes.length + 1 < 1000 then some (at_ + 1, { s with notes := s.notes ++ [nt x s.x] }) else none) = some (a', s') from q) fun hn q => ?_
      obtain ⟨rfl, rfl⟩ : at_ + 1 = a' ∧ _ = s' := ⟨congrArg Prod.fst (Option.some.inj q), congrArg Prod.snd (Option.some.inj q)⟩
      have n1 := value_ok h f
      have m3 : s.notes.length < 1048576 := by omega
      refine ⟨_, ⟨p, h'.note (nt x s.x) hn⟩, fun n d tu L0 ha => ⟨(Row.rem x).mv, ?_⟩⟩
      rw [pre n d tu L0 ha]
      simp only [F_FlowRun_go, fb, List.getElem?_cons_zero, LG, nt, List.drop]
      rw [castS]
      simp only [zct,zcv,zcw,zcx,zcy,zcz,zcB,zcC,zbP,zcD,zcE,zcF,zcG,zbQ,zcH,zcI,zcJ,zcK,zbR,zeA,zeB,zeC,zeD,zcL,zcM,zcP,zcS,zbS,zbT,zcU,zcW,zcX,zcY,zcZ,zbU,zc0,zf0,zf1,zbW,zbX,zbZ,zeF,zeG,zc1,zc2,zb2,zb3,zb4,zb5,zc3,zc4,zeH,zeI,zeJ,zb6,zca,zcc,zcd,zce,zc7,zeN,zeO,zda,zcf,zeP,zeQ,zdb,zeR,zeT,zeU,zeV,zeW,zeX,zdd,zeY,zeZ,ze0,zde,ze1,zdf,zdg,ze2,zdh,ze3,ze4,ze5,zdi,ze6,ze7,ze8,zfa,zfb,zfc,zdl,zdm,zdn,zdo,zdp,zci,zdq,zf2,zdr,zfe,zds,zff,zfg,zfh,zfi,zfj,zfk,zdt,zdu,zdv,zfl,zfm,zdw,zfn,zdx,zfq,zfr,zf3,zbE,zaX,zae,zaY,zaZ,zbk,zbv,zax,zbl,zao,zaK,za8,zbm,za9,za0,zba,zbb,zaf,zap,zaq,zaa,zar,zaL,zbF,za1,zag,za2,za3,zbn,zbw,zay,zbo,zas,zaM,zbc,zbp,zbd,za4,zbe,zbf,zah,zbG,zbj,zcj,zck,zbx,zaS,zaW,zbH,zbI,zcl,zby,zcm,zdy,zdz,zcn,zco,zfs,zft,zdA,zdB,zdC,zfv,zfw,zfx,zfy,zfz,zdD,zdF,zdG,zdH,zfA,zdI,zdJ,zdL,zdM,zfB,zfC,zfD,zdO,zcp,zfE,zdP,zdQ,zdR,zdS,zdT,zdV,zdW,zcq,zbJ,zbK,zdX,zdY,zfF,zd2,zfG,zfJ,zfK,zd5,zd6,zd7,zd8,zd9,zfL,zfM,zfN,zfO,zfP,zeb,zec,zfQ,zed,zee,zef,zeg,zeh,zcr,zei,zej,zem,zfR,zen,zfS,zfT,zfV,zfX,zfY,zeo,zep,zer,zfZ,zes,zeu,zew,zex,zez,zbr,zam,zbs,zbt,zbM,zcs,zaT,zbN,zaG,za7,F_put_all,F_gather,F_flatten,zbu,zbB,zbC,zan,zaH,zaI,zad,zaJ,F_FlowRun_go,if_true,if_false,zf4,zf5,cond_true,cond_false,List.zip,List.zipWith,List.length_cons,List.length_nil,Option.isSome_some,Bool.false_eq_true,reduceIte,reduceCtorEq,Nat.reduceEqDiff,Nat.reduceAdd,Nat.reduceLeDiff,Int.cast_ofNat_Int,decide_true,decide_false,Bool.and_true,Bool.true_and,Bool.and_false,Bool.false_and,Int.sub_zero,Int.reduceNeg,Nat.reduceLT,and_self,and_true,true_and,Bool.false_or,Bool.or_false,Bool.true_or,Bool.or_true,Bool.not_true,Bool.not_false,Int.natAbs_neg,Int.reduceSub,Int.reduceAdd,Int.reduceToNat,Int.natAbs_zero,Int.natAbs_one,Int.reduceLT,Int.reduceLE,Int.reduceGE,Int.reduceGT,decide_eq_true_eq,List.getElem?_cons_zero,List.getElem?_cons_succ,Nat.reduceSub,Int.reduceMul,Nat.reduceBEq,Nat.reducePow,Int.reducePow,and_false,false_and,eq_self,zbO,zbD _ _ zbx,IX,lim,Row.mv,tt.notes,tt.mn,tt.mv,tt.na,n1,m3]
    | end_ => cases he
    | _ => cases hm
theorem go_end (h : Sx G A s H) (f : RFix G A F) (at_ : Nat) (mo : Int) {ln : Int} (hr : F.rows[at_]? = some (ln, .end_)) :
    ∀ n d : Nat, ∀ tu : MV, ∀ L0 : Loc, Z1 L0 → ∃ L', stmts (ev (PgC lf3 lg3) (n + 390) (d + 19)) (fb 0 F_FlowRun_go.body) (LG A at_ mo ((6248821358, tu) :: L0)) H = some (.ret (.int F.rows.length), L', H) := by
  obtain ⟨p, h'⟩ := id h
  have c5 := h'.ext _ _ f.ra
  have tt := h'.at f
  have hl := f.len
  have b1 : F.mv.length ≤ 1048576 := by rw [F.mv_len]; omega
  intro n d tu L0 ha
  refine ⟨LG A at_ mo [(6248821358, tu), (6852128163306360106612, Row.end_.mv)], ?_⟩
  rw [go_pre h f at_ mo hr n d tu L0 ha, ← F.mv_len]
  simp only [F_FlowRun_go, fb, List.getElem?_cons_zero, LG, List.drop]
  simp only [zct,zcv,zcw,zcx,zcy,zcz,zcB,zcC,zbP,zcD,zcE,zcF,zcG,zbQ,zcH,zcI,zcJ,zcK,zbR,zeA,zeB,zeC,zeD,zcL,zcM,zcP,zcS,zbS,zbT,zcU,zcW,zcX,zcY,zcZ,zbU,zc0,zf0,zf1,zbW,zbX,zbZ,zeF,zeG,zc1,zc2,zb2,zb3,zb4,zb5,zc3,zc4,zeH,zeI,zeJ,zb6,zca,zcc,zcd,zce,zc7,zeN,zeO,zda,zcf,zeP,zeQ,zdb,zeR,zeT,zeU,zeV,zeW,zeX,zdd,zeY,zeZ,ze0,zde,ze1,zdf,zdg,ze2,zdh,ze3,ze4,ze5,zdi,ze6,ze7,ze8,zfa,zfb,zfc,zdl,zdm,zdn,zdo,zdp,zci,zdq,zf2,zdr,zfe,zds,zff,zfg,zfh,zfi,zfj,zfk,zdt,zdu,zdv,zfl,zfm,zdw,zfn,zdx,zfq,zfr,zf3,zbE,zaX,zae,zaY,zaZ,zbk,zbv,zax,zbl,zao,zaK,za8,zbm,za9,za0,zba,zbb,zaf,zap,zaq,zaa,zar,zaL,zbF,za1,zag,za2,za3,zbn,zbw,zay,zbo,zas,zaM,zbc,zbp,zbd,za4,zbe,zbf,zah,zbG,zbj,zcj,zck,zbx,zaS,zaW,zbH,zbI,zcl,zby,zcm,zdy,zdz,zcn,zco,zfs,zft,zdA,zdB,zdC,zfv,zfw,zfx,zfy,zfz,zdD,zdF,zdG,zdH,zfA,zdI,zdJ,zdL,zdM,zfB,zfC,zfD,zdO,zcp,zfE,zdP,zdQ,zdR,zdS,zdT,zdV,zdW,zcq,zbJ,zbK,zdX,zdY,zfF,zd2,zfG,zfJ,zfK,zd5,zd6,zd7,zd8,zd9,zfL,zfM,zfN,zfO,zfP,zeb,zec,zfQ,zed,zee,zef,zeg,zeh,zcr,zei,zej,zem,zfR,zen,zfS,zfT,zfV,zfX,zfY,zeo,zep,zer,zfZ,zes,zeu,zew,zex,zez,zbr,zam,zbs,zbt,zbM,zcs,zaT,zbN,zaG,za7,F_put_all,F_gather,F_flatten,zbu,zbB,zbC,zan,zaH,zaI,zad,zaJ,F_FlowRun_go,if_true,if_false,zf4,zf5,cond_true,cond_false,List.zip,List.zipWith,List.length_cons,List.length_nil,Option.isSome_some,Bool.false_eq_true,reduceIte,reduceCtorEq,Nat.reduceEqDiff,Nat.reduceAdd,Nat.reduceLeDiff,Int.cast_ofNat_Int,decide_true,decide_false,Bool.and_true,Bool.true_and,Bool.and_false,Bool.false_and,Int.sub_zero,Int.reduceNeg,Nat.reduceLT,and_self,and_true,true_and,Bool.false_or,Bool.or_false,Bool.true_or,Bool.or_true,Bool.not_true,Bool.not_false,Int.natAbs_neg,Int.reduceSub,Int.reduceAdd,Int.reduceToNat,Int.natAbs_zero,Int.natAbs_one,Int.reduceLT,Int.reduceLE,Int.reduceGE,Int.reduceGT,decide_eq_true_eq,List.getElem?_cons_zero,List.getElem?_cons_succ,Nat.reduceSub,Int.reduceMul,Nat.reduceBEq,Nat.reducePow,Int.reducePow,and_false,false_and,eq_self,zbO,zbD _ _ zbx,IX,lim,Row.mv,tt.flat,tt.rows,c5,b1]
theorem go_loop (f : RFix G A F) (mo : Int) :
    ∀ (k at_ : Nat) (s s' : RS) (H : MH) (res : Int), Sx G A s H → goF F k at_ s = some (res, s') →
      ∃ H', Sx G A s' H' ∧ ∀ m d : Nat, k + 400 ≤ m → ∀ (i : Int) (L0 : Loc), (L0 = [] ∨ ∃ a b, L0 = [(6248821358, a), (6852128163306360106612, b)]) →
        (∃ L', (ev (PgC lf3 lg3) (m) (d + 19)).l (.nam 6248821358) (.rng i 1 k) (fb 0 F_FlowRun_go.body) (LG A at_ mo L0) H = some (.ret (.int res), L', H')) ∨
        (∃ L' : Loc, ∃ a : Nat, (ev (PgC lf3 lg3) (m) (d + 19)).l (.nam 6248821358) (.rng i 1 k) (fb 0 F_FlowRun_go.body) (LG A at_ mo L0) H = some (.nxt, (6230994022, .ref A.r) :: (90484, .int a) :: L', H') ∧ res = if F.rows.length ≤ a then (a : Int) else -1) := by
  intro k
  induction k with
  | zero =>
    intro at_ s s' H res h q
    have q := Option.some.inj q
    obtain rfl : s = s' := congrArg Prod.snd q
    refine ⟨H, h, fun m d hm i L0 ha => .inr ⟨(6130987892, .int mo) :: L0, at_, ?_, (congrArg Prod.fst q).symm⟩⟩
    obtain ⟨m, rfl⟩ : ∃ m', m = m' + 400 := ⟨m - 400, by omega⟩
    rfl
  | succ k ih =>
    intro at_ s s' H res h q
    refine bnd2 (f := fun p => if isEnd p.2 = true then some ((F.rows.length : Int), s) else (oneRow F at_ s p.2).bind fun a => goF F k a.1 a.2) q fun ln r hr q => ?_
    have step : ∀ (m d : Nat) (i : Int) (L0 : Loc), (L0 = [] ∨ ∃ a b, L0 = [(6248821358, a), (6852128163306360106612, b)]) → ∃ L1 : Loc, Z1 L1 ∧ (ev (PgC lf3 lg3) (m + 401) (d + 19)).l (.nam 6248821358) (.rng i 1 (k + 1)) (fb 0 F_FlowRun_go.body) (LG A at_ mo L0) H = (stmts (ev (PgC lf3 lg3) (m + 400) (d + 19)) (fb 0 F_FlowRun_go.body) (LG A at_ mo ((6248821358, .int i) :: L1)) H).bind (klo3 (ev (PgC lf3 lg3) (m + 400) (d + 19)) (.nam 6248821358) (.rng (i + 1) 1 k) (fb 0 F_FlowRun_go.body)) := by
      intro m d i L0 ha
      rcases ha with rfl | ⟨a, b, rfl⟩
      · refine ⟨[], .inl rfl, ?_⟩
        rw [zbZ, zb2]; rfl
      · refine ⟨[(6852128163306360106612, b)], .inr ⟨_, rfl⟩, ?_⟩
        rw [zbZ, zb2]; rfl
    cases he : isEnd r with
    | true =>
      rw [show isEnd (ln, r).2 = true from he, if_pos rfl] at q
      obtain rfl : r = .end_ := by cases r <;> first | rfl | cases he
      have n1 := go_end h f at_ mo hr
      have q := Option.some.inj q
      obtain rfl : s = s' := congrArg Prod.snd q
      obtain rfl : (F.rows.length : Int) = res := congrArg Prod.fst q
      refine ⟨H, h, fun m d hm i L0 ha => .inl ?_⟩
      obtain ⟨m, rfl⟩ : ∃ m', m = m' + 401 := ⟨m - 401, by omega⟩
      obtain ⟨L1, g1, g2⟩ := step m d i L0 ha
      obtain ⟨L', e⟩ := n1 (m + 10) d (.int i) L1 g1
      refine ⟨L', ?_⟩
      rw [g2, e, zct, zc2]
    | false =>
      rw [show isEnd (ln, r).2 = false from he, if_neg nofun] at q
      refine bnd2 (f := fun a => goF F k a.1 a.2) q fun a1 s1 q1 q2 => ?_
      obtain ⟨H1, S1, n1⟩ := go_row h f at_ mo hr he q1
      obtain ⟨H2, S2, n2⟩ := ih a1 s1 s' H1 res S1 q2
      refine ⟨H2, S2, fun m d hm i L0 ha => ?_⟩
      obtain ⟨m, rfl⟩ : ∃ m', m = m' + 401 := ⟨m - 401, by omega⟩
      obtain ⟨L1, g1, g2⟩ := step m d i L0 ha
      obtain ⟨b, e⟩ := n1 (m + 10) d (.int i) L1 g1
      rw [g2, e, zct, zc1]
      exact n2 (m + 400) d (by omega) (i + 1) _ (.inr ⟨_, _, rfl⟩)
theorem goX (h : Sx G A s H) (f : RFix G A F) (at_ k : Nat) (hk : k ≤ 100) {res : Int} {s' : RS} (q : goF F k at_ s = some (res, s')) :
    ∃ H', (∀ n d : Nat, (ev (PgC lf3 lg3) (n + 520) (d + 20)).c (.fn 196254634976314992399582029673955626514985301736485678804054381246074043110747630893076508655744927424379866933103) [.ref A.r, .int at_, .int k] H = some (.int res, H')) ∧ Sx G A s' H' := by
  obtain ⟨H1, S1, n1⟩ := go_loop f k k at_ s s' H res h q
  refine ⟨H1, fun n d => ?_, S1⟩
  rw [ec_fn, callF_ _ _ _ zaL rfl rfl]
  obtain ⟨p, h'⟩ := id S1
  have c5 := h'.ext _ _ f.ra
  have tt := h'.at f
  have hl := f.len
  have b1' : F.rows.length ≤ 1048576 := by omega
  have b4 : (k : Int).natAbs < 1073741824 := by omega
  have n2 := n1 (n + 518) d (by omega) 0 [] (.inl rfl)
  have b3 := F.mv_len
  simp only [F_FlowRun_go, fb, List.getElem?_cons_zero, LG] at n2
  rcases n2 with ⟨L', n2⟩ | ⟨L', a, n2, n3⟩
  · simp only [zct,zcv,zcw,zcx,zcy,zcz,zcB,zcC,zbP,zcD,zcE,zcF,zcG,zbQ,zcH,zcI,zcJ,zcK,zbR,zeA,zeB,zeC,zeD,zcL,zcM,zcP,zcS,zbS,zbT,zcU,zcW,zcX,zcY,zcZ,zbU,zc0,zf0,zf1,zbW,zbX,zbZ,zeF,zeG,zc1,zc2,zb2,zb3,zb4,zb5,zc3,zc4,zeH,zeI,zeJ,zb6,zca,zcc,zcd,zce,zc7,zeN,zeO,zda,zcf,zeP,zeQ,zdb,zeR,zeT,zeU,zeV,zeW,zeX,zdd,zeY,zeZ,ze0,zde,ze1,zdf,zdg,ze2,zdh,ze3,ze4,ze5,zdi,ze6,ze7,ze8,zfa,zfb,zfc,zdl,zdm,zdn,zdo,zdp,zci,zdq,zf2,zdr,zfe,zds,zff,zfg,zfh,zfi,zfj,zfk,zdt,zdu,zdv,zfl,zfm,zdw,zfn,zdx,zfq,zfr,zf3,zbE,zaX,zae,zaY,zaZ,zbk,zbv,zax,zbl,zao,zaK,za8,zbm,za9,za0,zba,zbb,zaf,zap,zaq,zaa,zar,zaL,zbF,za1,zag,za2,za3,zbn,zbw,zay,zbo,zas,zaM,zbc,zbp,zbd,za4,zbe,zbf,zah,zbG,zbj,zcj,zck,zbx,zaS,zaW,zbH,zbI,zcl,zby,zcm,zdy,zdz,zcn,zco,zfs,zft,zdA,zdB,zdC,zfv,zfw,zfx,zfy,zfz,zdD,zdF,zdG,zdH,zfA,zdI,zdJ,zdL,zdM,zfB,zfC,zfD,zdO,zcp,zfE,zdP,zdQ,zdR,zdS,zdT,zdV,zdW,zcq,zbJ,zbK,zdX,zdY,zfF,zd2,zfG,zfJ,zfK,zd5,zd6,zd7,zd8,zd9,zfL,zfM,zfN,zfO,zfP,zeb,zec,zfQ,zed,zee,zef,zeg,zeh,zcr,zei,zej,zem,zfR,zen,zfS,zfT,zfV,zfX,zfY,zeo,zep,zer,zfZ,zes,zeu,zew,zex,zez,zbr,zam,zbs,zbt,zbM,zcs,zaT,zbN,zaG,za7,F_put_all,F_gather,F_flatten,zbu,zbB,zbC,zan,zaH,zaI,zad,zaJ,F_FlowRun_go,if_true,if_false,zf4,zf5,cond_true,cond_false,List.zip,List.zipWith,List.length_cons,List.length_nil,Option.isSome_some,Bool.false_eq_true,reduceIte,reduceCtorEq,Nat.reduceEqDiff,Nat.reduceAdd,Nat.reduceLeDiff,Int.cast_ofNat_Int,decide_true,decide_false,Bool.and_true,Bool.true_and,Bool.and_false,Bool.false_and,Int.sub_zero,Int.reduceNeg,Nat.reduceLT,and_self,and_true,true_and,Bool.false_or,Bool.or_false,Bool.true_or,Bool.or_true,Bool.not_true,Bool.not_false,Int.natAbs_neg,Int.reduceSub,Int.reduceAdd,Int.reduceToNat,Int.natAbs_zero,Int.natAbs_one,Int.reduceLT,Int.reduceLE,Int.reduceGE,Int.reduceGT,decide_eq_true_eq,List.getElem?_cons_zero,List.getElem?_cons_succ,Nat.reduceSub,Int.reduceMul,Nat.reduceBEq,Nat.reducePow,Int.reducePow,and_false,false_and,eq_self,zbO,zbD _ _ zbx,IX,lim,Row.mv,b4,Int.toNat_natCast,n2]
  · by_cases hr : F.rows.length ≤ a
    · have b5 : (a : Int) ≥ (F.rows.length : Int) := by omega
      rw [if_pos hr] at n3
      simp only [zct,zcv,zcw,zcx,zcy,zcz,zcB,zcC,zbP,zcD,zcE,zcF,zcG,zbQ,zcH,zcI,zcJ,zcK,zbR,zeA,zeB,zeC,zeD,zcL,zcM,zcP,zcS,zbS,zbT,zcU,zcW,zcX,zcY,zcZ,zbU,zc0,zf0,zf1,zbW,zbX,zbZ,zeF,zeG,zc1,zc2,zb2,zb3,zb4,zb5,zc3,zc4,zeH,zeI,zeJ,zb6,zca,zcc,zcd,zce,zc7,zeN,zeO,zda,zcf,zeP,zeQ,zdb,zeR,zeT,zeU,zeV,zeW,zeX,zdd,zeY,zeZ,ze0,zde,ze1,zdf,zdg,ze2,zdh,ze3,ze4,ze5,zdi,ze6,ze7,ze8,zfa,zfb,zfc,zdl,zdm,zdn,zdo,zdp,zci,zdq,zf2,zdr,zfe,zds,zff,zfg,zfh,zfi,zfj,zfk,zdt,zdu,zdv,zfl,zfm,zdw,zfn,zdx,zfq,zfr,zf3,zbE,zaX,zae,zaY,zaZ,zbk,zbv,zax,zbl,zao,zaK,za8,zbm,za9,za0,zba,zbb,zaf,zap,zaq,zaa,zar,zaL,zbF,za1,zag,za2,za3,zbn,zbw,zay,zbo,zas,zaM,zbc,zbp,zbd,za4,zbe,zbf,zah,zbG,zbj,zcj,zck,zbx,zaS,zaW,zbH,zbI,zcl,zby,zcm,zdy,zdz,zcn,zco,zfs,zft,zdA,zdB,zdC,zfv,zfw,zfx,zfy,zfz,zdD,zdF,zdG,zdH,zfA,zdI,zdJ,zdL,zdM,zfB,zfC,zfD,zdO,zcp,zfE,zdP,zdQ,zdR,zdS,zdT,zdV,zdW,zcq,zbJ,zbK,zdX,zdY,zfF,zd2,zfG,zfJ,zfK,zd5,zd6,zd7,zd8,zd9,zfL,zfM,zfN,zfO,zfP,zeb,zec,zfQ,zed,zee,zef,zeg,zeh,zcr,zei,zej,zem,zfR,zen,zfS,zfT,zfV,zfX,zfY,zeo,zep,zer,zfZ,zes,zeu,zew,zex,zez,zbr,zam,zbs,zbt,zbM,zcs,zaT,zbN,zaG,za7,F_put_all,F_gather,F_flatten,zbu,zbB,zbC,zan,zaH,zaI,zad,zaJ,F_FlowRun_go,if_true,if_false,zf4,zf5,cond_true,cond_false,List.zip,List.zipWith,List.length_cons,List.length_nil,Option.isSome_some,Bool.false_eq_true,reduceIte,reduceCtorEq,Nat.reduceEqDiff,Nat.reduceAdd,Nat.reduceLeDiff,Int.cast_ofNat_Int,decide_true,decide_false,Bool.and_true,Bool.true_and,Bool.and_false,Bool.false_and,Int.sub_zero,Int.reduceNeg,Nat.reduceLT,and_self,and_true,true_and,Bool.false_or,Bool.or_false,Bool.true_or,Bool.or_true,Bool.not_true,Bool.not_false,Int.natAbs_neg,Int.reduceSub,Int.reduceAdd,Int.reduceToNat,Int.natAbs_zero,Int.natAbs_one,Int.reduceLT,Int.reduceLE,Int.reduceGE,Int.reduceGT,decide_eq_true_eq,List.getElem?_cons_zero,List.getElem?_cons_succ,Nat.reduceSub,Int.reduceMul,Nat.reduceBEq,Nat.reducePow,Int.reducePow,and_false,false_and,eq_self,zbO,zbD _ _ zbx,IX,lim,Row.mv,tt.flat,tt.rows,b4,Int.toNat_natCast,n2,c5,b1',b3,b5,n3]
    · have b5 : ¬ ((a : Int) ≥ (F.rows.length : Int)) := by omega
      rw [if_neg hr] at n3
      simp only [zct,zcv,zcw,zcx,zcy,zcz,zcB,zcC,zbP,zcD,zcE,zcF,zcG,zbQ,zcH,zcI,zcJ,zcK,zbR,zeA,zeB,zeC,zeD,zcL,zcM,zcP,zcS,zbS,zbT,zcU,zcW,zcX,zcY,zcZ,zbU,zc0,zf0,zf1,zbW,zbX,zbZ,zeF,zeG,zc1,zc2,zb2,zb3,zb4,zb5,zc3,zc4,zeH,zeI,zeJ,zb6,zca,zcc,zcd,zce,zc7,zeN,zeO,zda,zcf,zeP,zeQ,zdb,zeR,zeT,zeU,zeV,zeW,zeX,zdd,zeY,zeZ,ze0,zde,ze1,zdf,zdg,ze2,zdh,ze3,ze4,ze5,zdi,ze6,ze7,ze8,zfa,zfb,zfc,zdl,zdm,zdn,zdo,zdp,zci,zdq,zf2,zdr,zfe,zds,zff,zfg,zfh,zfi,zfj,zfk,zdt,zdu,zdv,zfl,zfm,zdw,zfn,zdx,zfq,zfr,zf3,zbE,zaX,zae,zaY,zaZ,zbk,zbv,zax,zbl,zao,zaK,za8,zbm,za9,za0,zba,zbb,zaf,zap,zaq,zaa,zar,zaL,zbF,za1,zag,za2,za3,zbn,zbw,zay,zbo,zas,zaM,zbc,zbp,zbd,za4,zbe,zbf,zah,zbG,zbj,zcj,zck,zbx,zaS,zaW,zbH,zbI,zcl,zby,zcm,zdy,zdz,zcn,zco,zfs,zft,zdA,zdB,zdC,zfv,zfw,zfx,zfy,zfz,zdD,zdF,zdG,zdH,zfA,zdI,zdJ,zdL,zdM,zfB,zfC,zfD,zdO,zcp,zfE,zdP,zdQ,zdR,zdS,zdT,zdV,zdW,zcq,zbJ,zbK,zdX,zdY,zfF,zd2,zfG,zfJ,zfK,zd5,zd6,zd7,zd8,zd9,zfL,zfM,zfN,zfO,zfP,zeb,zec,zfQ,zed,zee,zef,zeg,zeh,zcr,zei,zej,zem,zfR,zen,zfS,zfT,zfV,zfX,zfY,zeo,zep,zer,zfZ,zes,zeu,zew,zex,zez,zbr,zam,zbs,zbt,zbM,zcs,zaT,zbN,zaG,za7,F_put_all,F_gather,F_flatten,zbu,zbB,zbC,zan,zaH,zaI,zad,zaJ,F_FlowRun_go,if_true,if_false,zf4,zf5,cond_true,cond_false,List.zip,List.zipWith,List.length_cons,List.length_nil,Option.isSome_some,Bool.false_eq_true,reduceIte,reduceCtorEq,Nat.reduceEqDiff,Nat.reduceAdd,Nat.reduceLeDiff,Int.cast_ofNat_Int,decide_true,decide_false,Bool.and_true,Bool.true_and,Bool.and_false,Bool.false_and,Int.sub_zero,Int.reduceNeg,Nat.reduceLT,and_self,and_true,true_and,Bool.false_or,Bool.or_false,Bool.true_or,Bool.or_true,Bool.not_true,Bool.not_false,Int.natAbs_neg,Int.reduceSub,Int.reduceAdd,Int.reduceToNat,Int.natAbs_zero,Int.natAbs_one,Int.reduceLT,Int.reduceLE,Int.reduceGE,Int.reduceGT,decide_eq_true_eq,List.getElem?_cons_zero,List.getElem?_cons_succ,Nat.reduceSub,Int.reduceMul,Nat.reduceBEq,Nat.reducePow,Int.reducePow,and_false,false_and,eq_self,zbO,zbD _ _ zbx,IX,lim,Row.mv,tt.flat,tt.rows,b4,Int.toNat_natCast,n2,c5,b1',b3,b5,n3]
end
end Mn.Mg
end
section
set_option maxRecDepth 100000
namespace Mn.Mg
structure Bd where
  m : Nat → Int
  c : Nat → Bool
  g : Nat → List Nat
noncomputable def kinds (b : Bd) (x : Nat) : List Nat := if x = 325 then [1, 5] else if x = 339 then [0, 1, 4] else if b.c x = true then [0, 1, 2, 3] else [0, 1, 3]
noncomputable def start (b : Bd) : List Nat → Nat → Nat
  | [], _ => 0
  | y :: r, x => if y = x then 0 else (kinds b y).length + start b r x
noncomputable def nmF : List Nat → Nat → Nat → Int
  | [], _, _ => 0
  | y :: r, j, x => if y = x then 10 * (j : Int) + 10 else nmF r (j + 1) x
noncomputable def rowOf (b : Bd) (nm : Nat → Int) (kr : Nat → Nat) (x o : Nat) : Row :=
  if o = 0 then .let_ (b.m x) else if o = 1 then .rem x else if o = 2 then .sub (nm 339) else if o = 3 then .on_ (kr x) ((b.g x).map nm) else if o = 4 then .ret else .end_
noncomputable def rowsOf (b : Bd) (nm : Nat → Int) (kr : Nat → Nat) (os : List Nat) : List (Int × Row) := os.flatMap fun x => (kinds b x).map fun o => (nm x, rowOf b nm kr x o)
noncomputable def absF (b : Bd) : Nat → Nat → Nat → Int → Option (Nat × Nat) → List MV → Bool × Int × List MV × Nat
  | 0, _, _, X, pl, ns => (false, X, ns, if pl.isSome = true then 1 else 0)
  | k + 1, x, i, X, pl, ns =>
    if (kinds b x)[i]? = some 0 then absF b k x (i + 1) (Int.fmod (3 * X + b.m x) 7) pl ns
    else if (kinds b x)[i]? = some 1 then absF b k x (i + 1) X pl (ns ++ [nt x X])
    else if (kinds b x)[i]? = some 2 then absF b k 339 0 X (some (x, i + 1)) ns
    else if (kinds b x)[i]? = some 3 then absF b k ((b.g x).getD (Int.fmod X 3).toNat 0) 0 X pl ns
    else if (kinds b x)[i]? = some 4 then absF b k (pl.getD (0, 0)).1 (pl.getD (0, 0)).2 X none ns
    else (true, X, ns, if pl.isSome = true then 1 else 0)
noncomputable def isB (x : Nat) : Prop := x = 321 ∨ x = 322 ∨ x = 323
noncomputable def isG (x : Nat) : Prop := isB x ∨ x = 325
theorem kinds_b (b : Bd) {x : Nat} (h : isB x) : kinds b x = if b.c x = true then [0, 1, 2, 3] else [0, 1, 3] := by
  rcases h with rfl | rfl | rfl <;> rfl
theorem kinds_pos (b : Bd) (x : Nat) : 0 < (kinds b x).length := by
  unfold kinds
  repeat' split
  all_goals decide
theorem rows_at (b : Bd) (nm : Nat → Int) (kr : Nat → Nat) {x : Nat} {i o : Nat} (ho : (kinds b x)[i]? = some o) : ∀ {os : List Nat}, x ∈ os → (rowsOf b nm kr os)[start b os x + i]? = some (nm x, rowOf b nm kr x o)
  | [], h => nomatch h
  | y :: r, h => by
    unfold rowsOf start
    rw [List.flatMap_cons]
    by_cases q : y = x
    · subst q
      rw [if_pos rfl, Nat.zero_add, List.getElem?_append_left (by rw [List.length_map]; exact (List.getElem?_eq_some_iff.mp ho).1), List.getElem?_map, ho]
      rfl
    · rw [if_neg q, List.getElem?_append_right (by rw [List.length_map]; omega), List.length_map, show (kinds b y).length + start b r x + i - (kinds b y).length = start b r x + i by omega]
      exact rows_at b nm kr ho ((List.mem_cons.mp h).resolve_left fun e => q e.symm)
noncomputable def Inv (b : Bd) (x i : Nat) (pl : Option (Nat × Nat)) : Prop := i < (kinds b x).length ∧ ((x = 339 ∧ ∃ y j, pl = some (y, j) ∧ isB y ∧ j < (kinds b y).length) ∨ (isG x ∧ pl = none))
structure Ok (b : Bd) (os : List Nat) (F : Fl) : Prop where
  rows : ∃ kr, F.rows = rowsOf b (nmF os 0) kr os
  pl : ∀ x, x ∈ os → placeF F (nmF os 0 x) = some (start b os x)
  all : ∀ x, isG x ∨ x = 339 → x ∈ os
  g : ∀ x, isB x → (b.g x).length = 3 ∧ ∀ y ∈ b.g x, isG y
noncomputable def plF (b : Bd) (os : List Nat) (pl : Option (Nat × Nat)) : Option Nat := pl.map fun q => start b os q.1 + q.2
theorem plF_c (b : Bd) (os : List Nat) (pl : Option (Nat × Nat)) : (pmv (plF b os pl)).length = if pl.isSome = true then 1 else 0 := by cases pl <;> rfl
noncomputable def Sm (F : Fl) (k at_ : Nat) (s : RS) (r : Bool × Int × List MV × Nat) : Prop := ∃ pl', (pmv pl').length = r.2.2.2 ∧ goF F k at_ s = some (if r.1 = true then (F.rows.length : Int) else -1, ⟨r.2.1, pl', r.2.2.1⟩)
theorem Sm.step {F : Fl} {k at_ : Nat} {s : RS} {ln : Int} {r : Row} {R : Bool × Int × List MV × Nat} (h : F.rows[at_]? = some (ln, r)) (he : isEnd r = false) {a : Nat} {s' : RS} (q : oneRow F at_ s r = some (a, s')) (x : Sm F k a s' R) : Sm F (k + 1) at_ s R := by
  obtain ⟨pl, p1, p2⟩ := x
  refine ⟨pl, p1, Eq.trans ?_ p2⟩
  show (F.rows[at_]?).bind _ = _
  rw [h, zct, show isEnd (ln, r).2 = false from he, if_neg nofun, show oneRow F at_ s (ln, r).2 = some (a, s') from q]
  rfl
theorem goF_e {F : Fl} {k at_ : Nat} {s : RS} {ln : Int} (h : F.rows[at_]? = some (ln, .end_)) : goF F (k + 1) at_ s = some ((F.rows.length : Int), s) := by
  show (F.rows[at_]?).bind _ = _
  rw [h]
  rfl
section
variable {b : Bd} {k x i : Nat} {X : Int} {pl : Option (Nat × Nat)} {ns : List MV}
theorem abs0 (h : (kinds b x)[i]? = some 0) : absF b (k + 1) x i X pl ns = absF b k x (i + 1) (Int.fmod (3 * X + b.m x) 7) pl ns := if_pos h
theorem abs1 (h : (kinds b x)[i]? = some 1) : absF b (k + 1) x i X pl ns = absF b k x (i + 1) X pl (ns ++ [nt x X]) := (if_neg (by rw [h]; decide)).trans (if_pos h)
theorem abs2 (h : (kinds b x)[i]? = some 2) : absF b (k + 1) x i X pl ns = absF b k 339 0 X (some (x, i + 1)) ns := (if_neg (by rw [h]; decide)).trans ((if_neg (by rw [h]; decide)).trans (if_pos h))
theorem abs3 (h : (kinds b x)[i]? = some 3) : absF b (k + 1) x i X pl ns = absF b k ((b.g x).getD (Int.fmod X 3).toNat 0) 0 X pl ns := (if_neg (by rw [h]; decide)).trans ((if_neg (by rw [h]; decide)).trans ((if_neg (by rw [h]; decide)).trans (if_pos h)))
theorem abs4 (h : (kinds b x)[i]? = some 4) : absF b (k + 1) x i X pl ns = absF b k (pl.getD (0, 0)).1 (pl.getD (0, 0)).2 X none ns := (if_neg (by rw [h]; decide)).trans ((if_neg (by rw [h]; decide)).trans ((if_neg (by rw [h]; decide)).trans ((if_neg (by rw [h]; decide)).trans (if_pos h))))
theorem abs5 (h : (kinds b x)[i]? = some 5) : absF b (k + 1) x i X pl ns = (true, X, ns, if pl.isSome = true then 1 else 0) := (if_neg (by rw [h]; decide)).trans ((if_neg (by rw [h]; decide)).trans ((if_neg (by rw [h]; decide)).trans ((if_neg (by rw [h]; decide)).trans (if_neg (by rw [h]; decide)))))
end
theorem Inv.mem {b : Bd} {os : List Nat} {F : Fl} (O : Ok b os F) {x i : Nat} {pl : Option (Nat × Nat)} (I : Inv b x i pl) : x ∈ os := O.all x (I.2.elim (fun h => .inr h.1) fun h => .inl h.1)
theorem not_lt4 {i : Nat} {C : Prop} (h : i + 1 + 1 + 1 + 1 < 4) : C := absurd h (Nat.not_lt.mpr (Nat.le_add_left 4 i))
theorem lt_3 {i m : Nat} {C : Prop} (h : i + 3 < m) (hm : m ≤ 3) : C := absurd (Nat.lt_of_lt_of_le h hm) (Nat.not_lt.mpr (Nat.le_add_left 3 i))
theorem sim {b : Bd} {os : List Nat} {F : Fl} (O : Ok b os F) : ∀ (k x i : Nat) (X : Int) (pl : Option (Nat × Nat)) (ns : List MV), Inv b x i pl → ns.length + k < 1000 →
    Sm F k (start b os x + i) ⟨X, plF b os pl, ns⟩ (absF b k x i X pl ns) := by
  obtain ⟨kr, hr⟩ := O.rows
  intro k
  induction k with
  | zero =>
    intro x i X pl ns I hn
    refine ⟨plF b os pl, plF_c b os pl, ?_⟩
    obtain ⟨o, ho⟩ : ∃ o, (kinds b x)[i]? = some o := ⟨_, List.getElem?_eq_getElem I.1⟩
    have h1 := rows_at b (nmF os 0) kr ho (I.mem O)
    rw [← hr] at h1
    exact congrArg (fun z : Int => some (z, (⟨X, plF b os pl, ns⟩ : RS))) (if_neg (Nat.not_le.mpr (List.getElem?_eq_some_iff.mp h1).1))
  | succ k ih =>
    intro x i X pl ns I hn
    obtain ⟨o, ho⟩ : ∃ o, (kinds b x)[i]? = some o := ⟨_, List.getElem?_eq_getElem I.1⟩
    have h1 := rows_at b (nmF os 0) kr ho (I.mem O)
    rw [← hr] at h1
    have I1 := I.1
    have hn0 : ns.length + k < 1000 := Nat.lt_of_succ_lt hn
    have hn1 : ns.length + 1 < 1000 := Nat.lt_of_le_of_lt (Nat.add_le_add_left (Nat.succ_le_succ (Nat.zero_le k)) _) hn
    have hn2 : ∀ v, (ns ++ [v]).length + k < 1000 := fun v => by rw [List.length_append, Nat.add_assoc, Nat.add_comm _ k]; exact hn
    have key0 : o = 0 → Inv b x (i + 1) pl → Sm F (k + 1) (start b os x + i) ⟨X, plF b os pl, ns⟩ (absF b (k + 1) x i X pl ns) := by
      rintro rfl hi
      rw [abs0 ho]
      exact .step h1 rfl rfl (ih x (i + 1) _ pl ns hi hn0)
    have key1 : o = 1 → Inv b x (i + 1) pl → Sm F (k + 1) (start b os x + i) ⟨X, plF b os pl, ns⟩ (absF b (k + 1) x i X pl ns) := by
      rintro rfl hi
      rw [abs1 ho]
      exact .step h1 rfl (if_pos hn1) (ih x (i + 1) X pl _ hi (hn2 _))
    rcases I.2 with ⟨rfl, y, j, rfl, hy, hj⟩ | ⟨hg, rfl⟩
    · -- the called block
      have hk : kinds b 339 = [0, 1, 4] := rfl
      have hI : ∀ i, i < 3 → Inv b 339 i (some (y, j)) := fun i h => ⟨h, .inl ⟨rfl, y, j, rfl, hy, hj⟩⟩
      rcases i with _ | _ | _ | i
      · exact key0 (Option.some.inj ho).symm (hI 1 (by decide))
      · exact key1 (Option.some.inj ho).symm (hI 2 (by decide))
      · obtain rfl : 4 = o := Option.some.inj ho
        rw [abs4 ho]
        exact .step h1 rfl rfl (ih y j X none ns ⟨hj, .inr ⟨.inl hy, rfl⟩⟩ hn0)
      · exact lt_3 I1 (Nat.le_refl 3)
    · rcases hg with hb | rfl
      · have hk := kinds_b b hb
        have hI : ∀ i, i < (kinds b x).length → Inv b x i none := fun i h => ⟨h, .inr ⟨.inl hb, rfl⟩⟩
        have key3 : o = 3 → Sm F (k + 1) (start b os x + i) ⟨X, none, ns⟩ (absF b (k + 1) x i X none ns) := by
          rintro rfl
          obtain ⟨g1, g2⟩ := O.g x hb
          have br := fmod_range X 3 (by decide)
          obtain ⟨t, ht⟩ : ∃ t, (b.g x)[(Int.fmod X 3).toNat]? = some t := ⟨_, List.getElem?_eq_getElem (by omega)⟩
          have hG := g2 t (List.mem_of_getElem? ht)
          have e1 : oneRow F (start b os x + i) ⟨X, none, ns⟩ (rowOf b (nmF os 0) kr x 3) = some (start b os t + 0, ⟨X, none, ns⟩) := by
            show (((b.g x).map (nmF os 0))[(Int.fmod X 3).toNat]?).bind _ = _
            rw [List.getElem?_map, ht]
            show (placeF F (nmF os 0 t)).bind _ = _
            rw [O.pl t (O.all t (.inl hG))]
            rfl
          rw [abs3 ho, List.getD_eq_getElem?_getD, ht]
          exact .step h1 rfl e1 (ih t 0 X none ns ⟨kinds_pos b t, .inr ⟨hG, rfl⟩⟩ hn0)
        cases hc : b.c x with
        | true =>
          rw [hc, if_pos rfl] at hk
          rw [hk] at hI
          have ho' := ho
          rw [hk] at ho' I1
          rcases i with _ | _ | _ | _ | i
          · exact key0 (Option.some.inj ho').symm (hI 1 (by decide))
          · exact key1 (Option.some.inj ho').symm (hI 2 (by decide))
          · obtain rfl : 2 = o := Option.some.inj ho'
            have e1 : oneRow F (start b os x + 2) ⟨X, none, ns⟩ (rowOf b (nmF os 0) kr x 2) = some (start b os 339 + 0, ⟨X, some (start b os x + 3), ns⟩) := by
              show (placeF F (nmF os 0 339)).bind _ = _
              rw [O.pl _ (O.all _ (.inr rfl))]
              rfl
            rw [abs2 ho]
            exact .step h1 rfl e1 (ih 339 0 X (some (x, 3)) ns ⟨kinds_pos b _, .inl ⟨rfl, x, 3, rfl, hb, by rw [hk]; decide⟩⟩ hn0)
          · exact key3 (Option.some.inj ho').symm
          · exact not_lt4 I1
        | false =>
          rw [hc, if_neg nofun] at hk
          rw [hk] at hI
          have ho' := ho
          rw [hk] at ho' I1
          rcases i with _ | _ | _ | i
          · exact key0 (Option.some.inj ho').symm (hI 1 (by decide))
          · exact key1 (Option.some.inj ho').symm (hI 2 (by decide))
          · exact key3 (Option.some.inj ho').symm
          · exact lt_3 I1 (Nat.le_refl 3)
      · have hI : ∀ i, i < 2 → Inv b 325 i none := fun i h => ⟨h, .inr ⟨.inr rfl, rfl⟩⟩
        rcases i with _ | _ | i
        · exact key1 (Option.some.inj ho).symm (hI 1 (by decide))
        · obtain rfl : 5 = o := Option.some.inj ho
          rw [abs5 ho]
          exact ⟨none, rfl, goF_e h1⟩
        · exact absurd I1 (Nat.not_lt.mpr (Nat.le_add_left 2 i))
end Mn.Mg
end
section
set_option maxRecDepth 100000
namespace Mn.Mg
noncomputable def nl : List Nat → Nat → List (MV × MV)
  | [], _ => []
  | y :: r, j => (.str y, .int (10 * (j : Int) + 10)) :: nl r (j + 1)
noncomputable def plL (b : Bd) : List Nat → Nat → Nat → List (MV × MV)
  | [], _, _ => []
  | y :: r, j, a => (.int (10 * (j : Int) + 10), .int a) :: plL b r (j + 1) (a + (kinds b y).length)
theorem nl_get {x : Nat} : ∀ {os : List Nat} {j : Nat}, x ∈ os → dGet (.str x) (nl os j) = some (.int (nmF os j x))
  | [], _, h => nomatch h
  | y :: r, j, h => by
    show (if Nat.beq y x = true then _ else _) = some (MV.int (if y = x then _ else _))
    by_cases q : y = x
    · rw [q, if_pos (Nat.beq_refl x), if_pos rfl]
    · rw [if_neg (fun z => q (Nat.eq_of_beq_eq_true z)), if_neg q]
      exact nl_get ((List.mem_cons.mp h).resolve_left fun e => q e.symm)
theorem nmF_ge {x : Nat} : ∀ {os : List Nat} {j : Nat}, x ∈ os → 10 * (j : Int) + 10 ≤ nmF os j x
  | [], _, h => nomatch h
  | y :: r, j, h => by
    unfold nmF
    by_cases q : y = x
    · rw [if_pos q]; exact Int.le_refl _
    · rw [if_neg q]
      have := nmF_ge (j := j + 1) ((List.mem_cons.mp h).resolve_left fun e => q e.symm)
      omega
theorem plL_get (b : Bd) {x : Nat} : ∀ {os : List Nat} {j a : Nat}, x ∈ os → dGet (.int (nmF os j x)) (plL b os j a) = some (.int ((a + start b os x : Nat) : Int))
  | [], _, _, h => nomatch h
  | y :: r, j, a, h => by
    show (if decide ((10 * (j : Int) + 10) = nmF (y :: r) j x) = true then _ else _) = _
    unfold nmF start
    by_cases q : y = x
    · rw [if_pos q, if_pos q, if_pos (decide_eq_true rfl)]; rfl
    · have hm := (List.mem_cons.mp h).resolve_left fun e => q e.symm
      have := nmF_ge (j := j + 1) hm
      rw [if_neg q, if_neg q, if_neg (by rw [decide_eq_true_eq]; omega), plL_get b hm, Nat.add_assoc]
theorem dPut_new {k v : MV} : ∀ {es : List (MV × MV)}, (∀ p ∈ es, keyEq p.1 k = false) → dPut k v es = es ++ [(k, v)]
  | [], _ => rfl
  | (j, u) :: r, h => by
    unfold dPut
    rw [if_neg (by rw [h _ (.head _)]; nofun), dPut_new fun p hp => h p (.tail _ hp)]
    rfl
theorem nl_fold : ∀ (os : List Nat) (j : Nat) (es : List (MV × MV)), (∀ p ∈ es, ∀ y ∈ os, keyEq p.1 (.str y) = false) → os.Nodup → (nl os j).foldl (fun es p => dPut p.1 p.2 es) es = es ++ nl os j
  | [], _, es, _, _ => (List.append_nil es).symm
  | y :: r, j, es, h, hn => by
    rw [List.nodup_cons] at hn
    show List.foldl _ (dPut (.str y) _ es) (nl r (j + 1)) = _
    rw [dPut_new fun p hp => h p hp y (.head _), nl_fold r (j + 1) _ (fun p hp z hz => ?_) hn.2, List.append_assoc]
    · rfl
    · rcases List.mem_append.mp hp with hp | hp
      · exact h p hp z (.tail _ hz)
      · rw [List.mem_singleton.mp hp]
        show Nat.beq y z = false
        cases q : Nat.beq y z with
        | false => rfl
        | true => exact absurd (Nat.eq_of_beq_eq_true q ▸ hz) hn.1
theorem dictOf_nl {os : List Nat} (h : os.Nodup) (j : Nat) : dictOf (nl os j) = nl os j := nl_fold os j [] (fun p hp => nomatch hp) h
theorem nl_ok (x : Nat) : ∀ (os : List Nat) (j : Nat), okKey (.str x) (nl os j) = true
  | [], _ => rfl
  | y :: r, j => nl_ok x r (j + 1)
theorem plL_ok (b : Bd) (i : Int) : ∀ (os : List Nat) (j a : Nat), okKey (.int i) (plL b os j a) = true
  | [], _, _ => rfl
  | y :: r, j, a => plL_ok b i r (j + 1) _
theorem nl_len : ∀ (os : List Nat) (j : Nat), (nl os j).length = os.length
  | [], _ => rfl
  | y :: r, j => congrArg Nat.succ (nl_len r (j + 1))
theorem plL_snoc (b : Bd) (x : Nat) : ∀ (os : List Nat) (j a : Nat), plL b (os ++ [x]) j a = plL b os j a ++ [(.int (10 * ((j + os.length : Nat) : Int) + 10), .int ((a + (os.flatMap (kinds b)).length : Nat) : Int))]
  | [], j, a => rfl
  | y :: r, j, a => by
    show _ :: plL b (r ++ [x]) (j + 1) _ = _
    rw [plL_snoc b x r (j + 1), List.flatMap_cons, List.length_append, List.length_cons, show j + 1 + r.length = j + (r.length + 1) by omega, Nat.add_assoc]
    rfl
theorem plL_keys (b : Bd) : ∀ (os : List Nat) (j a : Nat) (p : MV × MV), p ∈ plL b os j a → ∃ i : Nat, p.1 = .int (10 * ((j + i : Nat) : Int) + 10) ∧ i < os.length
  | [], _, _, _, h => nomatch h
  | y :: r, j, a, p, h => by
    rcases List.mem_cons.mp h with rfl | h
    · exact ⟨0, rfl, Nat.succ_pos _⟩
    · obtain ⟨i, e, hi⟩ := plL_keys b r (j + 1) _ p h
      exact ⟨i + 1, by rw [e, show j + 1 + i = j + (i + 1) by omega], Nat.succ_lt_succ hi⟩
theorem plL_len (b : Bd) : ∀ (os : List Nat) (j a : Nat), (plL b os j a).length = os.length
  | [], _, _ => rfl
  | y :: r, j, a => congrArg Nat.succ (plL_len b r (j + 1) _)
theorem plL_put (b : Bd) (os : List Nat) (x : Nat) : dPut (.int (10 * (os.length : Int) + 10)) (.int ((os.flatMap (kinds b)).length : Int)) (plL b os 0 0) = plL b (os ++ [x]) 0 0 := by
  rw [dPut_new fun p hp => ?_, plL_snoc, Nat.zero_add, Nat.zero_add]
  obtain ⟨i, e, hi⟩ := plL_keys b os 0 0 p hp
  rw [e, Nat.zero_add]
  exact decide_eq_false (by omega)
structure Grew (H H' : MH) : Prop where
  next : H.next ≤ H'.next
  get : ∀ k, k < H.next → H'.get k = H.get k
theorem Grew.refl (H : MH) : Grew H H := ⟨Nat.le_refl _, fun _ _ => rfl⟩
theorem Grew.trans {H1 H2 H3 : MH} (x : Grew H1 H2) (y : Grew H2 H3) : Grew H1 H3 := ⟨Nat.le_trans x.next y.next, fun k h => (y.get k (Nat.lt_of_lt_of_le h x.next)).trans (x.get k h)⟩
theorem Grew.new {H H' : MH} (x : Grew H H') (o : MO) : Grew H (H'.new o) := ⟨Nat.le_succ_of_le x.next, fun k h => (new_ne _ _ _ (Nat.ne_of_lt (Nat.lt_of_lt_of_le h x.next))).trans (x.get k h)⟩
theorem Grew.upd {H H' : MH} (x : Grew H H') {a : Nat} (o : MO) (h : H.next ≤ a) : Grew H (H'.upd a o) := ⟨x.next, fun k hk => (upd_ne _ _ _ _ (Nat.ne_of_lt (Nat.lt_of_lt_of_le hk h))).trans (x.get k hk)⟩
theorem upd_upd (H : MH) (k : Nat) (a b : MO) : (H.upd k a).upd k b = H.upd k b := by
  unfold MH.upd
  congr 1
  funext j
  dsimp only
  split <;> rfl
noncomputable def drawF (sl : List Int) (k : Nat) (below : Int) : Int := match sl[k]? with
  | some i => Int.fmod (i.natAbs : Int) below
  | none => Int.fmod (3 * (k : Int) + Int.fdiv (k : Int) 3 + 1) below
theorem drawF_range (sl : List Int) (k : Nat) (below : Int) (hb : 0 < below) : 0 ≤ drawF sl k below ∧ drawF sl k below < below := by
  unfold drawF
  split <;> exact fmod_range _ _ hb
theorem draw_ok (sl : List Int) (k : Nat) (below : Int) (hb : 0 < below) (hk : k < 1000) (H : MH) (a b : Nat) (hab : b ≠ a) (h2 : H.get a = some (.list [.ref b, .int (k : Int)])) (h1 : H.get b = some (.list (sl.map .int))) (hl : sl.length < 100) :
    ∀ n d : Nat, (ev (PgC lf3 lg3) (n + 30) (d + 2)).c (.fn 6482616824352480584055) [.ref a, .int below] H = some (.int (drawF sl k below), H.upd a (.list [.ref b, .int ((k : Int) + 1)])) := by
  have b1 : ¬ (below = 0) := by omega
  have b2 : sl.length ≤ 1048576 := by omega
  have u1 := upd_eq H a (.list [.ref b, .int ((k : Int) + 1)])
  have u2 := upd_ne H a b (.list [.ref b, .int ((k : Int) + 1)]) hab
  by_cases hs : k < sl.length
  · have e0 : sl[k]? = some sl[k] := List.getElem?_eq_getElem hs
    have e1 : idx (sl.map MV.int) (k : Int) = some (.int sl[k]) := by
      rw [idx_nat _ k rfl (by omega), List.getElem?_map, e0]; rfl
    have hs' : ((k : Int) < (sl.length : Int)) := by omega
    intro n d
    rw [show drawF sl k below = Int.fmod (sl[k].natAbs : Int) below by unfold drawF; rw [e0], ec_fn, callF_ _ _ _ f3_F__law_draw rfl rfl]
    simp only [zct,zcv,zcw,zcx,zcy,zcz,zcB,zcC,zbP,zcD,zcE,zcF,zcG,zbQ,zcH,zcI,zcJ,zcK,zbR,zeA,zeB,zeC,zeD,zcL,zcM,zcP,zcS,zbS,zbT,zcU,zcW,zcX,zcY,zcZ,zbU,zc0,zf0,zf1,zbW,zbX,zbZ,zeF,zeG,zc1,zc2,zb2,zb3,zb4,zb5,zc3,zc4,zeH,zeI,zeJ,zb6,zca,zcc,zcd,zce,zc7,zeN,zeO,zda,zcf,zeP,zeQ,zdb,zeR,zeT,zeU,zeV,zeW,zeX,zdd,zeY,zeZ,ze0,zde,ze1,zdf,zdg,ze2,zdh,ze3,ze4,ze5,zdi,ze6,ze7,ze8,zfa,zfb,zfc,zdl,zdm,zdn,zdo,zdp,zci,zdq,zf2,zdr,zfe,zds,zff,zfg,zfh,zfi,zfj,zfk,zdt,zdu,zdv,zfl,zfm,zdw,zfn,zdx,zfq,zfr,zf3,zbE,zaX,zae,zaY,zaZ,zbk,zbv,zax,zbl,zao,zaK,za8,zbm,za9,za0,zba,zbb,zaf,zap,zaq,zaa,zar,zaL,zbF,za1,zag,za2,za3,zbn,zbw,zay,zbo,zas,zaM,zbc,zbp,zbd,za4,zbe,zbf,zah,zbG,zbj,zcj,zck,zbx,zaS,zaW,zbH,zbI,zcl,zby,zcm,zdy,zdz,zcn,zco,zfs,zft,zdA,zdB,zdC,zfv,zfw,zfx,zfy,zfz,zdD,zdF,zdG,zdH,zfA,zdI,zdJ,zdL,zdM,zfB,zfC,zfD,zdO,zcp,zfE,zdP,zdQ,zdR,zdS,zdT,zdV,zdW,zcq,zbJ,zbK,zdX,zdY,zfF,zd2,zfG,zfJ,zfK,zd5,zd6,zd7,zd8,zd9,zfL,zfM,zfN,zfO,zfP,zeb,zec,zfQ,zed,zee,zef,zeg,zeh,zcr,zei,zej,zem,zfR,zen,zfS,zfT,zfV,zfX,zfY,zeo,zep,zer,zfZ,zes,zeu,zew,zex,zez,zbr,zam,zbs,zbt,zbM,zcs,zaT,zbN,zaG,za7,F_put_all,F_gather,F_flatten,zbu,zbB,zbC,zan,zaH,zaI,zad,zaJ,F_FlowRun_go,if_true,if_false,zf4,zf5,cond_true,cond_false,List.zip,List.zipWith,List.length_cons,List.length_nil,Option.isSome_some,Bool.false_eq_true,reduceIte,reduceCtorEq,Nat.reduceEqDiff,Nat.reduceAdd,Nat.reduceLeDiff,Int.cast_ofNat_Int,decide_true,decide_false,Bool.and_true,Bool.true_and,Bool.and_false,Bool.false_and,Int.sub_zero,Int.reduceNeg,Nat.reduceLT,and_self,and_true,true_and,Bool.false_or,Bool.or_false,Bool.true_or,Bool.or_true,Bool.not_true,Bool.not_false,Int.natAbs_neg,Int.reduceSub,Int.reduceAdd,Int.reduceToNat,Int.natAbs_zero,Int.natAbs_one,Int.reduceLT,Int.reduceLE,Int.reduceGE,Int.reduceGT,decide_eq_true_eq,List.getElem?_cons_zero,List.getElem?_cons_succ,Nat.reduceSub,Int.reduceMul,Nat.reduceBEq,Nat.reducePow,Int.reducePow,and_false,false_and,eq_self,zbO,zbD _ _ zbx,IX,lim,F__law_draw3,h1,h2,u1,u2,List.length_map,b1,b2,e1,hs',Int.toNat_one,List.set]
  · have hs' : ¬ ((k : Int) < (sl.length : Int)) := by omega
    have c1 : k < 1073741824 := by omega
    intro n d
    rw [show drawF sl k below = Int.fmod (3 * (k : Int) + Int.fdiv (k : Int) 3 + 1) below by unfold drawF; rw [List.getElem?_eq_none (by omega)], ec_fn, callF_ _ _ _ f3_F__law_draw rfl rfl]
    simp only [zct,zcv,zcw,zcx,zcy,zcz,zcB,zcC,zbP,zcD,zcE,zcF,zcG,zbQ,zcH,zcI,zcJ,zcK,zbR,zeA,zeB,zeC,zeD,zcL,zcM,zcP,zcS,zbS,zbT,zcU,zcW,zcX,zcY,zcZ,zbU,zc0,zf0,zf1,zbW,zbX,zbZ,zeF,zeG,zc1,zc2,zb2,zb3,zb4,zb5,zc3,zc4,zeH,zeI,zeJ,zb6,zca,zcc,zcd,zce,zc7,zeN,zeO,zda,zcf,zeP,zeQ,zdb,zeR,zeT,zeU,zeV,zeW,zeX,zdd,zeY,zeZ,ze0,zde,ze1,zdf,zdg,ze2,zdh,ze3,ze4,ze5,zdi,ze6,ze7,ze8,zfa,zfb,zfc,zdl,zdm,zdn,zdo,zdp,zci,zdq,zf2,zdr,zfe,zds,zff,zfg,zfh,zfi,zfj,zfk,zdt,zdu,zdv,zfl,zfm,zdw,zfn,zdx,zfq,zfr,zf3,zbE,zaX,zae,zaY,zaZ,zbk,zbv,zax,zbl,zao,zaK,za8,zbm,za9,za0,zba,zbb,zaf,zap,zaq,zaa,zar,zaL,zbF,za1,zag,za2,za3,zbn,zbw,zay,zbo,zas,zaM,zbc,zbp,zbd,za4,zbe,zbf,zah,zbG,zbj,zcj,zck,zbx,zaS,zaW,zbH,zbI,zcl,zby,zcm,zdy,zdz,zcn,zco,zfs,zft,zdA,zdB,zdC,zfv,zfw,zfx,zfy,zfz,zdD,zdF,zdG,zdH,zfA,zdI,zdJ,zdL,zdM,zfB,zfC,zfD,zdO,zcp,zfE,zdP,zdQ,zdR,zdS,zdT,zdV,zdW,zcq,zbJ,zbK,zdX,zdY,zfF,zd2,zfG,zfJ,zfK,zd5,zd6,zd7,zd8,zd9,zfL,zfM,zfN,zfO,zfP,zeb,zec,zfQ,zed,zee,zef,zeg,zeh,zcr,zei,zej,zem,zfR,zen,zfS,zfT,zfV,zfX,zfY,zeo,zep,zer,zfZ,zes,zeu,zew,zex,zez,zbr,zam,zbs,zbt,zbM,zcs,zaT,zbN,zaG,za7,F_put_all,F_gather,F_flatten,zbu,zbB,zbC,zan,zaH,zaI,zad,zaJ,F_FlowRun_go,if_true,if_false,zf4,zf5,cond_true,cond_false,List.zip,List.zipWith,List.length_cons,List.length_nil,Option.isSome_some,Bool.false_eq_true,reduceIte,reduceCtorEq,Nat.reduceEqDiff,Nat.reduceAdd,Nat.reduceLeDiff,Int.cast_ofNat_Int,decide_true,decide_false,Bool.and_true,Bool.true_and,Bool.and_false,Bool.false_and,Int.sub_zero,Int.reduceNeg,Nat.reduceLT,and_self,and_true,true_and,Bool.false_or,Bool.or_false,Bool.true_or,Bool.or_true,Bool.not_true,Bool.not_false,Int.natAbs_neg,Int.reduceSub,Int.reduceAdd,Int.reduceToNat,Int.natAbs_zero,Int.natAbs_one,Int.reduceLT,Int.reduceLE,Int.reduceGE,Int.reduceGT,decide_eq_true_eq,List.getElem?_cons_zero,List.getElem?_cons_succ,Nat.reduceSub,Int.reduceMul,Nat.reduceBEq,Nat.reducePow,Int.reducePow,and_false,false_and,eq_self,zbO,zbD _ _ zbx,IX,lim,F__law_draw3,h1,h2,u1,u2,List.length_map,b1,b2,hs',Int.toNat_one,List.set,c1,Int.reduceEq,Nat.not_le,or_false,ge_iff_le,Int.natAbs_natCast]
end Mn.Mg
end
section
set_option maxRecDepth 100000
namespace Mn.Mg
theorem evC_of {P : Pg} {E : Ev} {e : MX} {t : CT} {it : MX} {L : Loc} {H H1 H2 : MH} {i : It} {r : List MV} (e1 : evI P E it L H = some (i, H1)) (hu : (ubnd t L && tupOk t.mt i) = true) (e2 : E.k e t [] i [] L H1 = some (r, H2)) (hz : r.length ≤ 1048576) :
    evC P E e t it [] L H = some (.ref H2.next, H2.new (.list r)) := by
  unfold evC
  rw [e1, zct]
  refine (if_pos hu).trans ?_
  show (E.k e t [] i [] L H1).bind knl = _
  rw [e2, zct]
  exact if_pos hz
theorem kloop {P : Pg} {e : MX} {t : CT} {L : Loc} {vs ws : List MV} {nx : Nat → It} {HF : Nat → MH} {d c : Nat} (tl : MV → Loc)
    (hn : ∀ j, j ≤ vs.length → (nx j).next (HF j) = some (vs[j]?.map fun v => (v, nx (j + 1))))
    (hp : ∀ n j v z, vs[j]? = some v → (z = [] ∨ ∃ u, z = tl u) → put P (ev P n d) t.mt v (L ++ z) (HF j) = some (L ++ tl v, HF j))
    (hx : ∀ n j v w, vs[j]? = some v → ws[j]? = some w → (ev P (n + c) d).x e (L ++ tl v) (HF j) = some (w, HF (j + 1)))
    (hl : ws.length = vs.length) (hb : vs.length ≤ 1000) :
    ∀ (m j : Nat) (acc : List MV) (z : Loc), vs.length = j + m → (z = [] ∨ ∃ u, z = tl u) → acc.length = j → ∀ n, c + m + 1 ≤ n → (ev P n d).k e t [] (nx j) acc (L ++ z) (HF j) = some (acc ++ ws.drop j, HF vs.length) := by
  intro m
  induction m with
  | zero =>
    intro j acc z hm hz ha n hc
    obtain ⟨n, rfl⟩ : ∃ n', n = n' + 1 := ⟨n - 1, by omega⟩
    show ((nx j).next (HF j)).bind _ = _
    rw [hn j (by omega), List.getElem?_eq_none (by omega), List.drop_eq_nil_of_le (by omega), List.append_nil, hm]
    rfl
  | succ m ih =>
    intro j acc z hm hz ha n hc
    obtain ⟨n, rfl⟩ : ∃ n', n = n' + c + 1 := ⟨n - c - 1, by omega⟩
    obtain ⟨v, hv⟩ : ∃ v, vs[j]? = some v := ⟨_, List.getElem?_eq_getElem (by omega)⟩
    obtain ⟨w, hw⟩ : ∃ w, ws[j]? = some w := ⟨_, List.getElem?_eq_getElem (by omega)⟩
    show ((nx j).next (HF j)).bind _ = _
    rw [hn j (by omega), hv, Option.map_some, zct]
    show (put P (ev P (n + c) d) t.mt v (L ++ z) (HF j)).bind _ = _
    rw [hp _ j v z hv hz, zct]
    show ((ev P (n + c) d).x e (L ++ tl v) (HF j)).bind _ = _
    rw [hx n j v w hv hw, zct]
    show (if acc.length < lim then _ else none) = _
    rw [if_pos (by unfold lim; omega)]
    refine (ih (j + 1) (acc ++ [w]) (tl v) (by omega) (.inr ⟨v, rfl⟩) (by rw [List.length_append, ha]; rfl) (n + c) (by omega)).trans ?_
    obtain ⟨hw1, hw2⟩ := List.getElem?_eq_some_iff.mp hw
    rw [List.drop_eq_getElem_cons hw1, hw2, List.append_assoc]
    rfl
theorem forloop {P : Pg} {t : MT} {body : List MS} {vs : List MV} {nx : Nat → It} {dd c : Nat} {I : Nat → Loc → MH → Prop} (hn : ∀ j L H, I j L H → (nx j).next H = some (vs[j]?.map fun v => (v, nx (j + 1))))
    (hb : ∀ j L H v, I j L H → vs[j]? = some v → ∃ L1 L' H', I (j + 1) L' H' ∧ ∀ n d, put P (ev P (n + c) (d + dd)) t v L H = some (L1, H) ∧ stmts (ev P (n + c) (d + dd)) body L1 H = some (.nxt, L', H')) :
    ∀ (m j : Nat) (L : Loc) (H : MH), vs.length = j + m → I j L H → ∃ L' H', I vs.length L' H' ∧ ∀ n d, c + m + 1 ≤ n → (ev P n (d + dd)).l t (nx j) body L H = some (.nxt, L', H') := by
  intro m
  induction m with
  | zero =>
    intro j L H hm hI
    refine ⟨L, H, hm ▸ hI, fun n d hc => ?_⟩
    obtain ⟨n, rfl⟩ : ∃ n', n = n' + 1 := ⟨n - 1, by omega⟩
    rw [el_it, hn j L H hI, List.getElem?_eq_none (by omega)]
    rfl
  | succ m ih =>
    intro j L H hm hI
    obtain ⟨v, hv⟩ : ∃ v, vs[j]? = some v := ⟨_, List.getElem?_eq_getElem (by omega)⟩
    obtain ⟨L1, L2, H2, hI2, hb⟩ := hb j L H v hI hv
    obtain ⟨L3, H3, hI3, h3⟩ := ih (j + 1) L2 H2 (by omega) hI2
    refine ⟨L3, H3, hI3, fun n d hc => ?_⟩
    obtain ⟨n, rfl⟩ : ∃ n', n = n' + c + 1 := ⟨n - c - 1, by omega⟩
    rw [el_it, hn j L H hI, hv, Option.map_some, zct, zeF, (hb n d).1, zct, zeG, (hb n d).2, zct, zc1]
    exact h3 (n + c) d (by omega)
section
variable (H : MH) (a b c e : MO)
theorem n_n : (H.new a).next = H.next + 1 := rfl
theorem u_n (k : Nat) : (H.upd k a).next = H.next := rfl
theorem n2_0 : ((H.new a).new b).get H.next = some a := by
  rw [new_ne _ _ _ (by rw [n_n]; omega), new_eq]
theorem n2_1 : ((H.new a).new b).get (H.next + 1) = some b := new_eq (H.new a) b
theorem n3_0 : (((H.new a).new b).new c).get H.next = some a := by
  rw [new_ne _ _ _ (by rw [n_n, n_n]; omega), n2_0]
theorem n3_2 : (((H.new a).new b).new c).get (H.next + 2) = some c := new_eq ((H.new a).new b) c
end
theorem me_new {H : MH} {P : Pg} {n d x : Nat} {vs : List MV} {as : List MX} {L : Loc} : kme P n d x as L (.ref H.next, H.new (.list vs)) = (evs (ev P n d) as L (H.new (.list vs))).bind (kml H.next x) := meL (new_eq _ _)
theorem dGet_S {os : List Nat} (h : 339 ∈ os) : dGet (.str 339) (nl os 0) = some (.int (nmF os 0 339)) := nl_get h
noncomputable def stm (b : Bd) (nm : Nat → Int) (k x : Nat) : List MV := (kinds b x).map fun o => (rowOf b nm (fun _ => k) x o).mv
noncomputable def toldV (b : Bd) (x k : Nat) : MV := .tup [.int (b.m x), .bool (b.c x), .ref k]
theorem block_S (b : Bd) (hc : b.c 339 = false) (H : MH) (kg kn : Nat) : ∃ H' r, Grew H H' ∧ H'.get r = some (.list (stm b (fun _ => 0) 0 339)) ∧ r < H'.next ∧ H.next ≤ r ∧ ∀ n d : Nat, (ev (PgC lf3 lg3) (n + 100) (d + 3)).c (.fn 1659549907034226339832683) [.str 339, toldV b 339 kg, .ref kn] H = some (.ref r, H') := by
  refine ⟨((H.new (.list [(Row.let_ (b.m 339)).mv, (Row.rem 339).mv])).new (.list [Row.ret.mv])).new (.list (stm b (fun _ => 0) 0 339)), H.next + 2, (((Grew.refl H).new _).new _).new _, n3_2 _ _ _ _, Nat.lt_succ_self _, Nat.le_add_right _ _, fun n d => ?_⟩
  rw [ec_fn, callF_ _ _ _ f3_F__law_block rfl rfl]
  simp only [toldV, Row.mv]
  simp only [zct,zcv,zcw,zcx,zcy,zcz,zcB,zcC,zbP,zcD,zcE,zcF,zcG,zbQ,zcH,zcI,zcJ,zcK,zbR,zeA,zeB,zeC,zeD,zcL,zcM,zcP,zcS,zbS,zbT,zcU,zcW,zcX,zcY,zcZ,zbU,zc0,zf0,zf1,zbW,zbX,zbZ,zeF,zeG,zc1,zc2,zb2,zb3,zb4,zb5,zc3,zc4,zeH,zeI,zeJ,zb6,zca,zcc,zcd,zce,zc7,zeN,zeO,zda,zcf,zeP,zeQ,zdb,zeR,zeT,zeU,zeV,zeW,zeX,zdd,zeY,zeZ,ze0,zde,ze1,zdf,zdg,ze2,zdh,ze3,ze4,ze5,zdi,ze6,ze7,ze8,zfa,zfb,zfc,zdl,zdm,zdn,zdo,zdp,zci,zdq,zf2,zdr,zfe,zds,zff,zfg,zfh,zfi,zfj,zfk,zdt,zdu,zdv,zfl,zfm,zdw,zfn,zdx,zfq,zfr,zf3,zbE,zaX,zae,zaY,zaZ,zbk,zbv,zax,zbl,zao,zaK,za8,zbm,za9,za0,zba,zbb,zaf,zap,zaq,zaa,zar,zaL,zbF,za1,zag,za2,za3,zbn,zbw,zay,zbo,zas,zaM,zbc,zbp,zbd,za4,zbe,zbf,zah,zbG,zbj,zcj,zck,zbx,zaS,zaW,zbH,zbI,zcl,zby,zcm,zdy,zdz,zcn,zco,zfs,zft,zdA,zdB,zdC,zfv,zfw,zfx,zfy,zfz,zdD,zdF,zdG,zdH,zfA,zdI,zdJ,zdL,zdM,zfB,zfC,zfD,zdO,zcp,zfE,zdP,zdQ,zdR,zdS,zdT,zdV,zdW,zcq,zbJ,zbK,zdX,zdY,zfF,zd2,zfG,zfJ,zfK,zd5,zd6,zd7,zd8,zd9,zfL,zfM,zfN,zfO,zfP,zeb,zec,zfQ,zed,zee,zef,zeg,zeh,zcr,zei,zej,zem,zfR,zen,zfS,zfT,zfV,zfX,zfY,zeo,zep,zer,zfZ,zes,zeu,zew,zex,zez,zbr,zam,zbs,zbt,zbM,zcs,zaT,zbN,zaG,za7,F_put_all,F_gather,F_flatten,zbu,zbB,zbC,zan,zaH,zaI,zad,zaJ,F_FlowRun_go,if_true,if_false,zf4,zf5,cond_true,cond_false,List.zip,List.zipWith,List.length_cons,List.length_nil,Option.isSome_some,Bool.false_eq_true,reduceIte,reduceCtorEq,Nat.reduceEqDiff,Nat.reduceAdd,Nat.reduceLeDiff,Int.cast_ofNat_Int,decide_true,decide_false,Bool.and_true,Bool.true_and,Bool.and_false,Bool.false_and,Int.sub_zero,Int.reduceNeg,Nat.reduceLT,and_self,and_true,true_and,Bool.false_or,Bool.or_false,Bool.true_or,Bool.or_true,Bool.not_true,Bool.not_false,Int.natAbs_neg,Int.reduceSub,Int.reduceAdd,Int.reduceToNat,Int.natAbs_zero,Int.natAbs_one,Int.reduceLT,Int.reduceLE,Int.reduceGE,Int.reduceGT,decide_eq_true_eq,List.getElem?_cons_zero,List.getElem?_cons_succ,Nat.reduceSub,Int.reduceMul,Nat.reduceBEq,Nat.reducePow,Int.reducePow,and_false,false_and,eq_self,zbO,zbD _ _ zbx,IX,lim,F__law_block3,n2_0,n2_1,n_n,List.cons_append,List.nil_append,Nat.add_assoc]
  rfl
end Mn.Mg
end
section
set_option maxRecDepth 100000
namespace Mn.Mg
section
variable {K : MH} {b : Bd} {os : List Nat} {x kg kn : Nat}
noncomputable abbrev LB (b : Bd) (x kg kn f : Nat) : Loc := [(6146846053, .str x), (6248426596, toldV b x kg), (103148954138800755, .ref kn), (6130069113, .int (b.m x)), (1706902549328993121300071, .bool (b.c x)), (1543761914995, .ref kg), (1539468258916, .ref f)]
theorem lst_next {k : Nat} {vs : List MV} (h : K.get k = some (.list vs)) (j : Nat) : (It.lst k j).next K = some (vs[j]?.map fun v => (v, .lst k (j + 1))) := by
  show ((K.get k).bind kla).bind _ = _
  rw [h]
  rfl
theorem nums_ok (hg : K.get kg = some (.list ((b.g x).map .str))) (hn : K.get kn = some (.dict (nl os 0))) (hs : (b.g x).length = 3 ∧ ∀ y ∈ b.g x, y ∈ os) (f : Nat) :
    ∀ n d, evC (PgC lf3 lg3) (ev (PgC lf3 lg3) (n + 60) (d)) (.sub (.loc 103148954138800755) (.loc 6030319980)) (.one 6030319980) (.loc 1543761914995) [] (LB b x kg kn f) K = some (.ref K.next, K.new (.list (((b.g x).map (nmF os 0)).map .int))) := by
  intro n d
  have e0 : evI (PgC lf3 lg3) (ev (PgC lf3 lg3) (n + 60) (d)) (.loc 1543761914995) (LB b x kg kn f) K = some (.lst kg 0, K) := by
    rw [zb6]
    simp only [zct,zcv,zcw,zcx,zcy,zcz,zcB,zcC,zbP,zcD,zcE,zcF,zcG,zbQ,zcH,zcI,zcJ,zcK,zbR,zeA,zeB,zeC,zeD,zcL,zcM,zcP,zcS,zbS,zbT,zcU,zcW,zcX,zcY,zcZ,zbU,zc0,zf0,zf1,zbW,zbX,zbZ,zeF,zeG,zc1,zc2,zb2,zb3,zb4,zb5,zc3,zc4,zeH,zeI,zeJ,zb6,zca,zcc,zcd,zce,zc7,zeN,zeO,zda,zcf,zeP,zeQ,zdb,zeR,zeT,zeU,zeV,zeW,zeX,zdd,zeY,zeZ,ze0,zde,ze1,zdf,zdg,ze2,zdh,ze3,ze4,ze5,zdi,ze6,ze7,ze8,zfa,zfb,zfc,zdl,zdm,zdn,zdo,zdp,zci,zdq,zf2,zdr,zfe,zds,zff,zfg,zfh,zfi,zfj,zfk,zdt,zdu,zdv,zfl,zfm,zdw,zfn,zdx,zfq,zfr,zf3,zbE,zaX,zae,zaY,zaZ,zbk,zbv,zax,zbl,zao,zaK,za8,zbm,za9,za0,zba,zbb,zaf,zap,zaq,zaa,zar,zaL,zbF,za1,zag,za2,za3,zbn,zbw,zay,zbo,zas,zaM,zbc,zbp,zbd,za4,zbe,zbf,zah,zbG,zbj,zcj,zck,zbx,zaS,zaW,zbH,zbI,zcl,zby,zcm,zdy,zdz,zcn,zco,zfs,zft,zdA,zdB,zdC,zfv,zfw,zfx,zfy,zfz,zdD,zdF,zdG,zdH,zfA,zdI,zdJ,zdL,zdM,zfB,zfC,zfD,zdO,zcp,zfE,zdP,zdQ,zdR,zdS,zdT,zdV,zdW,zcq,zbJ,zbK,zdX,zdY,zfF,zd2,zfG,zfJ,zfK,zd5,zd6,zd7,zd8,zd9,zfL,zfM,zfN,zfO,zfP,zeb,zec,zfQ,zed,zee,zef,zeg,zeh,zcr,zei,zej,zem,zfR,zen,zfS,zfT,zfV,zfX,zfY,zeo,zep,zer,zfZ,zes,zeu,zew,zex,zez,zbr,zam,zbs,zbt,zbM,zcs,zaT,zbN,zaG,za7,F_put_all,F_gather,F_flatten,zbu,zbB,zbC,zan,zaH,zaI,zad,zaJ,F_FlowRun_go,if_true,if_false,zf4,zf5,cond_true,cond_false,List.zip,List.zipWith,List.length_cons,List.length_nil,Option.isSome_some,Bool.false_eq_true,reduceIte,reduceCtorEq,Nat.reduceEqDiff,Nat.reduceAdd,Nat.reduceLeDiff,Int.cast_ofNat_Int,decide_true,decide_false,Bool.and_true,Bool.true_and,Bool.and_false,Bool.false_and,Int.sub_zero,Int.reduceNeg,Nat.reduceLT,and_self,and_true,true_and,Bool.false_or,Bool.or_false,Bool.true_or,Bool.or_true,Bool.not_true,Bool.not_false,Int.natAbs_neg,Int.reduceSub,Int.reduceAdd,Int.reduceToNat,Int.natAbs_zero,Int.natAbs_one,Int.reduceLT,Int.reduceLE,Int.reduceGE,Int.reduceGT,decide_eq_true_eq,List.getElem?_cons_zero,List.getElem?_cons_succ,Nat.reduceSub,Int.reduceMul,Nat.reduceBEq,Nat.reducePow,Int.reducePow,and_false,false_and,eq_self,zbO,zbD _ _ zbx,IX,lim,F__law_block3,hg]
  refine evC_of e0 (by rfl) ?_ (by rw [List.length_map, List.length_map, hs.1]; decide)
  have q := kloop (P := PgC lf3 lg3) (e := .sub (.loc 103148954138800755) (.loc 6030319980)) (t := .one 6030319980) (L := LB b x kg kn f) (vs := (b.g x).map .str) (ws := ((b.g x).map (nmF os 0)).map .int) (nx := .lst kg) (HF := fun _ => K) (d := d) (c := 20) (fun v => [(6030319980, v)])
    (fun j _ => lst_next hg j) (fun n j v z hv hz => ?_) (fun n j v w hv hw => ?_) (by rw [List.length_map, List.length_map, List.length_map]) (by rw [List.length_map, hs.1]; decide) 3 0 [] [] (by rw [List.length_map, hs.1]) (.inl rfl) rfl (n + 60) (by omega)
  · exact q
  · show put _ _ (.nam 6030319980) v _ _ = _
    rw [zb2]
    rcases hz with rfl | ⟨u, rfl⟩ <;> rfl
  · rw [List.getElem?_map, List.getElem?_map] at hw
    rw [List.getElem?_map] at hv
    cases q : (b.g x)[j]? with
    | none => rw [q] at hv; cases hv
    | some y =>
      rw [q] at hv hw
      obtain rfl : MV.str y = v := Option.some.inj hv
      obtain rfl : MV.int (nmF os 0 y) = w := Option.some.inj hw
      have hy := nl_get (j := 0) (hs.2 y (List.mem_of_getElem? q))
      have hk := nl_ok y os 0
      simp only [zct,zcv,zcw,zcx,zcy,zcz,zcB,zcC,zbP,zcD,zcE,zcF,zcG,zbQ,zcH,zcI,zcJ,zcK,zbR,zeA,zeB,zeC,zeD,zcL,zcM,zcP,zcS,zbS,zbT,zcU,zcW,zcX,zcY,zcZ,zbU,zc0,zf0,zf1,zbW,zbX,zbZ,zeF,zeG,zc1,zc2,zb2,zb3,zb4,zb5,zc3,zc4,zeH,zeI,zeJ,zb6,zca,zcc,zcd,zce,zc7,zeN,zeO,zda,zcf,zeP,zeQ,zdb,zeR,zeT,zeU,zeV,zeW,zeX,zdd,zeY,zeZ,ze0,zde,ze1,zdf,zdg,ze2,zdh,ze3,ze4,ze5,zdi,ze6,ze7,ze8,zfa,zfb,zfc,zdl,zdm,zdn,zdo,zdp,zci,zdq,zf2,zdr,zfe,zds,zff,zfg,zfh,zfi,zfj,zfk,zdt,zdu,zdv,zfl,zfm,zdw,zfn,zdx,zfq,zfr,zf3,zbE,zaX,zae,zaY,zaZ,zbk,zbv,zax,zbl,zao,zaK,za8,zbm,za9,za0,zba,zbb,zaf,zap,zaq,zaa,zar,zaL,zbF,za1,zag,za2,za3,zbn,zbw,zay,zbo,zas,zaM,zbc,zbp,zbd,za4,zbe,zbf,zah,zbG,zbj,zcj,zck,zbx,zaS,zaW,zbH,zbI,zcl,zby,zcm,zdy,zdz,zcn,zco,zfs,zft,zdA,zdB,zdC,zfv,zfw,zfx,zfy,zfz,zdD,zdF,zdG,zdH,zfA,zdI,zdJ,zdL,zdM,zfB,zfC,zfD,zdO,zcp,zfE,zdP,zdQ,zdR,zdS,zdT,zdV,zdW,zcq,zbJ,zbK,zdX,zdY,zfF,zd2,zfG,zfJ,zfK,zd5,zd6,zd7,zd8,zd9,zfL,zfM,zfN,zfO,zfP,zeb,zec,zfQ,zed,zee,zef,zeg,zeh,zcr,zei,zej,zem,zfR,zen,zfS,zfT,zfV,zfX,zfY,zeo,zep,zer,zfZ,zes,zeu,zew,zex,zez,zbr,zam,zbs,zbt,zbM,zcs,zaT,zbN,zaG,za7,F_put_all,F_gather,F_flatten,zbu,zbB,zbC,zan,zaH,zaI,zad,zaJ,F_FlowRun_go,if_true,if_false,zf4,zf5,cond_true,cond_false,List.zip,List.zipWith,List.length_cons,List.length_nil,Option.isSome_some,Bool.false_eq_true,reduceIte,reduceCtorEq,Nat.reduceEqDiff,Nat.reduceAdd,Nat.reduceLeDiff,Int.cast_ofNat_Int,decide_true,decide_false,Bool.and_true,Bool.true_and,Bool.and_false,Bool.false_and,Int.sub_zero,Int.reduceNeg,Nat.reduceLT,and_self,and_true,true_and,Bool.false_or,Bool.or_false,Bool.true_or,Bool.or_true,Bool.not_true,Bool.not_false,Int.natAbs_neg,Int.reduceSub,Int.reduceAdd,Int.reduceToNat,Int.natAbs_zero,Int.natAbs_one,Int.reduceLT,Int.reduceLE,Int.reduceGE,Int.reduceGT,decide_eq_true_eq,List.getElem?_cons_zero,List.getElem?_cons_succ,Nat.reduceSub,Int.reduceMul,Nat.reduceBEq,Nat.reducePow,Int.reducePow,and_false,false_and,eq_self,zbO,zbD _ _ zbx,IX,lim,F__law_block3,List.cons_append,List.nil_append,hn,hy,hk]
theorem block_B (hx : isB x) (H : MH) (hg : H.get kg = some (.list ((b.g x).map .str))) (hn : H.get kn = some (.dict (nl os 0))) (lg : kg < H.next) (ln : kn < H.next) (hs : (b.g x).length = 3 ∧ ∀ y ∈ b.g x, y ∈ os) (hS : 339 ∈ os) :
    ∃ H' r kr, Grew H H' ∧ H'.get r = some (.list (stm b (nmF os 0) kr x)) ∧ H'.get kr = some (.list (((b.g x).map (nmF os 0)).map .int)) ∧ H.next ≤ kr ∧ kr < H'.next ∧ H.next ≤ r ∧ r < H'.next ∧ ∀ n d : Nat, (ev (PgC lf3 lg3) (n + 100) (d + 3)).c (.fn 1659549907034226339832683) [.str x, toldV b x kg, .ref kn] H = some (.ref r, H') := by
  have hne : (x == 339) = false := by rcases hx with rfl | rfl | rfl <;> rfl
  have hk := nl_ok 339 os 0
  have hd := dGet_S hS
  have fz : ∀ {H' : MH}, Grew H H' → H'.get kg = some (.list ((b.g x).map .str)) ∧ H'.get kn = some (.dict (nl os 0)) := fun g => ⟨(g.get _ lg).trans hg, (g.get _ ln).trans hn⟩
  cases hc : b.c x with
  | false =>
    have e0 : stm b (nmF os 0) (H.next + 1) x = [(Row.let_ (b.m x)).mv, (Row.rem x).mv, (Row.on_ (H.next + 1) ((b.g x).map (nmF os 0))).mv] := by
      unfold stm
      rw [kinds_b b hx, hc]
      rfl
    have g0 : Grew H (H.new (.list [(Row.let_ (b.m x)).mv, (Row.rem x).mv])) := (Grew.refl H).new _
    obtain ⟨f1, f2⟩ := fz g0
    have hcm := nums_ok f1 f2 hs H.next
    refine ⟨(((H.new (.list [(Row.let_ (b.m x)).mv, (Row.rem x).mv])).new (.list (((b.g x).map (nmF os 0)).map .int))).new (.list [(Row.on_ (H.next + 1) ((b.g x).map (nmF os 0))).mv])).new (.list (stm b (nmF os 0) (H.next + 1) x)), H.next + 3, H.next + 1, ((g0.new _).new _).new _, new_eq _ _, ?_, Nat.le_add_right _ _, by rw [n_n, n_n, n_n, n_n]; omega, Nat.le_add_right _ _, Nat.lt_succ_self _, fun n d => ?_⟩
    · exact (new_ne _ _ _ (by show H.next + 1 ≠ H.next + 1 + 1 + 1; omega)).trans (n2_0 (H.new _) _ _)
    · rw [ec_fn, callF_ _ _ _ f3_F__law_block rfl rfl, e0]
      simp only [Row.mv, LB, hc, toldV] at hcm ⊢
      simp only [zct,zcv,zcw,zcx,zcy,zcz,zcB,zcC,zbP,zcD,zcE,zcF,zcG,zbQ,zcH,zcI,zcJ,zcK,zbR,zeA,zeB,zeC,zeD,zcL,zcM,zcP,zcS,zbS,zbT,zcU,zcW,zcX,zcY,zcZ,zbU,zc0,zf0,zf1,zbW,zbX,zbZ,zeF,zeG,zc1,zc2,zb2,zb3,zb4,zb5,zc3,zc4,zeH,zeI,zeJ,zb6,zca,zcc,zcd,zce,zc7,zeN,zeO,zda,zcf,zeP,zeQ,zdb,zeR,zeT,zeU,zeV,zeW,zeX,zdd,zeY,zeZ,ze0,zde,ze1,zdf,zdg,ze2,zdh,ze3,ze4,ze5,zdi,ze6,ze7,ze8,zfa,zfb,zfc,zdl,zdm,zdn,zdo,zdp,zci,zdq,zf2,zdr,zfe,zds,zff,zfg,zfh,zfi,zfj,zfk,zdt,zdu,zdv,zfl,zfm,zdw,zfn,zdx,zfq,zfr,zf3,zbE,zaX,zae,zaY,zaZ,zbk,zbv,zax,zbl,zao,zaK,za8,zbm,za9,za0,zba,zbb,zaf,zap,zaq,zaa,zar,zaL,zbF,za1,zag,za2,za3,zbn,zbw,zay,zbo,zas,zaM,zbc,zbp,zbd,za4,zbe,zbf,zah,zbG,zbj,zcj,zck,zbx,zaS,zaW,zbH,zbI,zcl,zby,zcm,zdy,zdz,zcn,zco,zfs,zft,zdA,zdB,zdC,zfv,zfw,zfx,zfy,zfz,zdD,zdF,zdG,zdH,zfA,zdI,zdJ,zdL,zdM,zfB,zfC,zfD,zdO,zcp,zfE,zdP,zdQ,zdR,zdS,zdT,zdV,zdW,zcq,zbJ,zbK,zdX,zdY,zfF,zd2,zfG,zfJ,zfK,zd5,zd6,zd7,zd8,zd9,zfL,zfM,zfN,zfO,zfP,zeb,zec,zfQ,zed,zee,zef,zeg,zeh,zcr,zei,zej,zem,zfR,zen,zfS,zfT,zfV,zfX,zfY,zeo,zep,zer,zfZ,zes,zeu,zew,zex,zez,zbr,zam,zbs,zbt,zbM,zcs,zaT,zbN,zaG,za7,F_put_all,F_gather,F_flatten,zbu,zbB,zbC,zan,zaH,zaI,zad,zaJ,F_FlowRun_go,if_true,if_false,zf4,zf5,cond_true,cond_false,List.zip,List.zipWith,List.length_cons,List.length_nil,Option.isSome_some,Bool.false_eq_true,reduceIte,reduceCtorEq,Nat.reduceEqDiff,Nat.reduceAdd,Nat.reduceLeDiff,Int.cast_ofNat_Int,decide_true,decide_false,Bool.and_true,Bool.true_and,Bool.and_false,Bool.false_and,Int.sub_zero,Int.reduceNeg,Nat.reduceLT,and_self,and_true,true_and,Bool.false_or,Bool.or_false,Bool.true_or,Bool.or_true,Bool.not_true,Bool.not_false,Int.natAbs_neg,Int.reduceSub,Int.reduceAdd,Int.reduceToNat,Int.natAbs_zero,Int.natAbs_one,Int.reduceLT,Int.reduceLE,Int.reduceGE,Int.reduceGT,decide_eq_true_eq,List.getElem?_cons_zero,List.getElem?_cons_succ,Nat.reduceSub,Int.reduceMul,Nat.reduceBEq,Nat.reducePow,Int.reducePow,and_false,false_and,eq_self,zbO,zbD _ _ zbx,IX,lim,F__law_block3,hne,hcm,n2_0,n2_1,n3_0,n3_2,n_n,List.cons_append,List.nil_append,Nat.add_assoc]
  | true =>
    have e0 : stm b (nmF os 0) (H.next + 1) x = [(Row.let_ (b.m x)).mv, (Row.rem x).mv, (Row.sub (nmF os 0 339)).mv, (Row.on_ (H.next + 1) ((b.g x).map (nmF os 0))).mv] := by
      unfold stm
      rw [kinds_b b hx, hc]
      rfl
    obtain ⟨K, hK⟩ : ∃ K, (H.new (.list [(Row.let_ (b.m x)).mv, (Row.rem x).mv])).upd H.next (.list [(Row.let_ (b.m x)).mv, (Row.rem x).mv, (Row.sub (nmF os 0 339)).mv]) = K := ⟨_, rfl⟩
    have g1 : Grew H (H.new (.list [(Row.let_ (b.m x)).mv, (Row.rem x).mv])) := (Grew.refl H).new _
    have g0 : Grew H K := hK ▸ g1.upd _ (Nat.le_refl _)
    have kx : K.next = H.next + 1 := hK ▸ rfl
    have k0 : K.get H.next = some (.list [(Row.let_ (b.m x)).mv, (Row.rem x).mv, (Row.sub (nmF os 0 339)).mv]) := hK ▸ upd_eq _ _ _
    obtain ⟨f1, f2⟩ := fz g0
    obtain ⟨f3, f4⟩ := fz g1
    have hcm := nums_ok f1 f2 hs H.next
    have k1 : ∀ a c, ((K.new a).new c).get H.next = K.get H.next := fun a c => by
      rw [new_ne _ _ _ (by rw [n_n, kx]; omega), new_ne _ _ _ (by rw [kx]; omega)]
    have k2 : ∀ a c, ((K.new a).new c).get (H.next + 2) = some c := fun a c => by
      rw [show H.next + 2 = (K.new a).next by rw [n_n, kx], new_eq]
    refine ⟨((K.new (.list (((b.g x).map (nmF os 0)).map .int))).new (.list [(Row.on_ (H.next + 1) ((b.g x).map (nmF os 0))).mv])).new (.list (stm b (nmF os 0) (H.next + 1) x)), H.next + 3, H.next + 1, ((g0.new _).new _).new _, ?_, ?_, Nat.le_add_right _ _, by rw [n_n, n_n, n_n, kx]; omega, Nat.le_add_right _ _, ?_, fun n d => ?_⟩
    · rw [show H.next + 3 = ((K.new (.list (((b.g x).map (nmF os 0)).map .int))).new (.list [(Row.on_ (H.next + 1) ((b.g x).map (nmF os 0))).mv])).next by rw [n_n, n_n, kx], new_eq]
    · rw [new_ne _ _ _ (by rw [n_n, n_n, kx]; omega), ← kx, n2_0]
    · rw [n_n, n_n, n_n, kx]; exact Nat.lt_succ_self _
    · rw [ec_fn, callF_ _ _ _ f3_F__law_block rfl rfl, e0]
      simp only [Row.mv, LB, hc, toldV] at hcm hK k0 f4 ⊢
      simp only [zct,zcv,zcw,zcx,zcy,zcz,zcB,zcC,zbP,zcD,zcE,zcF,zcG,zbQ,zcH,zcI,zcJ,zcK,zbR,zeA,zeB,zeC,zeD,zcL,zcM,zcP,zcS,zbS,zbT,zcU,zcW,zcX,zcY,zcZ,zbU,zc0,zf0,zf1,zbW,zbX,zbZ,zeF,zeG,zc1,zc2,zb2,zb3,zb4,zb5,zc3,zc4,zeH,zeI,zeJ,zb6,zca,zcc,zcd,zce,zc7,zeN,zeO,zda,zcf,zeP,zeQ,zdb,zeR,zeT,zeU,zeV,zeW,zeX,zdd,zeY,zeZ,ze0,zde,ze1,zdf,zdg,ze2,zdh,ze3,ze4,ze5,zdi,ze6,ze7,ze8,zfa,zfb,zfc,zdl,zdm,zdn,zdo,zdp,zci,zdq,zf2,zdr,zfe,zds,zff,zfg,zfh,zfi,zfj,zfk,zdt,zdu,zdv,zfl,zfm,zdw,zfn,zdx,zfq,zfr,zf3,zbE,zaX,zae,zaY,zaZ,zbk,zbv,zax,zbl,zao,zaK,za8,zbm,za9,za0,zba,zbb,zaf,zap,zaq,zaa,zar,zaL,zbF,za1,zag,za2,za3,zbn,zbw,zay,zbo,zas,zaM,zbc,zbp,zbd,za4,zbe,zbf,zah,zbG,zbj,zcj,zck,zbx,zaS,zaW,zbH,zbI,zcl,zby,zcm,zdy,zdz,zcn,zco,zfs,zft,zdA,zdB,zdC,zfv,zfw,zfx,zfy,zfz,zdD,zdF,zdG,zdH,zfA,zdI,zdJ,zdL,zdM,zfB,zfC,zfD,zdO,zcp,zfE,zdP,zdQ,zdR,zdS,zdT,zdV,zdW,zcq,zbJ,zbK,zdX,zdY,zfF,zd2,zfG,zfJ,zfK,zd5,zd6,zd7,zd8,zd9,zfL,zfM,zfN,zfO,zfP,zeb,zec,zfQ,zed,zee,zef,zeg,zeh,zcr,zei,zej,zem,zfR,zen,zfS,zfT,zfV,zfX,zfY,zeo,zep,zer,zfZ,zes,zeu,zew,zex,zez,zbr,zam,zbs,zbt,zbM,zcs,zaT,zbN,zaG,za7,F_put_all,F_gather,F_flatten,zbu,zbB,zbC,zan,zaH,zaI,zad,zaJ,F_FlowRun_go,if_true,if_false,zf4,zf5,cond_true,cond_false,List.zip,List.zipWith,List.length_cons,List.length_nil,Option.isSome_some,Bool.false_eq_true,reduceIte,reduceCtorEq,Nat.reduceEqDiff,Nat.reduceAdd,Nat.reduceLeDiff,Int.cast_ofNat_Int,decide_true,decide_false,Bool.and_true,Bool.true_and,Bool.and_false,Bool.false_and,Int.sub_zero,Int.reduceNeg,Nat.reduceLT,and_self,and_true,true_and,Bool.false_or,Bool.or_false,Bool.true_or,Bool.or_true,Bool.not_true,Bool.not_false,Int.natAbs_neg,Int.reduceSub,Int.reduceAdd,Int.reduceToNat,Int.natAbs_zero,Int.natAbs_one,Int.reduceLT,Int.reduceLE,Int.reduceGE,Int.reduceGT,decide_eq_true_eq,List.getElem?_cons_zero,List.getElem?_cons_succ,Nat.reduceSub,Int.reduceMul,Nat.reduceBEq,Nat.reducePow,Int.reducePow,and_false,false_and,eq_self,zbO,zbD _ _ zbx,IX,lim,F__law_block3,hne,f4,hk,hd,me_new,new_eq,hK,hcm,k0,k1,k2,kx,n_n,List.cons_append,List.nil_append,Nat.add_assoc]
end
end Mn.Mg
end
section
set_option maxRecDepth 100000
namespace Mn.Mg
noncomputable def OrdV (H : MH) (ov : MV) (os : List Nat) : Prop := (∃ T, ov = .str T ∧ txtOf (.str T) = some (os.map .str)) ∨ ∃ ko, ov = .ref ko ∧ ko < H.next ∧ H.get ko = some (.list (os.map .str))
theorem OrdV.mono {H K : MH} {ov : MV} {os : List Nat} (h : OrdV H ov os) (g : Grew H K) : OrdV K ov os :=
  h.imp id fun ⟨ko, e, l, h⟩ => ⟨ko, e, Nat.lt_of_lt_of_le l g.next, (g.get _ l).trans h⟩
theorem txt_next (vs : List MV) (j : Nat) (K : MH) : (It.txt (vs.drop j)).next K = some (vs[j]?.map fun v => (v, .txt (vs.drop (j + 1)))) := by
  rcases Nat.lt_or_ge j vs.length with h | h
  · rw [List.drop_eq_getElem_cons h, List.getElem?_eq_getElem h]; rfl
  · rw [List.drop_eq_nil_of_le h, List.getElem?_eq_none h]; rfl
theorem ent_next (vs : List MV) (j : Nat) (K : MH) : (It.ent j (vs.drop j)).next K = some (vs[j]?.map fun v => (.tup [.int (j : Int), v], .ent (j + 1) (vs.drop (j + 1)))) := by
  rcases Nat.lt_or_ge j vs.length with h | h
  · rw [List.drop_eq_getElem_cons h, List.getElem?_eq_getElem h]; rfl
  · rw [List.drop_eq_nil_of_le h, List.getElem?_eq_none h]; rfl
theorem ord_iter {H : MH} {ov : MV} {os : List Nat} (h : OrdV H ov os) : ∃ nx : Nat → It, (∀ K, Grew H K → iterOf K ov = some (nx 0)) ∧ (∀ K, Grew H K → ∀ j, (nx j).next K = some ((os.map MV.str)[j]?.map fun v => (v, nx (j + 1)))) ∧ ∀ y j, tupOk (.nam y) (nx j) = true := by
  rcases h with ⟨T, rfl, e⟩ | ⟨ko, rfl, l, e⟩
  · refine ⟨fun j => .txt ((os.map .str).drop j), fun K g => ?_, fun K g j => ?_, fun _ _ => rfl⟩
    · rw [zfX, e]; rfl
    · exact txt_next _ j K
  · refine ⟨.lst ko, fun K g => ?_, fun K g j => lst_next ((g.get _ l).trans e) j, fun _ _ => rfl⟩
    show ((K.get ko).bind kla).bind _ = _
    rw [g.get _ l, e]; rfl
theorem ord_enum {H : MH} {ov : MV} {os : List Nat} (h : OrdV H ov os) : ∃ nx : Nat → It, enuOf H ov = some (nx 0) ∧ (∀ j, (nx j).next H = some ((os.mapIdx fun i y => MV.tup [.int (i : Int), .str y])[j]?.map fun v => (v, nx (j + 1)))) ∧ ∀ y j, tupOk (.tup y) (nx j) = true := by
  rcases h with ⟨T, rfl, e⟩ | ⟨ko, rfl, l, e⟩
  · refine ⟨fun j => .ent j ((os.map .str).drop j), ?_, fun j => ?_, fun _ _ => rfl⟩
    · rw [zeO, e]; rfl
    · rw [List.getElem?_mapIdx, Option.map_map]
      refine (ent_next _ j H).trans ?_
      rw [List.getElem?_map, Option.map_map]; rfl
  · refine ⟨fun j => .enu j ko, ?_, fun j => ?_, fun _ _ => rfl⟩
    · show (H.get ko).bind _ = _
      rw [e]; rfl
    · show ((H.get ko).bind kla).bind _ = _
      rw [e, zct, zfw, zct, List.getElem?_map, List.getElem?_mapIdx, Option.map_map, Option.map_map]; rfl
structure BF (H : MH) (b : Bd) (kb : Nat) (es : List (MV × MV)) : Prop where
  lt : kb < H.next
  get : H.get kb = some (.dict es)
  ok : ∀ y : Nat, okKey (.str y) es = true
  dS : ∃ kg, dGet (.str 339) es = some (toldV b 339 kg)
  dB : ∀ y, isB y → ∃ kg, dGet (.str y) es = some (toldV b y kg) ∧ kg < H.next ∧ H.get kg = some (.list ((b.g y).map .str))
  cS : b.c 339 = false
  g : ∀ x, isB x → (b.g x).length = 3 ∧ ∀ y ∈ b.g x, isG y
theorem BF.mono {H K : MH} {b : Bd} {kb : Nat} {es : List (MV × MV)} (h : BF H b kb es) (g : Grew H K) : BF K b kb es :=
  ⟨Nat.lt_of_lt_of_le h.lt g.next, (g.get _ h.lt).trans h.get, h.ok, h.dS, fun y hy => by obtain ⟨kg, e, l, q⟩ := h.dB y hy; exact ⟨kg, e, Nat.lt_of_lt_of_le l g.next, (g.get _ l).trans q⟩, h.cS, h.g⟩
structure OO (os : List Nat) : Prop where
  nd : os.Nodup
  len : os.length = 5
  mem : ∀ x, x ∈ os ↔ isG x ∨ x = 339
noncomputable def ntl : List Nat → Nat → List MV
  | [], _ => []
  | y :: r, j => .tup [.str y, .int (10 * (j : Int) + 10)] :: ntl r (j + 1)
theorem ntl_get : ∀ (os : List Nat) (j i : Nat), (ntl os j)[i]? = os[i]?.map fun y => MV.tup [.str y, .int (10 * ((j + i : Nat) : Int) + 10)]
  | [], _, _ => rfl
  | y :: r, j, 0 => rfl
  | y :: r, j, i + 1 => by
    show (ntl r (j + 1))[i]? = _
    rw [ntl_get r (j + 1) i, show j + 1 + i = j + (i + 1) by omega]; rfl
theorem ntl_len : ∀ (os : List Nat) (j : Nat), (ntl os j).length = os.length
  | [], _ => rfl
  | y :: r, j => congrArg Nat.succ (ntl_len r (j + 1))
theorem ntl_pairs : ∀ (os : List Nat) (j : Nat), pairsOf (ntl os j) = some (nl os j)
  | [], _ => rfl
  | y :: r, j => by
    show (pairsOf (ntl r (j + 1))).bind _ = _
    rw [ntl_pairs r (j + 1)]; rfl
noncomputable def tl2 : MV → Loc
  | .tup [a, b] => [(90484, a), (6146846053, b)]
  | _ => []
theorem tl2_or (u : MV) : tl2 u = [] ∨ ∃ a b, tl2 u = [(90484, a), (6146846053, b)] := by
  unfold tl2
  split
  · exact .inr ⟨_, _, rfl⟩
  · exact .inl rfl
section
variable {H : MH} {b : Bd} {os : List Nat} {kb : Nat} {es : List (MV × MV)} {ov : MV}
noncomputable abbrev LP0 (ov : MV) (kb : Nat) : Loc := [(1578172179826, ov), (389692841487219, .ref kb)]
theorem numbers_ok (O : OO os) (ho : OrdV H ov os) : ∀ n d : Nat, evC (PgC lf3 lg3) (ev (PgC lf3 lg3) (n + 100) (d + 2)) (.tup [.loc 6146846053, .bin .add (.bin .mul (.cst (.int 10)) (.loc 90484)) (.cst (.int 10))]) (.two 90484 6146846053) (.call (.glb 6593447022513235260517) [.loc 1578172179826]) [] (LP0 ov kb) H = some (.ref H.next, H.new (.list (ntl os 0))) := by
  intro n d
  obtain ⟨ne, n0, n1, n2⟩ := ord_enum ho
  have e0 : evI (PgC lf3 lg3) (ev (PgC lf3 lg3) (n + 100) (d + 2)) (.call (.glb 6593447022513235260517) [.loc 1578172179826]) (LP0 ov kb) H = some (ne 0, H) := by
    rw [evI_enum _ _ zaW]
    simp only [zct,zcv,zcw,zcx,zcy,zcz,zcB,zcC,zbP,zcD,zcE,zcF,zcG,zbQ,zcH,zcI,zcJ,zcK,zbR,zeA,zeB,zeC,zeD,zcL,zcM,zcP,zcS,zbS,zbT,zcU,zcW,zcX,zcY,zcZ,zbU,zc0,zf0,zf1,zbW,zbX,zbZ,zeF,zeG,zc1,zc2,zb2,zb3,zb4,zb5,zc3,zc4,zeH,zeI,zeJ,zb6,zca,zcc,zcd,zce,zc7,zeN,zeO,zda,zcf,zeP,zeQ,zdb,zeR,zeT,zeU,zeV,zeW,zeX,zdd,zeY,zeZ,ze0,zde,ze1,zdf,zdg,ze2,zdh,ze3,ze4,ze5,zdi,ze6,ze7,ze8,zfa,zfb,zfc,zdl,zdm,zdn,zdo,zdp,zci,zdq,zf2,zdr,zfe,zds,zff,zfg,zfh,zfi,zfj,zfk,zdt,zdu,zdv,zfl,zfm,zdw,zfn,zdx,zfq,zfr,zf3,zbE,zaX,zae,zaY,zaZ,zbk,zbv,zax,zbl,zao,zaK,za8,zbm,za9,za0,zba,zbb,zaf,zap,zaq,zaa,zar,zaL,zbF,za1,zag,za2,za3,zbn,zbw,zay,zbo,zas,zaM,zbc,zbp,zbd,za4,zbe,zbf,zah,zbG,zbj,zcj,zck,zbx,zaS,zaW,zbH,zbI,zcl,zby,zcm,zdy,zdz,zcn,zco,zfs,zft,zdA,zdB,zdC,zfv,zfw,zfx,zfy,zfz,zdD,zdF,zdG,zdH,zfA,zdI,zdJ,zdL,zdM,zfB,zfC,zfD,zdO,zcp,zfE,zdP,zdQ,zdR,zdS,zdT,zdV,zdW,zcq,zbJ,zbK,zdX,zdY,zfF,zd2,zfG,zfJ,zfK,zd5,zd6,zd7,zd8,zd9,zfL,zfM,zfN,zfO,zfP,zeb,zec,zfQ,zed,zee,zef,zeg,zeh,zcr,zei,zej,zem,zfR,zen,zfS,zfT,zfV,zfX,zfY,zeo,zep,zer,zfZ,zes,zeu,zew,zex,zez,zbr,zam,zbs,zbt,zbM,zcs,zaT,zbN,zaG,za7,F_put_all,F_gather,F_flatten,zbu,zbB,zbC,zan,zaH,zaI,zad,zaJ,F_FlowRun_go,if_true,if_false,zf4,zf5,cond_true,cond_false,List.zip,List.zipWith,List.length_cons,List.length_nil,Option.isSome_some,Bool.false_eq_true,reduceIte,reduceCtorEq,Nat.reduceEqDiff,Nat.reduceAdd,Nat.reduceLeDiff,Int.cast_ofNat_Int,decide_true,decide_false,Bool.and_true,Bool.true_and,Bool.and_false,Bool.false_and,Int.sub_zero,Int.reduceNeg,Nat.reduceLT,and_self,and_true,true_and,Bool.false_or,Bool.or_false,Bool.true_or,Bool.or_true,Bool.not_true,Bool.not_false,Int.natAbs_neg,Int.reduceSub,Int.reduceAdd,Int.reduceToNat,Int.natAbs_zero,Int.natAbs_one,Int.reduceLT,Int.reduceLE,Int.reduceGE,Int.reduceGT,decide_eq_true_eq,List.getElem?_cons_zero,List.getElem?_cons_succ,Nat.reduceSub,Int.reduceMul,Nat.reduceBEq,Nat.reducePow,Int.reducePow,and_false,false_and,eq_self,zbO,zbD _ _ zbx,IX,lim,F__law_program3,n0]
  refine evC_of e0 (by show (_ && tupOk (.tup _) (ne 0)) = true; rw [n2]; rfl) ?_ (by rw [ntl_len, O.len]; decide)
  have q := kloop (P := PgC lf3 lg3) (e := .tup [.loc 6146846053, .bin .add (.bin .mul (.cst (.int 10)) (.loc 90484)) (.cst (.int 10))]) (t := .two 90484 6146846053) (L := LP0 ov kb) (vs := os.mapIdx fun i y => MV.tup [.int (i : Int), .str y]) (ws := ntl os 0) (nx := ne) (HF := fun _ => H) (d := d + 2) (c := 20) tl2
    (fun j _ => n1 j) (fun n j v z hv hz => ?_) (fun n j v w hv hw => ?_) (by rw [List.length_mapIdx, ntl_len]) (by rw [List.length_mapIdx, O.len]; decide) 5 0 [] [] (by rw [List.length_mapIdx, O.len]) (.inl rfl) rfl (n + 100) (by omega)
  · exact q
  · rw [List.getElem?_mapIdx] at hv
    obtain ⟨y, q, rfl⟩ := Option.map_eq_some_iff.mp hv
    show put _ _ (.tup [.nam 90484, .nam 6146846053]) _ _ _ = _
    have hz : z = [] ∨ ∃ a b, z = [(90484, a), (6146846053, b)] := hz.elim .inl fun ⟨u, e⟩ => e ▸ tl2_or u
    rw [zb3, zc4, zb2, zct]
    show puts _ _ [.nam 6146846053] [.str y] _ _ = _
    rw [zc4, zb2, zct]
    show puts _ _ [] [] _ _ = _
    rw [zc3]
    rcases hz with rfl | ⟨a, b, rfl⟩ <;> rfl
  · rw [List.getElem?_mapIdx] at hv
    obtain ⟨y, q, rfl⟩ := Option.map_eq_some_iff.mp hv
    rw [ntl_get, q] at hw
    obtain rfl : MV.tup [.str y, .int (10 * ((0 + j : Nat) : Int) + 10)] = w := Option.some.inj hw
    have hj := (List.getElem?_eq_some_iff.mp q).1
    have hlen := O.len
    have b1 : (j : Int).natAbs < 1073741824 := by omega
    rw [Nat.zero_add]
    simp only [zct,zcv,zcw,zcx,zcy,zcz,zcB,zcC,zbP,zcD,zcE,zcF,zcG,zbQ,zcH,zcI,zcJ,zcK,zbR,zeA,zeB,zeC,zeD,zcL,zcM,zcP,zcS,zbS,zbT,zcU,zcW,zcX,zcY,zcZ,zbU,zc0,zf0,zf1,zbW,zbX,zbZ,zeF,zeG,zc1,zc2,zb2,zb3,zb4,zb5,zc3,zc4,zeH,zeI,zeJ,zb6,zca,zcc,zcd,zce,zc7,zeN,zeO,zda,zcf,zeP,zeQ,zdb,zeR,zeT,zeU,zeV,zeW,zeX,zdd,zeY,zeZ,ze0,zde,ze1,zdf,zdg,ze2,zdh,ze3,ze4,ze5,zdi,ze6,ze7,ze8,zfa,zfb,zfc,zdl,zdm,zdn,zdo,zdp,zci,zdq,zf2,zdr,zfe,zds,zff,zfg,zfh,zfi,zfj,zfk,zdt,zdu,zdv,zfl,zfm,zdw,zfn,zdx,zfq,zfr,zf3,zbE,zaX,zae,zaY,zaZ,zbk,zbv,zax,zbl,zao,zaK,za8,zbm,za9,za0,zba,zbb,zaf,zap,zaq,zaa,zar,zaL,zbF,za1,zag,za2,za3,zbn,zbw,zay,zbo,zas,zaM,zbc,zbp,zbd,za4,zbe,zbf,zah,zbG,zbj,zcj,zck,zbx,zaS,zaW,zbH,zbI,zcl,zby,zcm,zdy,zdz,zcn,zco,zfs,zft,zdA,zdB,zdC,zfv,zfw,zfx,zfy,zfz,zdD,zdF,zdG,zdH,zfA,zdI,zdJ,zdL,zdM,zfB,zfC,zfD,zdO,zcp,zfE,zdP,zdQ,zdR,zdS,zdT,zdV,zdW,zcq,zbJ,zbK,zdX,zdY,zfF,zd2,zfG,zfJ,zfK,zd5,zd6,zd7,zd8,zd9,zfL,zfM,zfN,zfO,zfP,zeb,zec,zfQ,zed,zee,zef,zeg,zeh,zcr,zei,zej,zem,zfR,zen,zfS,zfT,zfV,zfX,zfY,zeo,zep,zer,zfZ,zes,zeu,zew,zex,zez,zbr,zam,zbs,zbt,zbM,zcs,zaT,zbN,zaG,za7,F_put_all,F_gather,F_flatten,zbu,zbB,zbC,zan,zaH,zaI,zad,zaJ,F_FlowRun_go,if_true,if_false,zf4,zf5,cond_true,cond_false,List.zip,List.zipWith,List.length_cons,List.length_nil,Option.isSome_some,Bool.false_eq_true,reduceIte,reduceCtorEq,Nat.reduceEqDiff,Nat.reduceAdd,Nat.reduceLeDiff,Int.cast_ofNat_Int,decide_true,decide_false,Bool.and_true,Bool.true_and,Bool.and_false,Bool.false_and,Int.sub_zero,Int.reduceNeg,Nat.reduceLT,and_self,and_true,true_and,Bool.false_or,Bool.or_false,Bool.true_or,Bool.or_true,Bool.not_true,Bool.not_false,Int.natAbs_neg,Int.reduceSub,Int.reduceAdd,Int.reduceToNat,Int.natAbs_zero,Int.natAbs_one,Int.reduceLT,Int.reduceLE,Int.reduceGE,Int.reduceGT,decide_eq_true_eq,List.getElem?_cons_zero,List.getElem?_cons_succ,Nat.reduceSub,Int.reduceMul,Nat.reduceBEq,Nat.reducePow,Int.reducePow,and_false,false_and,eq_self,zbO,zbD _ _ zbx,IX,lim,F__law_program3,LP0,tl2,List.cons_append,List.nil_append,b1]
end
end Mn.Mg
end
section
set_option maxRecDepth 100000
namespace Mn.Mg
noncomputable def lineV (os : List Nat) (sr : Nat → Nat) (y : Nat) : MV := .tup [.int (nmF os 0 y), .ref (sr y)]
structure LnF (K : MH) (b : Bd) (os : List Nat) (kl : Nat) (sr kr : Nat → Nat) (ys : List Nat) : Prop where
  lines : K.get kl = some (.list (ys.map (lineV os sr)))
  lk : kl < K.next
  s : ∀ y ∈ ys, K.get (sr y) = some (.list (stm b (nmF os 0) (kr y) y)) ∧ kl < sr y ∧ sr y < K.next
  k : ∀ y ∈ ys, isB y → K.get (kr y) = some (.list (((b.g y).map (nmF os 0)).map .int)) ∧ kl < kr y ∧ kr y < K.next
theorem LnF.more {K K' : MH} {b : Bd} {os : List Nat} {kl : Nat} {sr kr : Nat → Nat} {ys : List Nat} (h : LnF K b os kl sr kr ys) (g : Grew K K') {y r k : Nat} (hr : K'.get r = some (.list (stm b (nmF os 0) k y))) (lr : K.next ≤ r ∧ r < K'.next)
    (hk : isB y → K'.get k = some (.list (((b.g y).map (nmF os 0)).map .int)) ∧ K.next ≤ k ∧ k < K'.next) (hy : y ∉ ys) :
    LnF (K'.upd kl (.list (ys.map (lineV os sr) ++ [.tup [.int (nmF os 0 y), .ref r]]))) b os kl (fun z => if z = y then r else sr z) (fun z => if z = y then k else kr z) (ys ++ [y]) := by
  have lk := h.lk
  have up : ∀ {a : Nat}, kl < a → ∀ o, (K'.upd kl o).get a = K'.get a := fun q o => upd_ne _ _ _ _ (Nat.ne_of_gt q)
  refine ⟨?_, Nat.lt_of_lt_of_le lk g.next, fun z hz => ?_, fun z hz hb => ?_⟩
  · rw [upd_eq, List.map_append]
    congr 3
    · refine List.map_congr_left fun z hz => ?_
      have q : z ≠ y := fun e => hy (e ▸ hz)
      show _ = MV.tup [_, .ref (if z = y then r else sr z)]
      rw [if_neg q]; rfl
    · show _ = [MV.tup [_, .ref (if y = y then r else sr y)]]
      rw [if_pos rfl]
  · by_cases q : z = y
    · rw [if_pos q, if_pos q, q, up (Nat.lt_of_lt_of_le lk lr.1)]
      exact ⟨hr, Nat.lt_of_lt_of_le lk lr.1, lr.2⟩
    · obtain ⟨a, b1, c⟩ := h.s z ((List.mem_append.mp hz).resolve_right fun e => q (List.mem_singleton.mp e))
      rw [if_neg q, if_neg q, up b1, g.get _ c]
      exact ⟨a, b1, Nat.lt_of_lt_of_le c g.next⟩
  · by_cases q : z = y
    · obtain ⟨a, b1, c⟩ := hk (q ▸ hb)
      rw [if_pos q, q, up (Nat.lt_of_lt_of_le lk b1)]
      exact ⟨a, Nat.lt_of_lt_of_le lk b1, c⟩
    · obtain ⟨a, b1, c⟩ := h.k z ((List.mem_append.mp hz).resolve_right fun e => q (List.mem_singleton.mp e)) hb
      rw [if_neg q, up b1, g.get _ c]
      exact ⟨a, b1, Nat.lt_of_lt_of_le c g.next⟩
theorem nd_take {os : List Nat} (h : os.Nodup) {j y : Nat} (e : os[j]? = some y) : y ∉ os.take j := by
  intro hm
  obtain ⟨i, hi, q⟩ := List.getElem_of_mem hm
  rw [List.length_take] at hi
  obtain ⟨hj, e⟩ := List.getElem?_eq_some_iff.mp e
  rw [List.getElem_take, ← e] at q
  exact List.pairwise_iff_getElem.mp h i j (by omega) hj (by omega) q
section
variable {H : MH} {b : Bd} {os : List Nat} {kb kn kl : Nat} {es : List (MV × MV)} {ov : MV}
noncomputable abbrev LP (ov : MV) (kb kn kl : Nat) : Loc := [(1578172179826, ov), (389692841487219, .ref kb), (103148954138800755, .ref kn), (1565136938355, .ref kl)]
structure PI3 (H : MH) (b : Bd) (os : List Nat) (kb kn kl : Nat) (ov : MV) (es : List (MV × MV)) (j : Nat) (L : Loc) (K : MH) : Prop where
  g : Grew H K
  l : ∃ z : Loc, (z = [] ∨ ∃ v, z = [(6146846053, v)]) ∧ L = LP ov kb kn kl ++ z
  f : ∃ sr kr, LnF K b os kl sr kr (os.take j)
theorem prog_step (O : OO os) (B : BF H b kb es) (hn : H.get kn = some (.dict (nl os 0))) (ln : kn < H.next) (hkl : H.next ≤ kl) {j : Nat} {L : Loc} {K : MH} {v : MV} (I : PI3 H b os kb kn kl ov es j L K) (hv : (os.map MV.str)[j]? = some v) :
    ∃ L1 L' H', PI3 H b os kb kn kl ov es (j + 1) L' H' ∧ ∀ n d, put (PgC lf3 lg3) (ev (PgC lf3 lg3) (n + 150) (d + 4)) (.nam 6146846053) v L K = some (L1, K) ∧ stmts (ev (PgC lf3 lg3) (n + 150) (d + 4)) (fb 2 F__law_program3.body) L1 K = some (.nxt, L', H') := by
  rw [List.getElem?_map] at hv
  obtain ⟨y, hy, rfl⟩ := Option.map_eq_some_iff.mp hv
  obtain ⟨g, ⟨z, hz, rfl⟩, sr, kr, F⟩ := I
  have hset : zf5 6146846053 (.str y) (LP ov kb kn kl ++ z) = LP ov kb kn kl ++ [(6146846053, .str y)] := by rcases hz with rfl | ⟨u, rfl⟩ <;> rfl
  have hm := List.mem_of_getElem? hy
  have hnd := nd_take O.nd hy
  have ht : os.take (j + 1) = os.take j ++ [y] := by rw [List.take_add_one, hy]; rfl
  have hl := F.lines
  have b1 : ((os.take j).map (lineV os sr)).length < 1048576 := by rw [List.length_map, List.length_take]; have := O.len; omega
  have B' := B.mono g
  have kg := B'.get
  have hn' := (g.get _ ln).trans hn
  have hk := nl_ok y os 0
  have hd := nl_get (j := 0) hm
  have hok := B'.ok y
  have fin : ∀ {K' : MH} {r k : Nat}, Grew K K' → K'.get r = some (.list (stm b (nmF os 0) k y)) → (K.next ≤ r ∧ r < K'.next) → (isB y → K'.get k = some (.list (((b.g y).map (nmF os 0)).map .int)) ∧ K.next ≤ k ∧ k < K'.next) →
      (∀ n d, stmts (ev (PgC lf3 lg3) (n + 150) (d + 4)) (fb 2 F__law_program3.body) (LP ov kb kn kl ++ [(6146846053, .str y)]) K = some (.nxt, LP ov kb kn kl ++ [(6146846053, .str y)], K'.upd kl (.list ((os.take j).map (lineV os sr) ++ [.tup [.int (nmF os 0 y), .ref r]])))) →
      ∃ L1 L' H', PI3 H b os kb kn kl ov es (j + 1) L' H' ∧ ∀ n d, put (PgC lf3 lg3) (ev (PgC lf3 lg3) (n + 150) (d + 4)) (.nam 6146846053) (.str y) (LP ov kb kn kl ++ z) K = some (L1, K) ∧ stmts (ev (PgC lf3 lg3) (n + 150) (d + 4)) (fb 2 F__law_program3.body) L1 K = some (.nxt, L', H') := by
    intro K' r k g' hr lr hk e
    refine ⟨_, _, _, ⟨(g.trans g').upd _ hkl, ⟨_, .inr ⟨_, rfl⟩, rfl⟩, _, _, ht ▸ F.more g' hr lr hk hnd⟩, fun n d => ⟨?_, e n d⟩⟩
    rw [zb2, hset]
  have ml : ∀ n d as L, kme (PgC lf3 lg3) n d 388610526637668 as L (.ref kl, K) = (evs (ev (PgC lf3 lg3) n d) as L K).bind (kml kl 388610526637668) := fun n d as L => meL hl
  rcases (O.mem y).mp hm with (hB | rfl) | rfl
  · obtain ⟨kgx, d1, d2, d3⟩ := B'.dB y hB
    obtain ⟨H', r, k, g', hr, hkk, lk1, lk2, lr, lr', n1⟩ := block_B hB K d3 hn' d2 (Nat.lt_of_lt_of_le ln g.next) ⟨(B'.g y hB).1, fun t ht => (O.mem t).mpr (.inl ((B'.g y hB).2 t ht))⟩ ((O.mem 339).mpr (.inr rfl))
    have hne : (y == 325) = false := by rcases hB with rfl | rfl | rfl <;> rfl
    have kl' := (g'.get _ F.lk).trans hl
    refine fin g' hr ⟨lr, lr'⟩ (fun _ => ⟨hkk, lk1, lk2⟩) fun n d => ?_
    simp only [F__law_program3, fb, List.getElem?_cons_zero, List.getElem?_cons_succ, LP]
    simp only [zct,zcv,zcw,zcx,zcy,zcz,zcB,zcC,zbP,zcD,zcE,zcF,zcG,zbQ,zcH,zcI,zcJ,zcK,zbR,zeA,zeB,zeC,zeD,zcL,zcM,zcP,zcS,zbS,zbT,zcU,zcW,zcX,zcY,zcZ,zbU,zc0,zf0,zf1,zbW,zbX,zbZ,zeF,zeG,zc1,zc2,zb2,zb3,zb4,zb5,zc3,zc4,zeH,zeI,zeJ,zb6,zca,zcc,zcd,zce,zc7,zeN,zeO,zda,zcf,zeP,zeQ,zdb,zeR,zeT,zeU,zeV,zeW,zeX,zdd,zeY,zeZ,ze0,zde,ze1,zdf,zdg,ze2,zdh,ze3,ze4,ze5,zdi,ze6,ze7,ze8,zfa,zfb,zfc,zdl,zdm,zdn,zdo,zdp,zci,zdq,zf2,zdr,zfe,zds,zff,zfg,zfh,zfi,zfj,zfk,zdt,zdu,zdv,zfl,zfm,zdw,zfn,zdx,zfq,zfr,zf3,zbE,zaX,zae,zaY,zaZ,zbk,zbv,zax,zbl,zao,zaK,za8,zbm,za9,za0,zba,zbb,zaf,zap,zaq,zaa,zar,zaL,zbF,za1,zag,za2,za3,zbn,zbw,zay,zbo,zas,zaM,zbc,zbp,zbd,za4,zbe,zbf,zah,zbG,zbj,zcj,zck,zbx,zaS,zaW,zbH,zbI,zcl,zby,zcm,zdy,zdz,zcn,zco,zfs,zft,zdA,zdB,zdC,zfv,zfw,zfx,zfy,zfz,zdD,zdF,zdG,zdH,zfA,zdI,zdJ,zdL,zdM,zfB,zfC,zfD,zdO,zcp,zfE,zdP,zdQ,zdR,zdS,zdT,zdV,zdW,zcq,zbJ,zbK,zdX,zdY,zfF,zd2,zfG,zfJ,zfK,zd5,zd6,zd7,zd8,zd9,zfL,zfM,zfN,zfO,zfP,zeb,zec,zfQ,zed,zee,zef,zeg,zeh,zcr,zei,zej,zem,zfR,zen,zfS,zfT,zfV,zfX,zfY,zeo,zep,zer,zfZ,zes,zeu,zew,zex,zez,zbr,zam,zbs,zbt,zbM,zcs,zaT,zbN,zaG,za7,F_put_all,F_gather,F_flatten,zbu,zbB,zbC,zan,zaH,zaI,zad,zaJ,F_FlowRun_go,if_true,if_false,zf4,zf5,cond_true,cond_false,List.zip,List.zipWith,List.length_cons,List.length_nil,Option.isSome_some,Bool.false_eq_true,reduceIte,reduceCtorEq,Nat.reduceEqDiff,Nat.reduceAdd,Nat.reduceLeDiff,Int.cast_ofNat_Int,decide_true,decide_false,Bool.and_true,Bool.true_and,Bool.and_false,Bool.false_and,Int.sub_zero,Int.reduceNeg,Nat.reduceLT,and_self,and_true,true_and,Bool.false_or,Bool.or_false,Bool.true_or,Bool.or_true,Bool.not_true,Bool.not_false,Int.natAbs_neg,Int.reduceSub,Int.reduceAdd,Int.reduceToNat,Int.natAbs_zero,Int.natAbs_one,Int.reduceLT,Int.reduceLE,Int.reduceGE,Int.reduceGT,decide_eq_true_eq,List.getElem?_cons_zero,List.getElem?_cons_succ,Nat.reduceSub,Int.reduceMul,Nat.reduceBEq,Nat.reducePow,Int.reducePow,and_false,false_and,eq_self,zbO,zbD _ _ zbx,IX,lim,F__law_program3,List.cons_append,List.nil_append,ml,hn',hk,hd,hne,kg,hok,d1,g3_F__law_block,f3_F__law_block,n1,kl',b1]
  · obtain ⟨K', hK⟩ : ∃ K', K.new (.list [.tup [.str 22168909, .str 325], .tup [.str 21319236]]) = K' := ⟨_, rfl⟩
    have g' : Grew K K' := hK ▸ (Grew.refl K).new _
    have kl' := (g'.get _ F.lk).trans hl
    refine fin (k := 0) g' (r := K.next) (hK ▸ new_eq _ _) ⟨Nat.le_refl _, hK ▸ Nat.lt_succ_self _⟩ (fun h => absurd h (by unfold isB; decide)) fun n d => ?_
    simp only [F__law_program3, fb, List.getElem?_cons_zero, List.getElem?_cons_succ, LP]
    simp only [zct,zcv,zcw,zcx,zcy,zcz,zcB,zcC,zbP,zcD,zcE,zcF,zcG,zbQ,zcH,zcI,zcJ,zcK,zbR,zeA,zeB,zeC,zeD,zcL,zcM,zcP,zcS,zbS,zbT,zcU,zcW,zcX,zcY,zcZ,zbU,zc0,zf0,zf1,zbW,zbX,zbZ,zeF,zeG,zc1,zc2,zb2,zb3,zb4,zb5,zc3,zc4,zeH,zeI,zeJ,zb6,zca,zcc,zcd,zce,zc7,zeN,zeO,zda,zcf,zeP,zeQ,zdb,zeR,zeT,zeU,zeV,zeW,zeX,zdd,zeY,zeZ,ze0,zde,ze1,zdf,zdg,ze2,zdh,ze3,ze4,ze5,zdi,ze6,ze7,ze8,zfa,zfb,zfc,zdl,zdm,zdn,zdo,zdp,zci,zdq,zf2,zdr,zfe,zds,zff,zfg,zfh,zfi,zfj,zfk,zdt,zdu,zdv,zfl,zfm,zdw,zfn,zdx,zfq,zfr,zf3,zbE,zaX,zae,zaY,zaZ,zbk,zbv,zax,zbl,zao,zaK,za8,zbm,za9,za0,zba,zbb,zaf,zap,zaq,zaa,zar,zaL,zbF,za1,zag,za2,za3,zbn,zbw,zay,zbo,zas,zaM,zbc,zbp,zbd,za4,zbe,zbf,zah,zbG,zbj,zcj,zck,zbx,zaS,zaW,zbH,zbI,zcl,zby,zcm,zdy,zdz,zcn,zco,zfs,zft,zdA,zdB,zdC,zfv,zfw,zfx,zfy,zfz,zdD,zdF,zdG,zdH,zfA,zdI,zdJ,zdL,zdM,zfB,zfC,zfD,zdO,zcp,zfE,zdP,zdQ,zdR,zdS,zdT,zdV,zdW,zcq,zbJ,zbK,zdX,zdY,zfF,zd2,zfG,zfJ,zfK,zd5,zd6,zd7,zd8,zd9,zfL,zfM,zfN,zfO,zfP,zeb,zec,zfQ,zed,zee,zef,zeg,zeh,zcr,zei,zej,zem,zfR,zen,zfS,zfT,zfV,zfX,zfY,zeo,zep,zer,zfZ,zes,zeu,zew,zex,zez,zbr,zam,zbs,zbt,zbM,zcs,zaT,zbN,zaG,za7,F_put_all,F_gather,F_flatten,zbu,zbB,zbC,zan,zaH,zaI,zad,zaJ,F_FlowRun_go,if_true,if_false,zf4,zf5,cond_true,cond_false,List.zip,List.zipWith,List.length_cons,List.length_nil,Option.isSome_some,Bool.false_eq_true,reduceIte,reduceCtorEq,Nat.reduceEqDiff,Nat.reduceAdd,Nat.reduceLeDiff,Int.cast_ofNat_Int,decide_true,decide_false,Bool.and_true,Bool.true_and,Bool.and_false,Bool.false_and,Int.sub_zero,Int.reduceNeg,Nat.reduceLT,and_self,and_true,true_and,Bool.false_or,Bool.or_false,Bool.true_or,Bool.or_true,Bool.not_true,Bool.not_false,Int.natAbs_neg,Int.reduceSub,Int.reduceAdd,Int.reduceToNat,Int.natAbs_zero,Int.natAbs_one,Int.reduceLT,Int.reduceLE,Int.reduceGE,Int.reduceGT,decide_eq_true_eq,List.getElem?_cons_zero,List.getElem?_cons_succ,Nat.reduceSub,Int.reduceMul,Nat.reduceBEq,Nat.reducePow,Int.reducePow,and_false,false_and,eq_self,zbO,zbD _ _ zbx,IX,lim,F__law_program3,List.cons_append,List.nil_append,ml,hn',hk,hd,kg,hok,hK,kl',b1]
  · obtain ⟨kgx, d1⟩ := B'.dS
    obtain ⟨H', r, g', hr, lr', lr, n1⟩ := block_S b B.cS K kgx kn
    have kl' := (g'.get _ F.lk).trans hl
    refine fin (k := 0) g' hr ⟨lr, lr'⟩ (fun h => absurd h (by unfold isB; decide)) fun n d => ?_
    simp only [F__law_program3, fb, List.getElem?_cons_zero, List.getElem?_cons_succ, LP]
    simp only [zct,zcv,zcw,zcx,zcy,zcz,zcB,zcC,zbP,zcD,zcE,zcF,zcG,zbQ,zcH,zcI,zcJ,zcK,zbR,zeA,zeB,zeC,zeD,zcL,zcM,zcP,zcS,zbS,zbT,zcU,zcW,zcX,zcY,zcZ,zbU,zc0,zf0,zf1,zbW,zbX,zbZ,zeF,zeG,zc1,zc2,zb2,zb3,zb4,zb5,zc3,zc4,zeH,zeI,zeJ,zb6,zca,zcc,zcd,zce,zc7,zeN,zeO,zda,zcf,zeP,zeQ,zdb,zeR,zeT,zeU,zeV,zeW,zeX,zdd,zeY,zeZ,ze0,zde,ze1,zdf,zdg,ze2,zdh,ze3,ze4,ze5,zdi,ze6,ze7,ze8,zfa,zfb,zfc,zdl,zdm,zdn,zdo,zdp,zci,zdq,zf2,zdr,zfe,zds,zff,zfg,zfh,zfi,zfj,zfk,zdt,zdu,zdv,zfl,zfm,zdw,zfn,zdx,zfq,zfr,zf3,zbE,zaX,zae,zaY,zaZ,zbk,zbv,zax,zbl,zao,zaK,za8,zbm,za9,za0,zba,zbb,zaf,zap,zaq,zaa,zar,zaL,zbF,za1,zag,za2,za3,zbn,zbw,zay,zbo,zas,zaM,zbc,zbp,zbd,za4,zbe,zbf,zah,zbG,zbj,zcj,zck,zbx,zaS,zaW,zbH,zbI,zcl,zby,zcm,zdy,zdz,zcn,zco,zfs,zft,zdA,zdB,zdC,zfv,zfw,zfx,zfy,zfz,zdD,zdF,zdG,zdH,zfA,zdI,zdJ,zdL,zdM,zfB,zfC,zfD,zdO,zcp,zfE,zdP,zdQ,zdR,zdS,zdT,zdV,zdW,zcq,zbJ,zbK,zdX,zdY,zfF,zd2,zfG,zfJ,zfK,zd5,zd6,zd7,zd8,zd9,zfL,zfM,zfN,zfO,zfP,zeb,zec,zfQ,zed,zee,zef,zeg,zeh,zcr,zei,zej,zem,zfR,zen,zfS,zfT,zfV,zfX,zfY,zeo,zep,zer,zfZ,zes,zeu,zew,zex,zez,zbr,zam,zbs,zbt,zbM,zcs,zaT,zbN,zaG,za7,F_put_all,F_gather,F_flatten,zbu,zbB,zbC,zan,zaH,zaI,zad,zaJ,F_FlowRun_go,if_true,if_false,zf4,zf5,cond_true,cond_false,List.zip,List.zipWith,List.length_cons,List.length_nil,Option.isSome_some,Bool.false_eq_true,reduceIte,reduceCtorEq,Nat.reduceEqDiff,Nat.reduceAdd,Nat.reduceLeDiff,Int.cast_ofNat_Int,decide_true,decide_false,Bool.and_true,Bool.true_and,Bool.and_false,Bool.false_and,Int.sub_zero,Int.reduceNeg,Nat.reduceLT,and_self,and_true,true_and,Bool.false_or,Bool.or_false,Bool.true_or,Bool.or_true,Bool.not_true,Bool.not_false,Int.natAbs_neg,Int.reduceSub,Int.reduceAdd,Int.reduceToNat,Int.natAbs_zero,Int.natAbs_one,Int.reduceLT,Int.reduceLE,Int.reduceGE,Int.reduceGT,decide_eq_true_eq,List.getElem?_cons_zero,List.getElem?_cons_succ,Nat.reduceSub,Int.reduceMul,Nat.reduceBEq,Nat.reducePow,Int.reducePow,and_false,false_and,eq_self,zbO,zbD _ _ zbx,IX,lim,F__law_program3,List.cons_append,List.nil_append,ml,hn',hk,hd,kg,hok,d1,g3_F__law_block,f3_F__law_block,n1,kl',b1]
end
end Mn.Mg
end
section
set_option maxRecDepth 100000
namespace Mn.Mg
structure Ob (H K : MH) (c : Nat) (es : List (MV × MV)) : Prop where
  g : Grew H K
  lt : H.next + 1 < K.next
  i : K.get (H.next + 1) = some (.inst c H.next)
  e : K.get H.next = some (.dict es)
theorem ob_start (H : MH) (c : Nat) : Ob H ((H.new (.dict [])).new (.inst c H.next)) c [] :=
  ⟨((Grew.refl H).new _).new _, Nat.lt_succ_self _, n2_1 _ _ _, n2_0 _ _ _⟩
section
variable {H K K1 : MH} {c : Nat} {es : List (MV × MV)} {L : Loc}
theorem ob_step (o : Ob H K c es) (x : Nat) (e : MX) (v : MV) (hL : zf4 6230994022 L = some (.ref (H.next + 1))) (g : Grew K K1) (ok : okKey (.str x) es = true) (ha : (PgC lf3 lg3).atr c x = true) (hl : Nat.blt es.length 100 = true) :
    ∃ K2, Ob H K2 c (dPut (.str x) v es) ∧ K2.next = K1.next ∧ (∀ j, j ≠ H.next → K2.get j = K1.get j) ∧ ∀ n d r, (ev (PgC lf3 lg3) (n + 1) (d)).x e L K = some (v, K1) → stmts (ev (PgC lf3 lg3) (n + 2) (d)) (.asg (.att (.loc 6230994022) x) e :: r) L K = stmts (ev (PgC lf3 lg3) (n + 2) (d)) r L K2 := by
  have h1 := (g.get _ o.lt).trans o.i
  have h2 := (g.get _ (Nat.lt_of_succ_lt o.lt)).trans o.e
  refine ⟨K1.upd H.next (.dict (dPut (.str x) v es)), ⟨(o.g.trans g).upd _ (Nat.le_refl _), Nat.lt_of_lt_of_le o.lt g.next, (upd_ne _ _ _ _ (Nat.succ_ne_self _)).trans h1, upd_eq _ _ _⟩, rfl, fun j hj => upd_ne _ _ _ _ hj, fun n d r he => ?_⟩
  have sa : setAttr (PgC lf3 lg3) K1 (.ref (H.next + 1)) x v = some (K1.upd H.next (.dict (dPut (.str x) v es))) := by
    unfold setAttr
    rw [instA h1 h2]
    exact if_pos ⟨ha, ok, Nat.blt_eq.mp hl⟩
  simp only [zct,zcv,zcw,zcx,zcy,zcz,zcB,zcC,zbP,zcD,zcE,zcF,zcG,zbQ,zcH,zcI,zcJ,zcK,zbR,zeA,zeB,zeC,zeD,zcL,zcM,zcP,zcS,zbS,zbT,zcU,zcW,zcX,zcY,zcZ,zbU,zc0,zf0,zf1,zbW,zbX,zbZ,zeF,zeG,zc1,zc2,zb2,zb3,zb4,zb5,zc3,zc4,zeH,zeI,zeJ,zb6,zca,zcc,zcd,zce,zc7,zeN,zeO,zda,zcf,zeP,zeQ,zdb,zeR,zeT,zeU,zeV,zeW,zeX,zdd,zeY,zeZ,ze0,zde,ze1,zdf,zdg,ze2,zdh,ze3,ze4,ze5,zdi,ze6,ze7,ze8,zfa,zfb,zfc,zdl,zdm,zdn,zdo,zdp,zci,zdq,zf2,zdr,zfe,zds,zff,zfg,zfh,zfi,zfj,zfk,zdt,zdu,zdv,zfl,zfm,zdw,zfn,zdx,zfq,zfr,zf3,zbE,zaX,zae,zaY,zaZ,zbk,zbv,zax,zbl,zao,zaK,za8,zbm,za9,za0,zba,zbb,zaf,zap,zaq,zaa,zar,zaL,zbF,za1,zag,za2,za3,zbn,zbw,zay,zbo,zas,zaM,zbc,zbp,zbd,za4,zbe,zbf,zah,zbG,zbj,zcj,zck,zbx,zaS,zaW,zbH,zbI,zcl,zby,zcm,zdy,zdz,zcn,zco,zfs,zft,zdA,zdB,zdC,zfv,zfw,zfx,zfy,zfz,zdD,zdF,zdG,zdH,zfA,zdI,zdJ,zdL,zdM,zfB,zfC,zfD,zdO,zcp,zfE,zdP,zdQ,zdR,zdS,zdT,zdV,zdW,zcq,zbJ,zbK,zdX,zdY,zfF,zd2,zfG,zfJ,zfK,zd5,zd6,zd7,zd8,zd9,zfL,zfM,zfN,zfO,zfP,zeb,zec,zfQ,zed,zee,zef,zeg,zeh,zcr,zei,zej,zem,zfR,zen,zfS,zfT,zfV,zfX,zfY,zeo,zep,zer,zfZ,zes,zeu,zew,zex,zez,zbr,zam,zbs,zbt,zbM,zcs,zaT,zbN,zaG,za7,F_put_all,F_gather,F_flatten,zbu,zbB,zbC,zan,zaH,zaI,zad,zaJ,F_FlowRun_go,if_true,if_false,zf4,zf5,cond_true,cond_false,List.zip,List.zipWith,List.length_cons,List.length_nil,Option.isSome_some,Bool.false_eq_true,reduceIte,reduceCtorEq,Nat.reduceEqDiff,Nat.reduceAdd,Nat.reduceLeDiff,Int.cast_ofNat_Int,decide_true,decide_false,Bool.and_true,Bool.true_and,Bool.and_false,Bool.false_and,Int.sub_zero,Int.reduceNeg,Nat.reduceLT,and_self,and_true,true_and,Bool.false_or,Bool.or_false,Bool.true_or,Bool.or_true,Bool.not_true,Bool.not_false,Int.natAbs_neg,Int.reduceSub,Int.reduceAdd,Int.reduceToNat,Int.natAbs_zero,Int.natAbs_one,Int.reduceLT,Int.reduceLE,Int.reduceGE,Int.reduceGT,decide_eq_true_eq,List.getElem?_cons_zero,List.getElem?_cons_succ,Nat.reduceSub,Int.reduceMul,Nat.reduceBEq,Nat.reducePow,Int.reducePow,and_false,false_and,eq_self,zbO,zbD _ _ zbx,IX,lim,Option.getD_some,he,hL,sa]
theorem flat_new (H : MH) : ∃ K, Grew H K ∧ K.next = H.next + 8 ∧ K.get (H.next + 1) = some (.inst 5476475252 H.next) ∧ K.get H.next = some (.dict [(.str 6214874995, .ref (H.next + 2)), (.str 405085769393523, .ref (H.next + 3)), (.str 5979075681, .ref (H.next + 4)), (.str 1582182265459, .ref (H.next + 5)), (.str 1565237670003, .ref (H.next + 6)), (.str 23490163, .ref (H.next + 7))])
    ∧ K.get (H.next + 2) = some (.list []) ∧ K.get (H.next + 3) = some (.dict []) ∧ ∀ n d, (ev (PgC lf3 lg3) (n + 80) (d + 5)).c (.cls 5476475252) [] H = some (.ref (H.next + 1), K) := by
  have o0 := ob_start H 5476475252
  obtain ⟨K1, o1, m1, p1, e1⟩ := ob_step (L := [(6230994022, .ref (H.next + 1))]) (K1 := ((H.new (.dict [])).new (.inst 5476475252 H.next)).new (.list [])) o0 6214874995 (.lst []) (.ref ((H.new (.dict [])).new (.inst 5476475252 H.next)).next) rfl ((Grew.refl _).new _) rfl rfl rfl
  obtain ⟨K2, o2, m2, p2, e2⟩ := ob_step (L := [(6230994022, .ref (H.next + 1))]) (K1 := K1.new (.dict [])) o1 405085769393523 .dct (.ref K1.next) rfl ((Grew.refl _).new _) rfl rfl rfl
  obtain ⟨K3, o3, m3, p3, e3⟩ := ob_step (L := [(6230994022, .ref (H.next + 1))]) (K1 := K2.new (.list [])) o2 5979075681 (.lst []) (.ref K2.next) rfl ((Grew.refl _).new _) rfl rfl rfl
  obtain ⟨K4, o4, m4, p4, e4⟩ := ob_step (L := [(6230994022, .ref (H.next + 1))]) (K1 := K3.new (.dict [])) o3 1582182265459 .dct (.ref K3.next) rfl ((Grew.refl _).new _) rfl rfl rfl
  obtain ⟨K5, o5, m5, p5, e5⟩ := ob_step (L := [(6230994022, .ref (H.next + 1))]) (K1 := K4.new (.dict [])) o4 1565237670003 .dct (.ref K4.next) rfl ((Grew.refl _).new _) rfl rfl rfl
  obtain ⟨K6, o6, m6, p6, e6⟩ := ob_step (L := [(6230994022, .ref (H.next + 1))]) (K1 := K5.new (.dict [])) o5 23490163 .dct (.ref K5.next) rfl ((Grew.refl _).new _) rfl rfl rfl
  have m0 : ((H.new (.dict [])).new (.inst 5476475252 H.next)).next = H.next + 2 := rfl
  have m1 : K1.next = H.next + 3 := m1
  have m2 : K2.next = H.next + 4 := m2.trans (by rw [n_n, m1])
  have m3 : K3.next = H.next + 5 := m3.trans (by rw [n_n, m2])
  have m4 : K4.next = H.next + 6 := m4.trans (by rw [n_n, m3])
  have m5 : K5.next = H.next + 7 := m5.trans (by rw [n_n, m4])
  have m6 : K6.next = H.next + 8 := m6.trans (by rw [n_n, m5])
  have g2 : K6.get (H.next + 2) = some (.list []) := by
    rw [p6 _ (by omega), new_ne _ _ _ (by omega), p5 _ (by omega), new_ne _ _ _ (by omega), p4 _ (by omega), new_ne _ _ _ (by omega), p3 _ (by omega), new_ne _ _ _ (by omega), p2 _ (by omega), new_ne _ _ _ (by omega), p1 _ (by omega)]
    exact new_eq _ _
  have g3 : K6.get (H.next + 3) = some (.dict []) := by
    rw [p6 _ (by omega), new_ne _ _ _ (by omega), p5 _ (by omega), new_ne _ _ _ (by omega), p4 _ (by omega), new_ne _ _ _ (by omega), p3 _ (by omega), new_ne _ _ _ (by omega), p2 _ (by omega), show H.next + 3 = K1.next by omega]
    exact new_eq _ _
  have e := o6.e
  rw [m0, m1, m2, m3, m4, m5] at e
  refine ⟨K6, o6.g, by omega, o6.i, e, g2, g3, fun n d => ?_⟩
  rw [ec_cls _ _ zas, callF_ _ _ _ zao rfl rfl]
  show (Option.bind (stmts (ev (PgC lf3 lg3) (n + 79) (d + 4)) _ [(6230994022, .ref (H.next + 1))] _) krF).bind _ = _
  simp only [zaG]
  rw [e1 (n + 77) (d + 4) _ rfl, e2 (n + 77) (d + 4) _ rfl, e3 (n + 77) (d + 4) _ rfl, e4 (n + 77) (d + 4) _ rfl, e5 (n + 77) (d + 4) _ rfl, e6 (n + 77) (d + 4) _ rfl]
  rfl
theorem ctl_new (H : MH) : ∃ K, Grew H K ∧ K.next = H.next + 3 ∧ K.get (H.next + 1) = some (.inst 91038937668284268 H.next) ∧ K.get H.next = some (ctl (H.next + 2)) ∧ K.get (H.next + 2) = some (.list []) ∧ ∀ n d, (ev (PgC lf3 lg3) (n + 80) (d + 5)).c (.cls 91038937668284268) [.int 20] H = some (.ref (H.next + 1), K) := by
  have o0 := ob_start H 91038937668284268
  obtain ⟨K1, o1, m1, p1, e1⟩ := ob_step (L := [(6230994022, .ref (H.next + 1)), (6130987892, .int 20)]) (K1 := ((H.new (.dict [])).new (.inst 91038937668284268 H.next)).new (.list [])) o0 6180924517 (.lst []) (.ref (H.next + 2)) rfl ((Grew.refl _).new _) rfl rfl rfl
  obtain ⟨K2, o2, m2, p2, e2⟩ := ob_step (L := [(6230994022, .ref (H.next + 1)), (6130987892, .int 20)]) (K1 := K1) o1 6130987892 (.loc 6130987892) (.int 20) rfl (Grew.refl _) rfl rfl rfl
  obtain ⟨K3, o3, m3, p3, e3⟩ := ob_step (L := [(6230994022, .ref (H.next + 1)), (6130987892, .int 20)]) (K1 := K2) o2 6610953639064984576372 (.neg (.cst (.int 1))) (.int (-1)) rfl (Grew.refl _) rfl rfl rfl
  have m0 : (((H.new (.dict [])).new (.inst 91038937668284268 H.next)).new (.list [])).next = H.next + 3 := rfl
  have g2 : K3.get (H.next + 2) = some (.list []) := by
    rw [p3 _ (by omega), p2 _ (by omega), p1 _ (by omega)]
    exact new_eq _ _
  refine ⟨K3, o3.g, by omega, o3.i, o3.e, g2, fun n d => ?_⟩
  rw [ec_cls _ _ zag, callF_ _ _ _ zae rfl rfl]
  show (Option.bind (stmts (ev (PgC lf3 lg3) (n + 79) (d + 4)) _ [(6230994022, .ref (H.next + 1)), (6130987892, .int 20)] _) krF).bind _ = _
  simp only [zam]
  rw [e1 (n + 77) (d + 4) _ rfl, e2 (n + 77) (d + 4) _ rfl, e3 (n + 77) (d + 4) _ rfl]
  rfl
end
end Mn.Mg
end
section
set_option maxRecDepth 100000
namespace Mn.Mg
noncomputable def flE (h : Nat) : List (MV × MV) := [(.str 6214874995, .ref (h + 2)), (.str 405085769393523, .ref (h + 3)), (.str 5979075681, .ref (h + 4)), (.str 1582182265459, .ref (h + 5)), (.str 1565237670003, .ref (h + 6)), (.str 23490163, .ref (h + 7))]
structure FlK (K : MH) (h : Nat) : Prop where
  i : K.get (h + 1) = some (.inst 5476475252 h)
  e : K.get h = some (.dict (flE h))
  lt : h + 8 ≤ K.next
theorem FlK.rows {K : MH} {h : Nat} (f : FlK K h) : attr (PgC lf3 lg3) K (.ref (h + 1)) 6214874995 = some (.ref (h + 2)) := atI f.i f.e rfl rfl rfl rfl
theorem FlK.places {K : MH} {h : Nat} (f : FlK K h) : attr (PgC lf3 lg3) K (.ref (h + 1)) 405085769393523 = some (.ref (h + 3)) := atI f.i f.e rfl rfl rfl rfl
theorem FlK.upd {K : MH} {h : Nat} (f : FlK K h) {a : Nat} (ha : h + 2 ≤ a) (o : MO) : FlK (K.upd a o) h :=
  ⟨(upd_ne _ _ _ _ (by omega)).trans f.i, (upd_ne _ _ _ _ (by omega)).trans f.e, f.lt⟩
theorem FlK.grew {K K' : MH} {h : Nat} (f : FlK K h) (g : Grew K K') : FlK K' h := by
  have l := f.lt
  exact ⟨(g.get _ (by omega)).trans f.i, (g.get _ (by omega)).trans f.e, Nat.le_trans f.lt g.next⟩
theorem row_mv (r : Row) : ∃ k rest, r.mv = .tup (.str k :: rest) ∧ (k == 84294) = false ∧ (k == 5440099393) = false ∧ (k == 1474386545733) = false ∧ (k == 5759127108) = false ∧ (k == 23366159535143011667) = false ∧ (k == 1401472503364) = false ∧ (k == 21385042) = false ∧ (k == 5608134740) = false := by
  cases r <;> exact ⟨_, _, rfl, by decide, by decide, by decide, by decide, by decide, by decide, by decide, by decide⟩
theorem upd_same (H : MH) (k : Nat) (o : MO) (h : H.get k = some o) : H.upd k o = H := by
  cases H with | mk nx gt =>
  unfold MH.upd
  congr 1
  funext j
  dsimp only at h ⊢
  split
  · rename_i q; rw [q, h]
  · rfl
noncomputable def rwV (ln : Int) (r : Row) : MV := .tup [.int ln, r.mv]
section
variable {K : MH} {h : Nat}
theorem putrow_ok (f : FlK K h) {rs : List MV} (hr : K.get (h + 2) = some (.list rs)) (hl : rs.length < 1000) (ln : Int) (st : MV) : ∀ n d : Nat, ∃ v, (ev (PgC lf3 lg3) (n + 60) (d + 2)).c (.fn 1739997520299507713011558) [.ref (h + 1), .int ln, st] K = some (v, K.upd (h + 2) (.list (rs ++ [.tup [.int ln, st]]))) := by
  intro n d
  refine ⟨.int ((rs.length + 1 : Nat) - 1), ?_⟩
  rw [ec_fn, callF_ _ _ _ zaK rfl rfl]
  have b1 : rs.length < 1048576 := by omega
  have b2 : rs.length + 1 ≤ 1048576 := by omega
  have ml : ∀ n d as L, kme (PgC lf3 lg3) n d 388610526637668 as L (.ref (h + 2), K) = (evs (ev (PgC lf3 lg3) n d) as L K).bind (kml (h + 2) 388610526637668) := fun n d as L => meL hr
  have f' := (f.upd (Nat.le_refl _) (.list (rs ++ [.tup [.int ln, st]]))).rows
  simp only [zct,zcv,zcw,zcx,zcy,zcz,zcB,zcC,zbP,zcD,zcE,zcF,zcG,zbQ,zcH,zcI,zcJ,zcK,zbR,zeA,zeB,zeC,zeD,zcL,zcM,zcP,zcS,zbS,zbT,zcU,zcW,zcX,zcY,zcZ,zbU,zc0,zf0,zf1,zbW,zbX,zbZ,zeF,zeG,zc1,zc2,zb2,zb3,zb4,zb5,zc3,zc4,zeH,zeI,zeJ,zb6,zca,zcc,zcd,zce,zc7,zeN,zeO,zda,zcf,zeP,zeQ,zdb,zeR,zeT,zeU,zeV,zeW,zeX,zdd,zeY,zeZ,ze0,zde,ze1,zdf,zdg,ze2,zdh,ze3,ze4,ze5,zdi,ze6,ze7,ze8,zfa,zfb,zfc,zdl,zdm,zdn,zdo,zdp,zci,zdq,zf2,zdr,zfe,zds,zff,zfg,zfh,zfi,zfj,zfk,zdt,zdu,zdv,zfl,zfm,zdw,zfn,zdx,zfq,zfr,zf3,zbE,zaX,zae,zaY,zaZ,zbk,zbv,zax,zbl,zao,zaK,za8,zbm,za9,za0,zba,zbb,zaf,zap,zaq,zaa,zar,zaL,zbF,za1,zag,za2,za3,zbn,zbw,zay,zbo,zas,zaM,zbc,zbp,zbd,za4,zbe,zbf,zah,zbG,zbj,zcj,zck,zbx,zaS,zaW,zbH,zbI,zcl,zby,zcm,zdy,zdz,zcn,zco,zfs,zft,zdA,zdB,zdC,zfv,zfw,zfx,zfy,zfz,zdD,zdF,zdG,zdH,zfA,zdI,zdJ,zdL,zdM,zfB,zfC,zfD,zdO,zcp,zfE,zdP,zdQ,zdR,zdS,zdT,zdV,zdW,zcq,zbJ,zbK,zdX,zdY,zfF,zd2,zfG,zfJ,zfK,zd5,zd6,zd7,zd8,zd9,zfL,zfM,zfN,zfO,zfP,zeb,zec,zfQ,zed,zee,zef,zeg,zeh,zcr,zei,zej,zem,zfR,zen,zfS,zfT,zfV,zfX,zfY,zeo,zep,zer,zfZ,zes,zeu,zew,zex,zez,zbr,zam,zbs,zbt,zbM,zcs,zaT,zbN,zaG,za7,F_put_all,F_gather,F_flatten,zbu,zbB,zbC,zan,zaH,zaI,zad,zaJ,F_FlowRun_go,if_true,if_false,zf4,zf5,cond_true,cond_false,List.zip,List.zipWith,List.length_cons,List.length_nil,Option.isSome_some,Bool.false_eq_true,reduceIte,reduceCtorEq,Nat.reduceEqDiff,Nat.reduceAdd,Nat.reduceLeDiff,Int.cast_ofNat_Int,decide_true,decide_false,Bool.and_true,Bool.true_and,Bool.and_false,Bool.false_and,Int.sub_zero,Int.reduceNeg,Nat.reduceLT,and_self,and_true,true_and,Bool.false_or,Bool.or_false,Bool.true_or,Bool.or_true,Bool.not_true,Bool.not_false,Int.natAbs_neg,Int.reduceSub,Int.reduceAdd,Int.reduceToNat,Int.natAbs_zero,Int.natAbs_one,Int.reduceLT,Int.reduceLE,Int.reduceGE,Int.reduceGT,decide_eq_true_eq,List.getElem?_cons_zero,List.getElem?_cons_succ,Nat.reduceSub,Int.reduceMul,Nat.reduceBEq,Nat.reducePow,Int.reducePow,and_false,false_and,eq_self,zbO,zbD _ _ zbx,IX,lim,F_gather,F_flatten,F_put_all,f.rows,ml,hr,b1,b2,f',upd_eq,List.length_append]
theorem putall_ok (f : FlK K h) {rs : List MV} (hr : K.get (h + 2) = some (.list rs)) {sr : Nat} (rws : List Row) (h4 : rws.length ≤ 4) (hl : rs.length + rws.length < 1000) (hs : K.get sr = some (.list (rws.map Row.mv))) (hne : sr ≠ h + 2) (ln : Int) :
    ∀ n d : Nat, (ev (PgC lf3 lg3) (n + 200) (d + 4)).c (.fn 103711934106397804) [.ref (h + 1), .int ln, .ref sr] K = some (.none, K.upd (h + 2) (.list (rs ++ rws.map (rwV ln)))) := by
  intro n d
  have lp := forloop (P := PgC lf3 lg3) (t := .nam 6852128163306360106612) (body := fb 0 F_put_all.body) (vs := rws.map Row.mv) (nx := .lst sr) (dd := 3) (c := 80)
    (I := fun j L K' => (∃ z : Loc, (z = [] ∨ ∃ v, z = [(6852128163306360106612, v)]) ∧ L = [(6013346164, .ref (h + 1)), (6113816165, .int ln), (1754144809806428187292787, .ref sr)] ++ z) ∧ K' = K.upd (h + 2) (.list (rs ++ (rws.take j).map (rwV ln))))
    (fun j L K' I => I.2 ▸ lst_next ((upd_ne _ _ _ _ hne).trans hs) j) (fun j L K' v I hv => ?_) rws.length 0 [(6013346164, .ref (h + 1)), (6113816165, .int ln), (1754144809806428187292787, .ref sr)] K (by rw [List.length_map, Nat.zero_add]) ⟨⟨[], .inl rfl, rfl⟩, by rw [List.take_zero, List.map_nil, List.append_nil, upd_same _ _ _ hr]⟩
  · obtain ⟨L', K', ⟨_, rfl⟩, lp⟩ := lp
    rw [ec_fn, callF_ _ _ _ za8 rfl rfl]
    have lp := lp (n + 198) d (by omega)
    have e2 : (rws.take (rws.map Row.mv).length) = rws := by rw [List.length_map, List.take_length]
    rw [e2] at lp
    simp only [F_put_all, fb, List.getElem?_cons_zero] at lp
    simp only [zct,zcv,zcw,zcx,zcy,zcz,zcB,zcC,zbP,zcD,zcE,zcF,zcG,zbQ,zcH,zcI,zcJ,zcK,zbR,zeA,zeB,zeC,zeD,zcL,zcM,zcP,zcS,zbS,zbT,zcU,zcW,zcX,zcY,zcZ,zbU,zc0,zf0,zf1,zbW,zbX,zbZ,zeF,zeG,zc1,zc2,zb2,zb3,zb4,zb5,zc3,zc4,zeH,zeI,zeJ,zb6,zca,zcc,zcd,zce,zc7,zeN,zeO,zda,zcf,zeP,zeQ,zdb,zeR,zeT,zeU,zeV,zeW,zeX,zdd,zeY,zeZ,ze0,zde,ze1,zdf,zdg,ze2,zdh,ze3,ze4,ze5,zdi,ze6,ze7,ze8,zfa,zfb,zfc,zdl,zdm,zdn,zdo,zdp,zci,zdq,zf2,zdr,zfe,zds,zff,zfg,zfh,zfi,zfj,zfk,zdt,zdu,zdv,zfl,zfm,zdw,zfn,zdx,zfq,zfr,zf3,zbE,zaX,zae,zaY,zaZ,zbk,zbv,zax,zbl,zao,zaK,za8,zbm,za9,za0,zba,zbb,zaf,zap,zaq,zaa,zar,zaL,zbF,za1,zag,za2,za3,zbn,zbw,zay,zbo,zas,zaM,zbc,zbp,zbd,za4,zbe,zbf,zah,zbG,zbj,zcj,zck,zbx,zaS,zaW,zbH,zbI,zcl,zby,zcm,zdy,zdz,zcn,zco,zfs,zft,zdA,zdB,zdC,zfv,zfw,zfx,zfy,zfz,zdD,zdF,zdG,zdH,zfA,zdI,zdJ,zdL,zdM,zfB,zfC,zfD,zdO,zcp,zfE,zdP,zdQ,zdR,zdS,zdT,zdV,zdW,zcq,zbJ,zbK,zdX,zdY,zfF,zd2,zfG,zfJ,zfK,zd5,zd6,zd7,zd8,zd9,zfL,zfM,zfN,zfO,zfP,zeb,zec,zfQ,zed,zee,zef,zeg,zeh,zcr,zei,zej,zem,zfR,zen,zfS,zfT,zfV,zfX,zfY,zeo,zep,zer,zfZ,zes,zeu,zew,zex,zez,zbr,zam,zbs,zbt,zbM,zcs,zaT,zbN,zaG,za7,F_put_all,F_gather,F_flatten,zbu,zbB,zbC,zan,zaH,zaI,zad,zaJ,F_FlowRun_go,if_true,if_false,zf4,zf5,cond_true,cond_false,List.zip,List.zipWith,List.length_cons,List.length_nil,Option.isSome_some,Bool.false_eq_true,reduceIte,reduceCtorEq,Nat.reduceEqDiff,Nat.reduceAdd,Nat.reduceLeDiff,Int.cast_ofNat_Int,decide_true,decide_false,Bool.and_true,Bool.true_and,Bool.and_false,Bool.false_and,Int.sub_zero,Int.reduceNeg,Nat.reduceLT,and_self,and_true,true_and,Bool.false_or,Bool.or_false,Bool.true_or,Bool.or_true,Bool.not_true,Bool.not_false,Int.natAbs_neg,Int.reduceSub,Int.reduceAdd,Int.reduceToNat,Int.natAbs_zero,Int.natAbs_one,Int.reduceLT,Int.reduceLE,Int.reduceGE,Int.reduceGT,decide_eq_true_eq,List.getElem?_cons_zero,List.getElem?_cons_succ,Nat.reduceSub,Int.reduceMul,Nat.reduceBEq,Nat.reducePow,Int.reducePow,and_false,false_and,eq_self,zbO,zbD _ _ zbx,IX,lim,F_gather,F_flatten,F_put_all,hs,lp]
  · obtain ⟨⟨z, hz, rfl⟩, rfl⟩ := I
    rw [List.getElem?_map] at hv
    obtain ⟨r, hr2, rfl⟩ := Option.map_eq_some_iff.mp hv
    have hj := (List.getElem?_eq_some_iff.mp hr2).1
    have f' := f.upd (Nat.le_refl _) (.list (rs ++ (rws.take j).map (rwV ln)))
    have e1 := putrow_ok f' (upd_eq _ _ _) (by rw [List.length_append, List.length_map, List.length_take]; omega) ln r.mv
    refine ⟨[(6013346164, .ref (h + 1)), (6113816165, .int ln), (1754144809806428187292787, .ref sr)] ++ [(6852128163306360106612, r.mv)], [(6013346164, .ref (h + 1)), (6113816165, .int ln), (1754144809806428187292787, .ref sr)] ++ [(6852128163306360106612, r.mv)], K.upd (h + 2) (.list (rs ++ (rws.take (j + 1)).map (rwV ln))), ⟨⟨[(6852128163306360106612, r.mv)], .inr ⟨r.mv, rfl⟩, rfl⟩, rfl⟩, fun n d => ⟨?_, ?_⟩⟩
    · rw [zb2]
      rcases hz with rfl | ⟨u, rfl⟩ <;> rfl
    · obtain ⟨w, e1⟩ := e1 (n + 17) (d + 1)
      rw [upd_upd, List.append_assoc, show (rws.take j).map (rwV ln) ++ [MV.tup [.int ln, r.mv]] = (rws.take (j + 1)).map (rwV ln) by rw [List.take_add_one, hr2, List.map_append]; rfl] at e1
      obtain ⟨k, rest, hk, k1, _⟩ := row_mv r
      rw [hk] at e1 ⊢
      simp only [F_put_all, fb, List.getElem?_cons_zero]
      simp only [zct,zcv,zcw,zcx,zcy,zcz,zcB,zcC,zbP,zcD,zcE,zcF,zcG,zbQ,zcH,zcI,zcJ,zcK,zbR,zeA,zeB,zeC,zeD,zcL,zcM,zcP,zcS,zbS,zbT,zcU,zcW,zcX,zcY,zcZ,zbU,zc0,zf0,zf1,zbW,zbX,zbZ,zeF,zeG,zc1,zc2,zb2,zb3,zb4,zb5,zc3,zc4,zeH,zeI,zeJ,zb6,zca,zcc,zcd,zce,zc7,zeN,zeO,zda,zcf,zeP,zeQ,zdb,zeR,zeT,zeU,zeV,zeW,zeX,zdd,zeY,zeZ,ze0,zde,ze1,zdf,zdg,ze2,zdh,ze3,ze4,ze5,zdi,ze6,ze7,ze8,zfa,zfb,zfc,zdl,zdm,zdn,zdo,zdp,zci,zdq,zf2,zdr,zfe,zds,zff,zfg,zfh,zfi,zfj,zfk,zdt,zdu,zdv,zfl,zfm,zdw,zfn,zdx,zfq,zfr,zf3,zbE,zaX,zae,zaY,zaZ,zbk,zbv,zax,zbl,zao,zaK,za8,zbm,za9,za0,zba,zbb,zaf,zap,zaq,zaa,zar,zaL,zbF,za1,zag,za2,za3,zbn,zbw,zay,zbo,zas,zaM,zbc,zbp,zbd,za4,zbe,zbf,zah,zbG,zbj,zcj,zck,zbx,zaS,zaW,zbH,zbI,zcl,zby,zcm,zdy,zdz,zcn,zco,zfs,zft,zdA,zdB,zdC,zfv,zfw,zfx,zfy,zfz,zdD,zdF,zdG,zdH,zfA,zdI,zdJ,zdL,zdM,zfB,zfC,zfD,zdO,zcp,zfE,zdP,zdQ,zdR,zdS,zdT,zdV,zdW,zcq,zbJ,zbK,zdX,zdY,zfF,zd2,zfG,zfJ,zfK,zd5,zd6,zd7,zd8,zd9,zfL,zfM,zfN,zfO,zfP,zeb,zec,zfQ,zed,zee,zef,zeg,zeh,zcr,zei,zej,zem,zfR,zen,zfS,zfT,zfV,zfX,zfY,zeo,zep,zer,zfZ,zes,zeu,zew,zex,zez,zbr,zam,zbs,zbt,zbM,zcs,zaT,zbN,zaG,za7,F_put_all,F_gather,F_flatten,zbu,zbB,zbC,zan,zaH,zaI,zad,zaJ,F_FlowRun_go,if_true,if_false,zf4,zf5,cond_true,cond_false,List.zip,List.zipWith,List.length_cons,List.length_nil,Option.isSome_some,Bool.false_eq_true,reduceIte,reduceCtorEq,Nat.reduceEqDiff,Nat.reduceAdd,Nat.reduceLeDiff,Int.cast_ofNat_Int,decide_true,decide_false,Bool.and_true,Bool.true_and,Bool.and_false,Bool.false_and,Int.sub_zero,Int.reduceNeg,Nat.reduceLT,and_self,and_true,true_and,Bool.false_or,Bool.or_false,Bool.true_or,Bool.or_true,Bool.not_true,Bool.not_false,Int.natAbs_neg,Int.reduceSub,Int.reduceAdd,Int.reduceToNat,Int.natAbs_zero,Int.natAbs_one,Int.reduceLT,Int.reduceLE,Int.reduceGE,Int.reduceGT,decide_eq_true_eq,List.getElem?_cons_zero,List.getElem?_cons_succ,Nat.reduceSub,Int.reduceMul,Nat.reduceBEq,Nat.reducePow,Int.reducePow,and_false,false_and,eq_self,zbO,zbD _ _ zbx,IX,lim,F_gather,F_flatten,F_put_all,List.cons_append,List.nil_append,k1,e1]
end
end Mn.Mg
end
section
set_option maxRecDepth 100000
namespace Mn.Mg
section
variable {K : MH} {h : Nat} {b : Bd} {os : List Nat}
theorem gather_ok (f : FlK K h) (rws : List (Int × Row)) (hl : rws.length < 100) (hr : K.get (h + 2) = some (.list (rws.map fun p => rwV p.1 p.2))) : ∃ K', Grew K K' ∧ ∀ n d : Nat, ∃ v, (ev (PgC lf3 lg3) (n + 300) (d + 4)).c (.fn 395143239198066) [.ref (h + 1)] K = some (v, K') := by
  have g1 : Grew K (((K.new (.list [])).new (.list [])).new (.list [])) := (((Grew.refl K).new _).new _).new _
  obtain ⟨K', hK⟩ : ∃ K', ((K.new (.list [])).new (.list [])).new (.list []) = K' := ⟨_, rfl⟩
  rw [hK] at g1
  have l := f.lt
  have hr' := (g1.get _ (by omega)).trans hr
  have fr := (f.grew g1).rows
  refine ⟨K', g1, fun n d => ⟨.none, ?_⟩⟩
  have lp := forloop (P := PgC lf3 lg3) (t := .tup [.nam 90484, .nam 6180399474]) (body := fb 1 F_gather.body) (vs := rws.mapIdx fun i p => MV.tup [.int (i : Int), rwV p.1 p.2]) (nx := fun j => .enu j (h + 2)) (dd := 3) (c := 80)
    (I := fun j L K2 => K2 = K' ∧ ∃ z : Loc, (z = [] ∨ ∃ a b c e w, z = [(90484, a), (6180399474, b), (6113816165, c), (6852128163306360106612, e), (6298759780, w)]) ∧ L = [(6013346164, .ref (h + 1)), (412765305726323, .ref K.next), (6013547123, .ref (K.next + 1)), (1547889108083, .ref (K.next + 2))] ++ z)
    (fun j L K2 I => ?_) (fun j L K2 v I hv => ?_) rws.length 0 [(6013346164, .ref (h + 1)), (412765305726323, .ref K.next), (6013547123, .ref (K.next + 1)), (1547889108083, .ref (K.next + 2))] K' (by rw [List.length_mapIdx, Nat.zero_add]) ⟨rfl, [], .inl rfl, rfl⟩
  · obtain ⟨L', K2, ⟨rfl, _⟩, lp⟩ := lp
    rw [ec_fn, callF_ _ _ _ zbm rfl rfl]
    have lp := lp (n + 298) d (by omega)
    simp only [F_gather, fb, List.getElem?_cons_zero, List.getElem?_cons_succ] at lp
    have t1 : ∀ ts i k, tupOk (.tup ts) (.enu i k) = true := fun _ _ _ => rfl
    simp only [zct,zcv,zcw,zcx,zcy,zcz,zcB,zcC,zbP,zcD,zcE,zcF,zcG,zbQ,zcH,zcI,zcJ,zcK,zbR,zeA,zeB,zeC,zeD,zcL,zcM,zcP,zcS,zbS,zbT,zcU,zcW,zcX,zcY,zcZ,zbU,zc0,zf0,zf1,zbW,zbX,zbZ,zeF,zeG,zc1,zc2,zb2,zb3,zb4,zb5,zc3,zc4,zeH,zeI,zeJ,zb6,zca,zcc,zcd,zce,zc7,zeN,zeO,zda,zcf,zeP,zeQ,zdb,zeR,zeT,zeU,zeV,zeW,zeX,zdd,zeY,zeZ,ze0,zde,ze1,zdf,zdg,ze2,zdh,ze3,ze4,ze5,zdi,ze6,ze7,ze8,zfa,zfb,zfc,zdl,zdm,zdn,zdo,zdp,zci,zdq,zf2,zdr,zfe,zds,zff,zfg,zfh,zfi,zfj,zfk,zdt,zdu,zdv,zfl,zfm,zdw,zfn,zdx,zfq,zfr,zf3,zbE,zaX,zae,zaY,zaZ,zbk,zbv,zax,zbl,zao,zaK,za8,zbm,za9,za0,zba,zbb,zaf,zap,zaq,zaa,zar,zaL,zbF,za1,zag,za2,za3,zbn,zbw,zay,zbo,zas,zaM,zbc,zbp,zbd,za4,zbe,zbf,zah,zbG,zbj,zcj,zck,zbx,zaS,zaW,zbH,zbI,zcl,zby,zcm,zdy,zdz,zcn,zco,zfs,zft,zdA,zdB,zdC,zfv,zfw,zfx,zfy,zfz,zdD,zdF,zdG,zdH,zfA,zdI,zdJ,zdL,zdM,zfB,zfC,zfD,zdO,zcp,zfE,zdP,zdQ,zdR,zdS,zdT,zdV,zdW,zcq,zbJ,zbK,zdX,zdY,zfF,zd2,zfG,zfJ,zfK,zd5,zd6,zd7,zd8,zd9,zfL,zfM,zfN,zfO,zfP,zeb,zec,zfQ,zed,zee,zef,zeg,zeh,zcr,zei,zej,zem,zfR,zen,zfS,zfT,zfV,zfX,zfY,zeo,zep,zer,zfZ,zes,zeu,zew,zex,zez,zbr,zam,zbs,zbt,zbM,zcs,zaT,zbN,zaG,za7,F_put_all,F_gather,F_flatten,zbu,zbB,zbC,zan,zaH,zaI,zad,zaJ,F_FlowRun_go,if_true,if_false,zf4,zf5,cond_true,cond_false,List.zip,List.zipWith,List.length_cons,List.length_nil,Option.isSome_some,Bool.false_eq_true,reduceIte,reduceCtorEq,Nat.reduceEqDiff,Nat.reduceAdd,Nat.reduceLeDiff,Int.cast_ofNat_Int,decide_true,decide_false,Bool.and_true,Bool.true_and,Bool.and_false,Bool.false_and,Int.sub_zero,Int.reduceNeg,Nat.reduceLT,and_self,and_true,true_and,Bool.false_or,Bool.or_false,Bool.true_or,Bool.or_true,Bool.not_true,Bool.not_false,Int.natAbs_neg,Int.reduceSub,Int.reduceAdd,Int.reduceToNat,Int.natAbs_zero,Int.natAbs_one,Int.reduceLT,Int.reduceLE,Int.reduceGE,Int.reduceGT,decide_eq_true_eq,List.getElem?_cons_zero,List.getElem?_cons_succ,Nat.reduceSub,Int.reduceMul,Nat.reduceBEq,Nat.reducePow,Int.reducePow,and_false,false_and,eq_self,zbO,zbD _ _ zbx,IX,lim,F_gather,F_flatten,rwV,evI_enum _ _ zaW,n_n,Nat.add_assoc,fr,hr',lp,t1,hK]
  · rw [I.1]
    show ((K'.get (h + 2)).bind kla).bind _ = _
    rw [hr', zct, zfw, zct, List.getElem?_map, List.getElem?_mapIdx, Option.map_map, Option.map_map]; rfl
  · obtain ⟨rfl, z, hz, rfl⟩ := I
    rw [List.getElem?_mapIdx] at hv
    obtain ⟨p, hp, rfl⟩ := Option.map_eq_some_iff.mp hv
    obtain ⟨k, rest, hk, _, k1, k2, k3, k4, k5, k6, k7⟩ := row_mv p.2
    refine ⟨[(6013346164, .ref (h + 1)), (412765305726323, .ref K.next), (6013547123, .ref (K.next + 1)), (1547889108083, .ref (K.next + 2))] ++ (match z with | [] => [(90484, .int (j : Int)), (6180399474, rwV p.1 p.2)] | _ :: _ :: r => (90484, .int (j : Int)) :: (6180399474, rwV p.1 p.2) :: r | _ => []), [(6013346164, .ref (h + 1)), (412765305726323, .ref K.next), (6013547123, .ref (K.next + 1)), (1547889108083, .ref (K.next + 2))] ++ [(90484, .int (j : Int)), (6180399474, rwV p.1 p.2), (6113816165, .int p.1), (6852128163306360106612, p.2.mv), (6298759780, .str k)], K2, ⟨rfl, _, .inr ⟨.int (j : Int), rwV p.1 p.2, .int p.1, p.2.mv, .str k, rfl⟩, rfl⟩, fun n d => ⟨?_, ?_⟩⟩
    · rw [zb3, zc4, zb2, zct]
      show puts _ _ [.nam 6180399474] [rwV p.1 p.2] _ _ = _
      rw [zc4, zb2, zct]
      show puts _ _ [] [] _ _ = _
      rw [zc3]
      rcases hz with rfl | ⟨a, b, c, e, w, rfl⟩ <;> rfl
    · rw [hk]
      simp only [rwV]
      rw [hk]
      simp only [F_gather, fb, List.getElem?_cons_zero, List.getElem?_cons_succ]
      rcases hz with rfl | ⟨a, b, c, e, w, rfl⟩ <;> simp only [zct,zcv,zcw,zcx,zcy,zcz,zcB,zcC,zbP,zcD,zcE,zcF,zcG,zbQ,zcH,zcI,zcJ,zcK,zbR,zeA,zeB,zeC,zeD,zcL,zcM,zcP,zcS,zbS,zbT,zcU,zcW,zcX,zcY,zcZ,zbU,zc0,zf0,zf1,zbW,zbX,zbZ,zeF,zeG,zc1,zc2,zb2,zb3,zb4,zb5,zc3,zc4,zeH,zeI,zeJ,zb6,zca,zcc,zcd,zce,zc7,zeN,zeO,zda,zcf,zeP,zeQ,zdb,zeR,zeT,zeU,zeV,zeW,zeX,zdd,zeY,zeZ,ze0,zde,ze1,zdf,zdg,ze2,zdh,ze3,ze4,ze5,zdi,ze6,ze7,ze8,zfa,zfb,zfc,zdl,zdm,zdn,zdo,zdp,zci,zdq,zf2,zdr,zfe,zds,zff,zfg,zfh,zfi,zfj,zfk,zdt,zdu,zdv,zfl,zfm,zdw,zfn,zdx,zfq,zfr,zf3,zbE,zaX,zae,zaY,zaZ,zbk,zbv,zax,zbl,zao,zaK,za8,zbm,za9,za0,zba,zbb,zaf,zap,zaq,zaa,zar,zaL,zbF,za1,zag,za2,za3,zbn,zbw,zay,zbo,zas,zaM,zbc,zbp,zbd,za4,zbe,zbf,zah,zbG,zbj,zcj,zck,zbx,zaS,zaW,zbH,zbI,zcl,zby,zcm,zdy,zdz,zcn,zco,zfs,zft,zdA,zdB,zdC,zfv,zfw,zfx,zfy,zfz,zdD,zdF,zdG,zdH,zfA,zdI,zdJ,zdL,zdM,zfB,zfC,zfD,zdO,zcp,zfE,zdP,zdQ,zdR,zdS,zdT,zdV,zdW,zcq,zbJ,zbK,zdX,zdY,zfF,zd2,zfG,zfJ,zfK,zd5,zd6,zd7,zd8,zd9,zfL,zfM,zfN,zfO,zfP,zeb,zec,zfQ,zed,zee,zef,zeg,zeh,zcr,zei,zej,zem,zfR,zen,zfS,zfT,zfV,zfX,zfY,zeo,zep,zer,zfZ,zes,zeu,zew,zex,zez,zbr,zam,zbs,zbt,zbM,zcs,zaT,zbN,zaG,za7,F_put_all,F_gather,F_flatten,zbu,zbB,zbC,zan,zaH,zaI,zad,zaJ,F_FlowRun_go,if_true,if_false,zf4,zf5,cond_true,cond_false,List.zip,List.zipWith,List.length_cons,List.length_nil,Option.isSome_some,Bool.false_eq_true,reduceIte,reduceCtorEq,Nat.reduceEqDiff,Nat.reduceAdd,Nat.reduceLeDiff,Int.cast_ofNat_Int,decide_true,decide_false,Bool.and_true,Bool.true_and,Bool.and_false,Bool.false_and,Int.sub_zero,Int.reduceNeg,Nat.reduceLT,and_self,and_true,true_and,Bool.false_or,Bool.or_false,Bool.true_or,Bool.or_true,Bool.not_true,Bool.not_false,Int.natAbs_neg,Int.reduceSub,Int.reduceAdd,Int.reduceToNat,Int.natAbs_zero,Int.natAbs_one,Int.reduceLT,Int.reduceLE,Int.reduceGE,Int.reduceGT,decide_eq_true_eq,List.getElem?_cons_zero,List.getElem?_cons_succ,Nat.reduceSub,Int.reduceMul,Nat.reduceBEq,Nat.reducePow,Int.reducePow,and_false,false_and,eq_self,zbO,zbD _ _ zbx,IX,lim,F_gather,F_flatten,rwV,List.cons_append,List.nil_append,k1,k2,k3,k4,k5,k6,k7]
end
end Mn.Mg
end
section
set_option maxRecDepth 100000
namespace Mn.Mg
theorem nmF_at : ∀ {os : List Nat} {i j y : Nat}, os.Nodup → os[j]? = some y → nmF os i y = 10 * ((i + j : Nat) : Int) + 10
  | [], _, _, _, _, h => nomatch h
  | x :: r, i, 0, y, hn, h => by
    obtain rfl : x = y := Option.some.inj h
    exact if_pos rfl
  | x :: r, i, j + 1, y, hn, h => by
    have h : r[j]? = some y := h
    rw [List.nodup_cons] at hn
    have q : x ≠ y := fun e => hn.1 (e ▸ List.mem_of_getElem? h)
    unfold nmF
    rw [if_neg q, nmF_at hn.2 h, show i + 1 + j = i + (j + 1) by omega]
noncomputable def rwsB (b : Bd) (os : List Nat) (kr : Nat → Nat) (y : Nat) : List Row := (kinds b y).map fun o => rowOf b (nmF os 0) kr y o
theorem rwsB_stm (b : Bd) (os : List Nat) (kr : Nat → Nat) (y : Nat) : stm b (nmF os 0) (kr y) y = (rwsB b os kr y).map Row.mv := by
  unfold stm rwsB
  rw [List.map_map]
  rfl
theorem kinds_4 (b : Bd) (x : Nat) : (kinds b x).length ≤ 4 := by
  unfold kinds
  repeat' split
  all_goals decide
theorem rowsOf_len (b : Bd) (nm : Nat → Int) (kr : Nat → Nat) : ∀ os : List Nat, (rowsOf b nm kr os).length = (os.flatMap (kinds b)).length
  | [] => rfl
  | y :: r => by
    unfold rowsOf
    rw [List.flatMap_cons, List.flatMap_cons, List.length_append, List.length_append, List.length_map]
    exact congrArg _ (rowsOf_len b nm kr r)
theorem flat_len (b : Bd) : ∀ os : List Nat, (os.flatMap (kinds b)).length ≤ 4 * os.length
  | [] => Nat.le_refl _
  | y :: r => by
    rw [List.flatMap_cons, List.length_append, List.length_cons]
    have := kinds_4 b y
    have := flat_len b r
    omega
noncomputable def rowsV (b : Bd) (os : List Nat) (kr : Nat → Nat) (ys : List Nat) : List MV := (rowsOf b (nmF os 0) kr ys).map fun p => rwV p.1 p.2
theorem rowsV_snoc (b : Bd) (os : List Nat) (kr : Nat → Nat) (ys : List Nat) (y : Nat) : rowsV b os kr (ys ++ [y]) = rowsV b os kr ys ++ (rwsB b os kr y).map (rwV (nmF os 0 y)) := by
  unfold rowsV rowsOf rwsB
  rw [List.flatMap_append, List.map_append, List.flatMap_cons, List.flatMap_nil, List.append_nil, List.map_map, List.map_map]
  rfl
theorem rowsV_len (b : Bd) (os : List Nat) (kr : Nat → Nat) (ys : List Nat) : (rowsV b os kr ys).length = (ys.flatMap (kinds b)).length := by
  unfold rowsV
  rw [List.length_map, rowsOf_len]
section
variable {H K : MH} {h kl : Nat} {b : Bd} {os : List Nat} {sr kr : Nat → Nat}
structure FI (K0 : MH) (h : Nat) (b : Bd) (os : List Nat) (kr : Nat → Nat) (kl j : Nat) (L : Loc) (K : MH) : Prop where
  l : ∃ z : Loc, (z = [] ∨ ∃ a c, z = [(6113816165, a), (1754144809806428187292787, c)]) ∧ L = [(405038811014500, .ref kl), (6013346164, .ref (h + 1))] ++ z
  f : FlK K h
  nx : K.next = K0.next
  o : ∀ a, a ≠ h + 2 → a ≠ h + 3 → K.get a = K0.get a
  r : K.get (h + 2) = some (.list (rowsV b os kr (os.take j)))
  p : K.get (h + 3) = some (.dict (plL b (os.take j) 0 0))
theorem flat_step (O : OO os) {K0 : MH} (hkl : kl < h) (F : LnF K0 b os kl sr kr os) (hsr : ∀ y ∈ os, sr y < h) {j : Nat} {L : Loc} {v : MV} (I : FI K0 h b os kr kl j L K) (hv : (os.map (lineV os sr))[j]? = some v) :
    ∃ L1 L' K', FI K0 h b os kr kl (j + 1) L' K' ∧ ∀ n d, put (PgC lf3 lg3) (ev (PgC lf3 lg3) (n + 300) (d + 6)) (.tup [.nam 6113816165, .nam 1754144809806428187292787]) v L K = some (L1, K) ∧ stmts (ev (PgC lf3 lg3) (n + 300) (d + 6)) (fb 1 F_flatten.body) L1 K = some (.nxt, L', K') := by
  rw [List.getElem?_map] at hv
  obtain ⟨y, hy, rfl⟩ := Option.map_eq_some_iff.mp hv
  have hm := List.mem_of_getElem? hy
  have ht : os.take (j + 1) = os.take j ++ [y] := by rw [List.take_add_one, hy]; rfl
  have hj := (List.getElem?_eq_some_iff.mp hy).1
  have hlen := O.len
  have htl : (os.take j).length = j := by rw [List.length_take]; omega
  obtain ⟨z, hz, rfl⟩ := I.l
  have f := I.f
  have hnm : nmF os 0 y = 10 * ((os.take j).length : Int) + 10 := by rw [nmF_at O.nd hy, Nat.zero_add, htl]
  have l1 := rowsV_len b os kr (os.take j)
  have l2 := flat_len b (os.take j)
  have l3 := kinds_4 b y
  have l4 := kinds_pos b y
  have l5 : (rwsB b os kr y).length = (kinds b y).length := List.length_map ..
  obtain ⟨K1, hK1⟩ : ∃ K1, K.upd (h + 3) (.dict (plL b (os.take (j + 1)) 0 0)) = K1 := ⟨_, rfl⟩
  have f1 : FlK K1 h := hK1 ▸ f.upd (by omega) _
  have r1 : K1.get (h + 2) = some (.list (rowsV b os kr (os.take j))) := hK1 ▸ (upd_ne _ _ _ _ (by omega)).trans I.r
  have p1 : K1.get (h + 3) = some (.dict (plL b (os.take (j + 1)) 0 0)) := hK1 ▸ upd_eq _ _ _
  have s1 : K1.get (sr y) = some (.list ((rwsB b os kr y).map Row.mv)) := by
    have := hsr y hm
    rw [← hK1, upd_ne _ _ _ _ (by omega), I.o _ (by omega) (by omega), (F.s y hm).1, rwsB_stm]
  have e1 := putall_ok f1 r1 (rwsB b os kr y) (by omega) (by omega) s1 (by have := hsr y hm; omega) (nmF os 0 y)
  obtain ⟨K2, hK2⟩ : ∃ K2, K1.upd (h + 2) (.list (rowsV b os kr (os.take j) ++ (rwsB b os kr y).map (rwV (nmF os 0 y)))) = K2 := ⟨_, rfl⟩
  rw [hK2] at e1
  have f2 : FlK K2 h := hK2 ▸ f1.upd (Nat.le_refl _) _
  have r2 : K2.get (h + 2) = some (.list (rowsV b os kr (os.take j) ++ (rwsB b os kr y).map (rwV (nmF os 0 y)))) := hK2 ▸ upd_eq _ _ _
  have p2 : K2.get (h + 3) = some (.dict (plL b (os.take (j + 1)) 0 0)) := hK2 ▸ (upd_ne _ _ _ _ (by omega)).trans p1
  have d1 := plL_get b (os := os.take (j + 1)) (j := 0) (a := 0) (x := y) (by rw [ht]; exact List.mem_append_right _ (.head _))
  have hput := plL_put b (os.take j) y
  rw [← hnm, ← l1, ← ht] at hput
  have hst : dGet (.int (nmF os 0 y)) (plL b (os.take (j + 1)) 0 0) = some (.int ((rowsV b os kr (os.take j)).length : Int)) := by
    rw [← hput]
    have : ∀ (k v : MV) (es : List (MV × MV)), keyEq k k = true → dGet k (dPut k v es) = some v := by
      intro k v es hk
      induction es with
      | nil => exact if_pos hk
      | cons p r ih =>
        obtain ⟨a, u⟩ := p
        unfold dPut
        by_cases q : keyEq a k = true
        · rw [if_pos q]; exact if_pos q
        · rw [if_neg q]; exact (if_neg q).trans ih
    exact this _ _ _ (decide_eq_true rfl)
  have ok1 := plL_ok b (nmF os 0 y) (os.take j) 0 0
  have ok2 := plL_ok b (nmF os 0 y) (os.take (j + 1)) 0 0
  have b1 : (rowsV b os kr (os.take j)).length ≤ 1048576 := by omega
  have b2 : (plL b (os.take j) 0 0).length < 1048576 := by rw [plL_len]; omega
  have b3 : (rowsV b os kr (os.take j) ++ (rwsB b os kr y).map (rwV (nmF os 0 y))).length ≤ 1048576 := by rw [List.length_append, List.length_map]; omega
  have b4 : ¬ (((rowsV b os kr (os.take j)).length : Int) = ((rowsV b os kr (os.take j) ++ (rwsB b os kr y).map (rwV (nmF os 0 y))).length : Nat)) := by rw [List.length_append, List.length_map]; omega
  refine ⟨[(405038811014500, .ref kl), (6013346164, .ref (h + 1))] ++ [(6113816165, .int (nmF os 0 y)), (1754144809806428187292787, .ref (sr y))], [(405038811014500, .ref kl), (6013346164, .ref (h + 1))] ++ [(6113816165, .int (nmF os 0 y)), (1754144809806428187292787, .ref (sr y))], K2, ⟨⟨_, .inr ⟨.int (nmF os 0 y), .ref (sr y), rfl⟩, rfl⟩, f2, ?_, fun a h1 h2 => ?_, ?_, p2⟩, fun n d => ⟨?_, ?_⟩⟩
  · rw [← hK2, ← hK1]; exact I.nx
  · rw [← hK2, upd_ne _ _ _ _ h1, ← hK1, upd_ne _ _ _ _ h2]; exact I.o a h1 h2
  · rw [r2, ht, rowsV_snoc]
  · rw [lineV, zb3, zc4, zb2, zct]
    show puts _ _ [.nam 1754144809806428187292787] [.ref (sr y)] _ _ = _
    rw [zc4, zb2, zct]
    show puts _ _ [] [] _ _ = _
    rw [zc3]
    rcases hz with rfl | ⟨a, c, rfl⟩ <;> rfl
  · simp only [F_flatten, fb, List.getElem?_cons_zero, List.getElem?_cons_succ]
    have fr := f.rows
    have fp := f.places
    have fr2 := f2.rows
    have fp2 := f2.places
    have ir := I.r
    have ip := I.p
    generalize rowsV b os kr (os.take j) ++ (rwsB b os kr y).map (rwV (nmF os 0 y)) = R2 at r2 b3 b4
    simp only [zct,zcv,zcw,zcx,zcy,zcz,zcB,zcC,zbP,zcD,zcE,zcF,zcG,zbQ,zcH,zcI,zcJ,zcK,zbR,zeA,zeB,zeC,zeD,zcL,zcM,zcP,zcS,zbS,zbT,zcU,zcW,zcX,zcY,zcZ,zbU,zc0,zf0,zf1,zbW,zbX,zbZ,zeF,zeG,zc1,zc2,zb2,zb3,zb4,zb5,zc3,zc4,zeH,zeI,zeJ,zb6,zca,zcc,zcd,zce,zc7,zeN,zeO,zda,zcf,zeP,zeQ,zdb,zeR,zeT,zeU,zeV,zeW,zeX,zdd,zeY,zeZ,ze0,zde,ze1,zdf,zdg,ze2,zdh,ze3,ze4,ze5,zdi,ze6,ze7,ze8,zfa,zfb,zfc,zdl,zdm,zdn,zdo,zdp,zci,zdq,zf2,zdr,zfe,zds,zff,zfg,zfh,zfi,zfj,zfk,zdt,zdu,zdv,zfl,zfm,zdw,zfn,zdx,zfq,zfr,zf3,zbE,zaX,zae,zaY,zaZ,zbk,zbv,zax,zbl,zao,zaK,za8,zbm,za9,za0,zba,zbb,zaf,zap,zaq,zaa,zar,zaL,zbF,za1,zag,za2,za3,zbn,zbw,zay,zbo,zas,zaM,zbc,zbp,zbd,za4,zbe,zbf,zah,zbG,zbj,zcj,zck,zbx,zaS,zaW,zbH,zbI,zcl,zby,zcm,zdy,zdz,zcn,zco,zfs,zft,zdA,zdB,zdC,zfv,zfw,zfx,zfy,zfz,zdD,zdF,zdG,zdH,zfA,zdI,zdJ,zdL,zdM,zfB,zfC,zfD,zdO,zcp,zfE,zdP,zdQ,zdR,zdS,zdT,zdV,zdW,zcq,zbJ,zbK,zdX,zdY,zfF,zd2,zfG,zfJ,zfK,zd5,zd6,zd7,zd8,zd9,zfL,zfM,zfN,zfO,zfP,zeb,zec,zfQ,zed,zee,zef,zeg,zeh,zcr,zei,zej,zem,zfR,zen,zfS,zfT,zfV,zfX,zfY,zeo,zep,zer,zfZ,zes,zeu,zew,zex,zez,zbr,zam,zbs,zbt,zbM,zcs,zaT,zbN,zaG,za7,F_put_all,F_gather,F_flatten,zbu,zbB,zbC,zan,zaH,zaI,zad,zaJ,F_FlowRun_go,if_true,if_false,zf4,zf5,cond_true,cond_false,List.zip,List.zipWith,List.length_cons,List.length_nil,Option.isSome_some,Bool.false_eq_true,reduceIte,reduceCtorEq,Nat.reduceEqDiff,Nat.reduceAdd,Nat.reduceLeDiff,Int.cast_ofNat_Int,decide_true,decide_false,Bool.and_true,Bool.true_and,Bool.and_false,Bool.false_and,Int.sub_zero,Int.reduceNeg,Nat.reduceLT,and_self,and_true,true_and,Bool.false_or,Bool.or_false,Bool.true_or,Bool.or_true,Bool.not_true,Bool.not_false,Int.natAbs_neg,Int.reduceSub,Int.reduceAdd,Int.reduceToNat,Int.natAbs_zero,Int.natAbs_one,Int.reduceLT,Int.reduceLE,Int.reduceGE,Int.reduceGT,decide_eq_true_eq,List.getElem?_cons_zero,List.getElem?_cons_succ,Nat.reduceSub,Int.reduceMul,Nat.reduceBEq,Nat.reducePow,Int.reducePow,and_false,false_and,eq_self,zbO,zbD _ _ zbx,IX,lim,F_flatten,List.cons_append,List.nil_append,fr,fp,ir,ip,b1,b2,ok1,hput,hK1,e1,fr2,fp2,r2,p2,ok2,hst,b3,b4]
end
end Mn.Mg
end
section
set_option maxRecDepth 100000
namespace Mn.Mg
section
variable {H K : MH} {kl kb : Nat} {b : Bd} {os : List Nat} {sr kr : Nat → Nat} {es : List (MV × MV)} {ov : MV}
structure FlP (K : MH) (h : Nat) (b : Bd) (os : List Nat) (kr : Nat → Nat) : Prop where
  f : FlK K h
  r : K.get (h + 2) = some (.list (rowsV b os kr os))
  p : K.get (h + 3) = some (.dict (plL b os 0 0))
  k : ∀ y ∈ os, isB y → K.get (kr y) = some (.list (((b.g y).map (nmF os 0)).map .int)) ∧ kr y < K.next
theorem flatten_ok (O : OO os) (F : LnF H b os kl sr kr os) : ∃ K, Grew H K ∧ FlP K H.next b os kr ∧ ∀ n d : Nat, (ev (PgC lf3 lg3) (n + 400) (d + 8)).c (.fn 100887207483827566) [.ref kl] H = some (.ref (H.next + 1), K) := by
  obtain ⟨K0, g0, nx0, i0, e0, r0, p0, n0⟩ := flat_new H
  have f0 : FlK K0 H.next := ⟨i0, e0, Nat.le_of_eq nx0.symm⟩
  have hl := F.lines
  have F0 : LnF K0 b os kl sr kr os := ⟨(g0.get _ F.lk).trans hl, Nat.lt_of_lt_of_le F.lk g0.next, fun y hy => ⟨(g0.get _ (F.s y hy).2.2).trans (F.s y hy).1, (F.s y hy).2.1, Nat.lt_of_lt_of_le (F.s y hy).2.2 g0.next⟩, fun y hy hb => ⟨(g0.get _ (F.k y hy hb).2.2).trans (F.k y hy hb).1, (F.k y hy hb).2.1, Nat.lt_of_lt_of_le (F.k y hy hb).2.2 g0.next⟩⟩
  have lk := F.lk
  obtain ⟨L', K1, I, lp⟩ := forloop (P := PgC lf3 lg3) (t := .tup [.nam 6113816165, .nam 1754144809806428187292787]) (body := fb 1 F_flatten.body) (vs := os.map (lineV os sr)) (nx := .lst kl) (dd := 6) (c := 300) (I := FI K0 H.next b os kr kl)
    (fun j L K I => lst_next ((I.o _ (by omega) (by omega)).trans F0.lines) j) (fun j L K v I hv => flat_step O lk F0 (fun y hy => (F.s y hy).2.2) I hv) 5 0 [(405038811014500, .ref kl), (6013346164, .ref (H.next + 1))] K0 (by rw [List.length_map, O.len]) ⟨⟨[], .inl rfl, rfl⟩, f0, rfl, fun _ _ _ => rfl, r0, p0⟩
  have hL : (os.map (lineV os sr)).length = os.length := List.length_map ..
  have ir := I.r
  have ip := I.p
  rw [hL, List.take_length] at ir ip
  have l1 := rowsV_len b os kr os
  have l2 := flat_len b os
  have l3 := O.len
  have l4 := rowsOf_len b (nmF os 0) kr os
  obtain ⟨K2, g2, hg⟩ := gather_ok I.f (rowsOf b (nmF os 0) kr os) (by omega) ir
  have lt := I.f.lt
  have g3 : Grew H K1 := ⟨I.nx ▸ g0.next, fun a ha => (I.o a (by omega) (by omega)).trans (g0.get a ha)⟩
  refine ⟨K2, g3.trans g2, ⟨I.f.grew g2, (g2.get _ (by omega)).trans ir, (g2.get _ (by omega)).trans ip, fun y hy hb => ?_⟩, fun n d => ?_⟩
  · obtain ⟨a1, a2, a3⟩ := F0.k y hy hb
    obtain ⟨_, _, a4⟩ := F.k y hy hb
    exact ⟨by rw [g2.get _ (by rw [I.nx]; exact a3), I.o _ (by omega) (by omega), a1], Nat.lt_of_lt_of_le a4 (g3.trans g2).next⟩
  · rw [ec_fn, callF_ _ _ _ za9 rfl rfl]
    have lp := lp (n + 398) (d + 1) (by omega)
    obtain ⟨v, hg⟩ := hg (n + 97) (d + 3)
    have n0 := n0 (n + 317) (d + 2)
    have t1 : ∀ ts i k, tupOk (.tup ts) (.lst i k) = true := fun _ _ _ => rfl
    obtain ⟨z, _, hz⟩ := I.l
    rw [hz] at lp
    simp only [F_flatten, fb, List.getElem?_cons_zero, List.getElem?_cons_succ] at lp
    have hl0 := F0.lines
    have ok : okFn (PgC lf3 lg3) (.cls 5476475252) = true := rfl
    simp only [zct,zcv,zcw,zcx,zcy,zcz,zcB,zcC,zbP,zcD,zcE,zcF,zcG,zbQ,zcH,zcI,zcJ,zcK,zbR,zeA,zeB,zeC,zeD,zcL,zcM,zcP,zcS,zbS,zbT,zcU,zcW,zcX,zcY,zcZ,zbU,zc0,zf0,zf1,zbW,zbX,zbZ,zeF,zeG,zc1,zc2,zb2,zb3,zb4,zb5,zc3,zc4,zeH,zeI,zeJ,zb6,zca,zcc,zcd,zce,zc7,zeN,zeO,zda,zcf,zeP,zeQ,zdb,zeR,zeT,zeU,zeV,zeW,zeX,zdd,zeY,zeZ,ze0,zde,ze1,zdf,zdg,ze2,zdh,ze3,ze4,ze5,zdi,ze6,ze7,ze8,zfa,zfb,zfc,zdl,zdm,zdn,zdo,zdp,zci,zdq,zf2,zdr,zfe,zds,zff,zfg,zfh,zfi,zfj,zfk,zdt,zdu,zdv,zfl,zfm,zdw,zfn,zdx,zfq,zfr,zf3,zbE,zaX,zae,zaY,zaZ,zbk,zbv,zax,zbl,zao,zaK,za8,zbm,za9,za0,zba,zbb,zaf,zap,zaq,zaa,zar,zaL,zbF,za1,zag,za2,za3,zbn,zbw,zay,zbo,zas,zaM,zbc,zbp,zbd,za4,zbe,zbf,zah,zbG,zbj,zcj,zck,zbx,zaS,zaW,zbH,zbI,zcl,zby,zcm,zdy,zdz,zcn,zco,zfs,zft,zdA,zdB,zdC,zfv,zfw,zfx,zfy,zfz,zdD,zdF,zdG,zdH,zfA,zdI,zdJ,zdL,zdM,zfB,zfC,zfD,zdO,zcp,zfE,zdP,zdQ,zdR,zdS,zdT,zdV,zdW,zcq,zbJ,zbK,zdX,zdY,zfF,zd2,zfG,zfJ,zfK,zd5,zd6,zd7,zd8,zd9,zfL,zfM,zfN,zfO,zfP,zeb,zec,zfQ,zed,zee,zef,zeg,zeh,zcr,zei,zej,zem,zfR,zen,zfS,zfT,zfV,zfX,zfY,zeo,zep,zer,zfZ,zes,zeu,zew,zex,zez,zbr,zam,zbs,zbt,zbM,zcs,zaT,zbN,zaG,za7,F_put_all,F_gather,F_flatten,zbu,zbB,zbC,zan,zaH,zaI,zad,zaJ,F_FlowRun_go,if_true,if_false,zf4,zf5,cond_true,cond_false,List.zip,List.zipWith,List.length_cons,List.length_nil,Option.isSome_some,Bool.false_eq_true,reduceIte,reduceCtorEq,Nat.reduceEqDiff,Nat.reduceAdd,Nat.reduceLeDiff,Int.cast_ofNat_Int,decide_true,decide_false,Bool.and_true,Bool.true_and,Bool.and_false,Bool.false_and,Int.sub_zero,Int.reduceNeg,Nat.reduceLT,and_self,and_true,true_and,Bool.false_or,Bool.or_false,Bool.true_or,Bool.or_true,Bool.not_true,Bool.not_false,Int.natAbs_neg,Int.reduceSub,Int.reduceAdd,Int.reduceToNat,Int.natAbs_zero,Int.natAbs_one,Int.reduceLT,Int.reduceLE,Int.reduceGE,Int.reduceGT,decide_eq_true_eq,List.getElem?_cons_zero,List.getElem?_cons_succ,Nat.reduceSub,Int.reduceMul,Nat.reduceBEq,Nat.reducePow,Int.reducePow,and_false,false_and,eq_self,zbO,zbD _ _ zbx,IX,lim,F_flatten,F__law_program3,ok,n0,hl0,t1,lp,List.cons_append,List.nil_append,hg]
theorem program_ok (O : OO os) (ho : OrdV H ov os) (B : BF H b kb es) : ∃ K h kr, Grew H K ∧ H.next ≤ h ∧ FlP K h b os kr ∧ ∀ n d : Nat, (ev (PgC lf3 lg3) (n + 600) (d + 10)).c (.fn 108760262707399004654086021485) [ov, .ref kb] H = some (.tup [.ref (h + 1), .int (start b os 321 : Nat)], K) := by
  have hcm := numbers_ok (kb := kb) O ho
  obtain ⟨K1, hK1⟩ : ∃ K1, (H.new (.list (ntl os 0))).new (.dict (nl os 0)) = K1 := ⟨_, rfl⟩
  have g1 : Grew H K1 := hK1 ▸ ((Grew.refl H).new _).new _
  obtain ⟨K2, hK2⟩ : ∃ K2, K1.new (.list []) = K2 := ⟨_, rfl⟩
  have g2 : Grew H K2 := hK2 ▸ g1.new _
  have x1 : K1.next = H.next + 2 := hK1 ▸ rfl
  have x2 : K2.next = H.next + 3 := by rw [← hK2, n_n, x1]
  have d2 : K2.get (H.next + 1) = some (.dict (nl os 0)) := by rw [← hK2, new_ne _ _ _ (by omega), ← hK1]; exact n2_1 _ _ _
  have l2 : K2.get (H.next + 2) = some (.list []) := by rw [← hK2, ← x1, new_eq]
  have g12 : Grew K1 K2 := hK2 ▸ (Grew.refl K1).new _
  have d1 : K1.get (H.next + 1) = some (.dict (nl os 0)) := hK1 ▸ n2_1 _ _ _
  have B1 := B.mono g1
  have o1 := ho.mono g1
  obtain ⟨nx, i0, i1, i2⟩ := ord_iter o1
  have hmA : (321 : Nat) ∈ os := (O.mem 321).mpr (.inl (.inl (.inl rfl)))
  obtain ⟨L3, K3, I, lp⟩ := forloop (P := PgC lf3 lg3) (t := .nam 6146846053) (body := fb 2 F__law_program3.body) (vs := os.map MV.str) (nx := nx) (dd := 4) (c := 150) (I := PI3 K1 b os kb (H.next + 1) (H.next + 2) ov es)
    (fun j L K I => i1 K I.g j) (fun j L K v I hv => prog_step O B1 d1 (by omega) (by omega) I hv) 5 0 (LP ov kb (H.next + 1) (H.next + 2)) K2 (by rw [List.length_map, O.len])
    ⟨g12, ⟨[], .inl rfl, rfl⟩, fun _ => 0, fun _ => 0, l2, by omega, (fun y hy => nomatch hy), (fun y hy => nomatch hy)⟩
  obtain ⟨g3, ⟨z, hz, rfl⟩, sr, kr, F⟩ := I
  rw [List.length_map, List.take_length] at F
  obtain ⟨K4, g4, P4, e4⟩ := flatten_ok O F
  have g14 := g3.trans g4
  have d4 := (g14.get _ (by omega)).trans d1
  have gA := nl_get (j := 0) hmA
  have okA := nl_ok 321 os 0
  have pA := plL_get b (j := 0) (a := 0) hmA
  have okP := plL_ok b (nmF os 0 321) os 0 0
  have hdict : callB .dict [.ref H.next] (H.new (.list (ntl os 0))) = some (.ref (H.next + 1), K1) := by
    show ((H.new (.list (ntl os 0))).get H.next).bind _ = _
    rw [new_eq]
    show (pairsOf (ntl os 0)).bind _ = _
    rw [ntl_pairs]
    refine (if_pos (by rw [nl_len, O.len]; decide)).trans ?_
    rw [dictOf_nl O.nd, ← hK1]; rfl
  refine ⟨K4, K3.next, kr, g1.trans g14, Nat.le_trans g1.next g3.next, P4, fun n d => ?_⟩
  rw [ec_fn, callF_ _ _ _ f3_F__law_program rfl rfl]
  have hcm := hcm (n + 496) (d + 7)
  have lp := lp (n + 598) (d + 5) (by omega)
  have e4 := e4 (n + 197) (d + 1)
  have ia := i0 K2 g12
  have t0 := i2 6146846053 0
  simp only [F__law_program3, fb, List.getElem?_cons_zero, List.getElem?_cons_succ, LP] at lp
  rw [Nat.zero_add] at pA
  have fp := P4.f.places
  have rp := P4.p
  simp only [LP0] at hcm
  have fp2 : attr (PgC lf3 lg3) K4 (.ref (K3.next + 1)) 405085769393523 = some (.ref (K3.next + 3)) := fp
  rcases hz with rfl | ⟨v, rfl⟩ <;> simp only [zct,zcv,zcw,zcx,zcy,zcz,zcB,zcC,zbP,zcD,zcE,zcF,zcG,zbQ,zcH,zcI,zcJ,zcK,zbR,zeA,zeB,zeC,zeD,zcL,zcM,zcP,zcS,zbS,zbT,zcU,zcW,zcX,zcY,zcZ,zbU,zc0,zf0,zf1,zbW,zbX,zbZ,zeF,zeG,zc1,zc2,zb2,zb3,zb4,zb5,zc3,zc4,zeH,zeI,zeJ,zb6,zca,zcc,zcd,zce,zc7,zeN,zeO,zda,zcf,zeP,zeQ,zdb,zeR,zeT,zeU,zeV,zeW,zeX,zdd,zeY,zeZ,ze0,zde,ze1,zdf,zdg,ze2,zdh,ze3,ze4,ze5,zdi,ze6,ze7,ze8,zfa,zfb,zfc,zdl,zdm,zdn,zdo,zdp,zci,zdq,zf2,zdr,zfe,zds,zff,zfg,zfh,zfi,zfj,zfk,zdt,zdu,zdv,zfl,zfm,zdw,zfn,zdx,zfq,zfr,zf3,zbE,zaX,zae,zaY,zaZ,zbk,zbv,zax,zbl,zao,zaK,za8,zbm,za9,za0,zba,zbb,zaf,zap,zaq,zaa,zar,zaL,zbF,za1,zag,za2,za3,zbn,zbw,zay,zbo,zas,zaM,zbc,zbp,zbd,za4,zbe,zbf,zah,zbG,zbj,zcj,zck,zbx,zaS,zaW,zbH,zbI,zcl,zby,zcm,zdy,zdz,zcn,zco,zfs,zft,zdA,zdB,zdC,zfv,zfw,zfx,zfy,zfz,zdD,zdF,zdG,zdH,zfA,zdI,zdJ,zdL,zdM,zfB,zfC,zfD,zdO,zcp,zfE,zdP,zdQ,zdR,zdS,zdT,zdV,zdW,zcq,zbJ,zbK,zdX,zdY,zfF,zd2,zfG,zfJ,zfK,zd5,zd6,zd7,zd8,zd9,zfL,zfM,zfN,zfO,zfP,zeb,zec,zfQ,zed,zee,zef,zeg,zeh,zcr,zei,zej,zem,zfR,zen,zfS,zfT,zfV,zfX,zfY,zeo,zep,zer,zfZ,zes,zeu,zew,zex,zez,zbr,zam,zbs,zbt,zbM,zcs,zaT,zbN,zaG,za7,F_put_all,F_gather,F_flatten,zbu,zbB,zbC,zan,zaH,zaI,zad,zaJ,F_FlowRun_go,if_true,if_false,zf4,zf5,cond_true,cond_false,List.zip,List.zipWith,List.length_cons,List.length_nil,Option.isSome_some,Bool.false_eq_true,reduceIte,reduceCtorEq,Nat.reduceEqDiff,Nat.reduceAdd,Nat.reduceLeDiff,Int.cast_ofNat_Int,decide_true,decide_false,Bool.and_true,Bool.true_and,Bool.and_false,Bool.false_and,Int.sub_zero,Int.reduceNeg,Nat.reduceLT,and_self,and_true,true_and,Bool.false_or,Bool.or_false,Bool.true_or,Bool.or_true,Bool.not_true,Bool.not_false,Int.natAbs_neg,Int.reduceSub,Int.reduceAdd,Int.reduceToNat,Int.natAbs_zero,Int.natAbs_one,Int.reduceLT,Int.reduceLE,Int.reduceGE,Int.reduceGT,decide_eq_true_eq,List.getElem?_cons_zero,List.getElem?_cons_succ,Nat.reduceSub,Int.reduceMul,Nat.reduceBEq,Nat.reducePow,Int.reducePow,and_false,false_and,eq_self,zbO,zbD _ _ zbx,IX,lim,F_flatten,F__law_program3,hcm,n_n,hdict,hK2,x1,ia,t0,lp,List.cons_append,List.nil_append,e4,fp2,rp,d4,gA,okA,pA,okP]
end
end Mn.Mg
end
section
set_option maxRecDepth 100000
namespace Mn.Mg
noncomputable def runE (fl va h : Nat) : List (MV × MV) := [(.str 6013346164, .ref fl), (.str 411635780248947, .ref va), (.str 27052967330930716518, .fn 1659549907034316584678504), (.str 5946045555, .int 16), (.str 391878846018675, .int 9), (.str 100046136923025260, .ref (h + 3)), (.str 1573827929459, .ref (h + 5))]
theorem run_new (H : MH) (fl va : Nat) : ∃ K, Grew H K ∧ K.next = H.next + 6 ∧ K.get (H.next + 1) = some (.inst 91880068406736238 H.next) ∧ K.get H.next = some (.dict (runE fl va H.next)) ∧ K.get (H.next + 3) = some (.inst 91038937668284268 (H.next + 2)) ∧ K.get (H.next + 2) = some (ctl (H.next + 4)) ∧ K.get (H.next + 4) = some (.list []) ∧ K.get (H.next + 5) = some (.list [])
    ∧ ∀ n d, (ev (PgC lf3 lg3) (n + 180) (d + 9)).c (.cls 91880068406736238) [.ref fl, .ref va, .fn 1659549907034316584678504, .int 16, .int 9] H = some (.ref (H.next + 1), K) := by
  obtain ⟨L, hL⟩ : ∃ L : Loc, L = [(6230994022, .ref (H.next + 1)), (6013346164, .ref fl), (411635780248947, .ref va), (27052967330930716518, .fn 1659549907034316584678504), (5946045555, .int 16), (391878846018675, .int 9)] := ⟨_, rfl⟩
  have hs : zf4 6230994022 L = some (.ref (H.next + 1)) := by rw [hL]; rfl
  have o0 := ob_start H 91880068406736238
  have m0 : ((H.new (.dict [])).new (.inst 91880068406736238 H.next)).next = H.next + 2 := rfl
  obtain ⟨K1, o1, m1, p1, e1⟩ := ob_step o0 6013346164 (.loc 6013346164) (.ref fl) hs (Grew.refl _) rfl rfl rfl
  obtain ⟨K2, o2, m2, p2, e2⟩ := ob_step o1 411635780248947 (.loc 411635780248947) (.ref va) hs (Grew.refl _) rfl rfl rfl
  obtain ⟨K3, o3, m3, p3, e3⟩ := ob_step o2 27052967330930716518 (.loc 27052967330930716518) (.fn 1659549907034316584678504) hs (Grew.refl _) rfl rfl rfl
  obtain ⟨K4, o4, m4, p4, e4⟩ := ob_step o3 5946045555 (.loc 5946045555) (.int 16) hs (Grew.refl _) rfl rfl rfl
  obtain ⟨K5, o5, m5, p5, e5⟩ := ob_step o4 391878846018675 (.loc 391878846018675) (.int 9) hs (Grew.refl _) rfl rfl rfl
  have x5 : K5.next = H.next + 2 := by rw [m5, m4, m3, m2, m1]; rfl
  obtain ⟨C, gC, nC, iC, eC, pC, cC⟩ := ctl_new K5
  obtain ⟨K6, o6, m6, p6, e6⟩ := ob_step o5 100046136923025260 (.call (.glb 91038937668284268) [.cst (.int 20)]) (.ref (K5.next + 1)) hs gC rfl rfl rfl
  obtain ⟨K7, o7, m7, p7, e7⟩ := ob_step o6 1573827929459 (.lst []) (.ref K6.next) hs ((Grew.refl K6).new (.list [])) rfl rfl rfl
  have x6 : K6.next = H.next + 5 := by rw [m6, nC, x5]
  have x7 : K7.next = H.next + 6 := by rw [m7, n_n, x6]
  rw [x5] at iC eC pC
  have q : ∀ j, j ≠ H.next → j < K6.next → K7.get j = C.get j := fun j h1 h2 => by rw [p7 j h1, new_ne _ _ _ (Nat.ne_of_lt h2), p6 j h1]
  have e := o7.e
  rw [x5, x6] at e
  refine ⟨K7, o7.g, x7, o7.i, e, ?_, ?_, ?_, ?_, fun n d => ?_⟩
  · rw [q _ (by omega) (by omega)]; exact iC
  · rw [q _ (by omega) (by omega)]; exact eC
  · rw [q _ (by omega) (by omega)]; exact pC
  · rw [p7 _ (by omega), ← x6]; exact new_eq _ _
  · rw [ec_cls _ _ zah, callF_ _ _ _ zaf rfl rfl]
    show (Option.bind (stmts (ev (PgC lf3 lg3) (n + 179) (d + 8)) _ [(6230994022, .ref (H.next + 1)), (6013346164, .ref fl), (411635780248947, .ref va), (27052967330930716518, .fn 1659549907034316584678504), (5946045555, .int 16), (391878846018675, .int 9)] _) krF).bind _ = _
    rw [← hL]
    have c6 : (ev (PgC lf3 lg3) (n + 178) (d + 8)).x (.call (.glb 91038937668284268) [.cst (.int 20)]) L K5 = some (.ref (K5.next + 1), C) := cC (n + 97) (d + 3)
    simp only [zan]
    rw [e1 (n + 177) (d + 8) _ (by rw [hL]; rfl), e2 (n + 177) (d + 8) _ (by rw [hL]; rfl), e3 (n + 177) (d + 8) _ (by rw [hL]; rfl), e4 (n + 177) (d + 8) _ (by rw [hL]; rfl), e5 (n + 177) (d + 8) _ (by rw [hL]; rfl), e6 (n + 177) (d + 8) _ c6, e7 (n + 177) (d + 8) _ rfl]
    rfl
end Mn.Mg
end
section
set_option maxRecDepth 100000
namespace Mn.Mg
structure Kps (H H' : MH) : Prop where
  next : H.next ≤ H'.next
  get : ∀ k o, k < H.next → H.get k = some o → H'.get k = some o
theorem Kps.trans {H1 H2 H3 : MH} (x : Kps H1 H2) (y : Kps H2 H3) : Kps H1 H3 := ⟨Nat.le_trans x.next y.next, fun k o h e => y.get k o (Nat.lt_of_lt_of_le h x.next) (x.get k o h e)⟩
theorem OrdV.keep {H K : MH} {ov : MV} {os : List Nat} (h : OrdV H ov os) (g : Kps H K) : OrdV K ov os :=
  h.imp id fun ⟨ko, e, l, h⟩ => ⟨ko, e, Nat.lt_of_lt_of_le l g.next, g.get _ _ l h⟩
theorem BF.keep {H K : MH} {b : Bd} {kb : Nat} {es : List (MV × MV)} (h : BF H b kb es) (g : Kps H K) : BF K b kb es :=
  ⟨Nat.lt_of_lt_of_le h.lt g.next, g.get _ _ h.lt h.get, h.ok, h.dS, fun y hy => by obtain ⟨kg, e, l, q⟩ := h.dB y hy; exact ⟨kg, e, Nat.lt_of_lt_of_le l g.next, g.get _ _ l q⟩, h.cS, h.g⟩
section
variable {H : MH} {kb : Nat} {b : Bd} {os : List Nat} {es : List (MV × MV)} {ov : MV}
noncomputable def Fof (b : Bd) (os : List Nat) (kr : Nat → Nat) : Fl := ⟨rowsOf b (nmF os 0) kr os, plL b os 0 0⟩
theorem ok_of (O : OO os) (kr : Nat → Nat) (g : ∀ x, isB x → (b.g x).length = 3 ∧ ∀ y ∈ b.g x, isG y) : Ok b os (Fof b os kr) := by
  refine ⟨⟨kr, rfl⟩, fun x hx => ?_, fun x hx => (O.mem x).mpr hx, g⟩
  have q := plL_get b (j := 0) (a := 0) hx
  rw [Nat.zero_add] at q
  unfold placeF
  rw [show (Fof b os kr).places = plL b os 0 0 from rfl, q]
theorem row_ok {G : Fz} (O : OO os) (kr : Nat → Nat) (hm : ∀ x, 0 ≤ b.m x ∧ b.m x < 7) (g : ∀ x, isB x → (b.g x).length = 3 ∧ ∀ y ∈ b.g x, isG y) (hk : ∀ y ∈ os, isB y → G (kr y) = some (.list (((b.g y).map (nmF os 0)).map .int))) : ∀ p ∈ (Fof b os kr).rows, p.2.ok G := by
  intro p hp
  obtain ⟨x, hx, hp⟩ := List.mem_flatMap.mp hp
  obtain ⟨o, ho, rfl⟩ := List.mem_map.mp hp
  show (rowOf b (nmF os 0) kr x o).ok G
  unfold rowOf
  by_cases h0 : o = 0
  · rw [if_pos h0]; exact hm x
  · rw [if_neg h0]
    by_cases h1 : o = 1
    · rw [if_pos h1]; trivial
    · rw [if_neg h1]
      by_cases h2 : o = 2
      · rw [if_pos h2]; trivial
      · rw [if_neg h2]
        by_cases h3 : o = 3
        · rw [if_pos h3]
          have hB : isB x := by
            rcases (O.mem x).mp hx with (h | rfl) | rfl
            · exact h
            · exact absurd (h3 ▸ ho) (by show ¬ 3 ∈ [1, 5]; decide)
            · exact absurd (h3 ▸ ho) (by show ¬ 3 ∈ [0, 1, 4]; decide)
          exact ⟨hk x hx hB, (List.length_map ..).trans (g x hB).1⟩
        · rw [if_neg h3]
          by_cases h4 : o = 4
          · rw [if_pos h4]; trivial
          · rw [if_neg h4]; trivial
noncomputable def R3 (b : Bd) (k : Nat) : Bool × Int × List MV × Nat := absF b k 321 0 5 none []
noncomputable def seenV (b : Bd) (len k na : Nat) : MV := .tup [.int (if (R3 b k).1 = true then (len : Int) else -1), .int (len : Int), .ref na, .int (R3 b k).2.1, .int ((R3 b k).2.2.2 : Int)]
theorem seen_ok (O : OO os) (ho : OrdV H ov os) (B : BF H b kb es) (hm : ∀ x, 0 ≤ b.m x ∧ b.m x < 7) (k : Nat) (hk : k ≤ 100) : ∃ K na, Kps H K ∧ H.next ≤ na ∧ na < K.next ∧ K.get na = some (.list (R3 b k).2.2.1) ∧
    ∀ n d : Nat, (ev (PgC lf3 lg3) (n + 800) (d + 25)).c (.fn 6482616824352731391342) [ov, .ref kb, .int (k : Int)] H = some (seenV b (os.flatMap (kinds b)).length k na, K) := by
  obtain ⟨K1, h, kr, g1, hh, P, n1⟩ := program_ok O ho B
  obtain ⟨K2, hK2⟩ : ∃ K2, (K1.new (.list [.tup [.str 344, .int 5]])).new (.dict [(.str 344, .int 5)]) = K2 := ⟨_, rfl⟩
  have g2 : Grew K1 K2 := hK2 ▸ ((Grew.refl K1).new _).new _
  have x2 : K2.next = K1.next + 2 := hK2 ▸ rfl
  have v2 : K2.get (K1.next + 1) = some (valD 5) := hK2 ▸ n2_1 _ _ _
  obtain ⟨K3, g3, x3, i3, r3, c3, t3, p3, a3, n3⟩ := run_new K2 (h + 1) (K1.next + 1)
  have fl := P.f.lt
  have g13 := g2.trans g3
  have f3 := P.f.grew g13
  obtain ⟨A, hA⟩ : ∃ A : RA, A = { r := K2.next + 1, rd := K2.next, fl := h + 1, fd := h, ra := h + 2, pa := h + 3, da := h + 4, qa := h + 5, la := h + 6, fa := h + 7, va := K1.next + 1, co := K2.next + 3, cd := K2.next + 2, na := K2.next + 5 } := ⟨_, rfl⟩
  obtain ⟨G, hG⟩ : ∃ G : Fz, G = fun j => if j < K3.next ∧ ¬ (j = K1.next + 1 ∨ j = K2.next + 2 ∨ j = K2.next + 4 ∨ j = K2.next + 5) then K3.get j else none := ⟨_, rfl⟩
  have G1 : ∀ j, j < K3.next → ¬ (j = K1.next + 1 ∨ j = K2.next + 2 ∨ j = K2.next + 4 ∨ j = K2.next + 5) → G j = K3.get j := fun j h1 h2 => by rw [hG]; exact if_pos ⟨h1, h2⟩
  have G0 : ∀ j, (j = K1.next + 1 ∨ j = K2.next + 2 ∨ j = K2.next + 4 ∨ j = K2.next + 5) → G j = none := fun j h => by rw [hG]; exact if_neg fun q => q.2 h
  have Gn : ∀ j, K3.next ≤ j → G j = none := fun j h => by rw [hG]; exact if_neg fun q => by omega
  have l2 := flat_len b os
  have l3 := O.len
  have l4 := rowsOf_len b (nmF os 0) kr os
  have hr := (g13.get _ (by omega)).trans P.r
  have hp := (g13.get _ (by omega)).trans P.p
  have RF : RFix G A (Fof b os kr) := by
    subst hA
    refine ⟨(G1 (K2.next + 1) (by omega) (by omega)).trans i3, (G1 K2.next (by omega) (by omega)).trans r3, (G1 (K2.next + 3) (by omega) (by omega)).trans c3, (G1 (h + 1) (by omega) (by omega)).trans f3.i, (G1 h (by omega) (by omega)).trans f3.e, (G1 (h + 2) (by omega) (by omega)).trans hr, (G1 (h + 3) (by omega) (by omega)).trans hp, fun i => plL_ok b i os 0 0, row_ok O kr hm B.g fun y hy hb => ?_, ?_⟩
    · obtain ⟨q1, q2⟩ := P.k y hy hb
      exact (G1 (kr y) (by omega) (by omega)).trans ((g13.get _ q2).trans q1)
    · show (rowsOf b (nmF os 0) kr os).length < 1000
      omega
  have S0 : St G A (K2.next + 4) ⟨5, none, []⟩ K3 := by
    subst hA
    refine ⟨fun j o e => ?_, Gn, (g3.get (K1.next + 1) (by omega)).trans v2, a3, t3, p3, G0 _ (.inl rfl), G0 _ (.inr (.inr (.inr rfl))), G0 _ (.inr (.inl rfl)), G0 _ (.inr (.inr (.inl rfl))), by show K2.next + 5 ≠ K2.next + 4; omega, (by decide : (0 : Int) ≤ 5 ∧ (5 : Int) < 7), (by decide : 0 < 1000), (by omega : K1.next + 1 < K3.next), (by omega : K2.next + 5 < K3.next), (by omega : K2.next + 2 < K3.next), by omega⟩
    rw [hG] at e
    exact gd e fun _ e => e
  obtain ⟨pl', hpl, q⟩ := sim (ok_of O kr B.g) k 321 0 5 none [] ⟨kinds_pos b 321, .inr ⟨.inl (.inl rfl), rfl⟩⟩ (by show 0 + k < 1000; omega)
  obtain ⟨K4, n4, p4, S4⟩ := goX (h := (⟨_, S0⟩ : Sx G A ⟨5, none, []⟩ K3)) RF (start b os 321) k hk q
  have tt := S4.at RF
  have hnx : K3.next ≤ K4.next := by
    have := S4.bna
    rw [hA] at this
    have : K2.next + 5 < K4.next := this
    omega
  refine ⟨K4, K2.next + 5, ⟨Nat.le_trans (g1.trans g13).next hnx, fun j o hj e => S4.ext _ _ ((G1 j (by have := g1.next; omega) (by have := g1.next; omega)).trans (((g1.trans g13).get j hj).trans e))⟩, by have := g1.next; omega, by omega, ?_, fun n d => ?_⟩
  · have := tt.na
    rw [hA] at this
    exact this
  · rw [ec_fn, callF_ _ _ _ f3_F__law_seen rfl rfl]
    have n1 := n1 (n + 197) (d + 14)
    have n3 := n3 (n + 617) (d + 15)
    have n4 := n4 (n + 277) (d + 4)
    have hdict : callB .dict [.ref K1.next] (K1.new (.list [.tup [.str 344, .int 5]])) = some (.ref (K1.next + 1), K2) := by
      show ((K1.new (.list [.tup [.str 344, .int 5]])).get K1.next).bind _ = _
      rw [new_eq, ← hK2]
      rfl
    have tt0 := S0.at RF
    subst hA
    have mg : ∀ n d as L, kme (PgC lf3 lg3) n d 92015 as L (.ref (K2.next + 1), K3) = (evs (ev (PgC lf3 lg3) n d) as L K3).bind (kfn (PgC lf3 lg3) n d 196254634976314992399582029673955626514985301736485678804054381246074043110747630893076508655744927424379866933103 (K2.next + 1)) := tt0.mg
    have t1 : attr (PgC lf3 lg3) K4 (.ref (h + 1)) 6214874995 = some (.ref (h + 2)) := tt.rows
    have t2 : K4.get (h + 2) = some (.list (Fof b os kr).mv) := tt.ra
    have t3 : attr (PgC lf3 lg3) K4 (.ref (K2.next + 1)) 1573827929459 = some (.ref (K2.next + 5)) := tt.notes
    have t4 : attr (PgC lf3 lg3) K4 (.ref (K2.next + 1)) 411635780248947 = some (.ref (K1.next + 1)) := tt.values
    have t5 : K4.get (K1.next + 1) = some (.dict [(.str 344, .int (R3 b k).2.1)]) := tt.va
    have t6 : attr (PgC lf3 lg3) K4 (.ref (K2.next + 1)) 100046136923025260 = some (.ref (K2.next + 3)) := tt.control
    have t7 : attr (PgC lf3 lg3) K4 (.ref (K2.next + 3)) 6180924517 = some (.ref p4) := tt.pile
    have t8 : K4.get p4 = some (.list (pmv pl')) := tt.pi
    have n4 : (ev (PgC lf3 lg3) (n + 797) (d + 24)).c (.fn 196254634976314992399582029673955626514985301736485678804054381246074043110747630893076508655744927424379866933103) [.ref (K2.next + 1), .int (start b os 321 : Nat), .int (k : Int)] K3 = some (.int (if (R3 b k).1 = true then ((os.flatMap (kinds b)).length : Int) else -1), K4) := by
      rw [← l4]; exact n4
    have hl : (Fof b os kr).mv.length = (os.flatMap (kinds b)).length := ((Fof b os kr).mv_len).trans l4
    have hp : (pmv pl').length = (R3 b k).2.2.2 := hpl
    have b1 : (os.flatMap (kinds b)).length ≤ 1048576 := by omega
    have b2 : (R3 b k).2.2.2 ≤ 1048576 := by
      rw [← hp]
      cases pl' with
      | none => exact Nat.zero_le _
      | some j => exact (by decide : 1 ≤ 1048576)
    have ok : okFn (PgC lf3 lg3) (.cls 91880068406736238) = true := rfl
    have okx : okKey (.str 344) [(.str 344, .int (R3 b k).2.1)] = true := rfl
    have dx : dGet (.str 344) [(.str 344, .int (R3 b k).2.1)] = some (.int (R3 b k).2.1) := rfl
    simp only [zct,zcv,zcw,zcx,zcy,zcz,zcB,zcC,zbP,zcD,zcE,zcF,zcG,zbQ,zcH,zcI,zcJ,zcK,zbR,zeA,zeB,zeC,zeD,zcL,zcM,zcP,zcS,zbS,zbT,zcU,zcW,zcX,zcY,zcZ,zbU,zc0,zf0,zf1,zbW,zbX,zbZ,zeF,zeG,zc1,zc2,zb2,zb3,zb4,zb5,zc3,zc4,zeH,zeI,zeJ,zb6,zca,zcc,zcd,zce,zc7,zeN,zeO,zda,zcf,zeP,zeQ,zdb,zeR,zeT,zeU,zeV,zeW,zeX,zdd,zeY,zeZ,ze0,zde,ze1,zdf,zdg,ze2,zdh,ze3,ze4,ze5,zdi,ze6,ze7,ze8,zfa,zfb,zfc,zdl,zdm,zdn,zdo,zdp,zci,zdq,zf2,zdr,zfe,zds,zff,zfg,zfh,zfi,zfj,zfk,zdt,zdu,zdv,zfl,zfm,zdw,zfn,zdx,zfq,zfr,zf3,zbE,zaX,zae,zaY,zaZ,zbk,zbv,zax,zbl,zao,zaK,za8,zbm,za9,za0,zba,zbb,zaf,zap,zaq,zaa,zar,zaL,zbF,za1,zag,za2,za3,zbn,zbw,zay,zbo,zas,zaM,zbc,zbp,zbd,za4,zbe,zbf,zah,zbG,zbj,zcj,zck,zbx,zaS,zaW,zbH,zbI,zcl,zby,zcm,zdy,zdz,zcn,zco,zfs,zft,zdA,zdB,zdC,zfv,zfw,zfx,zfy,zfz,zdD,zdF,zdG,zdH,zfA,zdI,zdJ,zdL,zdM,zfB,zfC,zfD,zdO,zcp,zfE,zdP,zdQ,zdR,zdS,zdT,zdV,zdW,zcq,zbJ,zbK,zdX,zdY,zfF,zd2,zfG,zfJ,zfK,zd5,zd6,zd7,zd8,zd9,zfL,zfM,zfN,zfO,zfP,zeb,zec,zfQ,zed,zee,zef,zeg,zeh,zcr,zei,zej,zem,zfR,zen,zfS,zfT,zfV,zfX,zfY,zeo,zep,zer,zfZ,zes,zeu,zew,zex,zez,zbr,zam,zbs,zbt,zbM,zcs,zaT,zbN,zaG,za7,F_put_all,F_gather,F_flatten,zbu,zbB,zbC,zan,zaH,zaI,zad,zaJ,F_FlowRun_go,if_true,if_false,zf4,zf5,cond_true,cond_false,List.zip,List.zipWith,List.length_cons,List.length_nil,Option.isSome_some,Bool.false_eq_true,reduceIte,reduceCtorEq,Nat.reduceEqDiff,Nat.reduceAdd,Nat.reduceLeDiff,Int.cast_ofNat_Int,decide_true,decide_false,Bool.and_true,Bool.true_and,Bool.and_false,Bool.false_and,Int.sub_zero,Int.reduceNeg,Nat.reduceLT,and_self,and_true,true_and,Bool.false_or,Bool.or_false,Bool.true_or,Bool.or_true,Bool.not_true,Bool.not_false,Int.natAbs_neg,Int.reduceSub,Int.reduceAdd,Int.reduceToNat,Int.natAbs_zero,Int.natAbs_one,Int.reduceLT,Int.reduceLE,Int.reduceGE,Int.reduceGT,decide_eq_true_eq,List.getElem?_cons_zero,List.getElem?_cons_succ,Nat.reduceSub,Int.reduceMul,Nat.reduceBEq,Nat.reducePow,Int.reducePow,and_false,false_and,eq_self,zbO,zbD _ _ zbx,IX,lim,F__law_seen3,f3_F__law_program,g3_F__law_program,n1,ok,hdict,g3_F__law_worth,n3,mg,n4,t1,t2,t3,t4,t5,t6,t7,t8,hl,hp,b1,b2,okx,dx,seenV]
end
end Mn.Mg
end
section
set_option maxRecDepth 100000
namespace Mn.Mg
noncomputable def sp (x : Nat) : Nat := if x = 321 then 0 else if x = 322 then 5 else if x = 323 then 10 else 15
noncomputable def gl (v : Int) : Nat := [321, 322, 323, 325].getD v.toNat 0
noncomputable def bd (sl : List Int) : Bd where
  m x := drawF sl (sp x) 7
  c x := if x = 339 then false else decide (drawF sl (sp x + 1) 2 = 1)
  g x := [gl (drawF sl (sp x + 2) 4), gl (drawF sl (sp x + 3) 4), gl (drawF sl (sp x + 4) 4)]
theorem gl_ok {v : Int} (h : 0 ≤ v ∧ v < 4) : isG (gl v) ∧ idx [.str 321, .str 322, .str 323, .str 325] v = some (.str (gl v)) := by
  have : v = 0 ∨ v = 1 ∨ v = 2 ∨ v = 3 := by omega
  rcases this with rfl | rfl | rfl | rfl
  · exact ⟨.inl (.inl rfl), rfl⟩
  · exact ⟨.inl (.inr (.inl rfl)), rfl⟩
  · exact ⟨.inl (.inr (.inr rfl)), rfl⟩
  · exact ⟨.inr rfl, rfl⟩
theorem bd_m (sl : List Int) (x : Nat) : 0 ≤ (bd sl).m x ∧ (bd sl).m x < 7 := drawF_range _ _ _ (by decide)
theorem bd_g (sl : List Int) (x : Nat) : ((bd sl).g x).length = 3 ∧ ∀ y ∈ (bd sl).g x, isG y := by
  refine ⟨rfl, fun y hy => ?_⟩
  have q : ∀ k, isG (gl (drawF sl k 4)) := fun k => (gl_ok (drawF_range _ _ _ (by decide))).1
  rcases List.mem_cons.mp hy with rfl | hy
  · exact q _
  · rcases List.mem_cons.mp hy with rfl | hy
    · exact q _
    · rw [List.mem_singleton.mp hy]; exact q _
theorem tx3 : txtOf (.str 21054019) = some [.str 321, .str 322, .str 323] := by
  unfold txtOf
  exact (if_pos (by decide +kernel)).trans rfl
theorem tx4 : txtOf (.str 5389828933) = some [.str 321, .str 322, .str 323, .str 325] := by
  unfold txtOf
  exact (if_pos (by decide +kernel)).trans rfl
theorem tx5 : txtOf (.str 1379796210501) = some [.str 321, .str 322, .str 323, .str 339, .str 325] := by
  unfold txtOf
  exact (if_pos (by decide +kernel)).trans rfl
noncomputable def esF (b : Bd) (j : Nat) : List (MV × MV) := ([(321, 4), (322, 5), (323, 6)].take j).map fun p => (.str p.1, toldV b p.1 p.2)
section
variable {sl : List Int} {ns : List Int}
noncomputable abbrev KB (K : MH) (k : Int) : MH := K.upd 2 (.list [.ref 1, .int k])
theorem dr {K : MH} (h1 : K.get 1 = some (.list (sl.map .int))) (hl : sl.length < 100) (below : Int) (hb : 0 < below) (k : Nat) (hk : k < 1000) : ∀ n d : Nat, (ev (PgC lf3 lg3) (n + 30) (d + 2)).c (.fn 6482616824352480584055) [.ref 2, .int below] (KB K k) = some (.int (drawF sl k below), KB K ((k + 1 : Nat) : Int)) := by
  intro n d
  have q := draw_ok sl k below hb hk (KB K k) 2 1 (by decide) (upd_eq _ _ _) ((upd_ne _ _ _ _ (by decide)).trans h1) hl n d
  rw [upd_upd] at q
  exact q
noncomputable abbrev LL (ns : List Int) : Loc := [(408345935179892, .ref 0), (23224679, .ref 2), (389692841487219, .ref 3)]
theorem goals_ok {K : MH} (h1 : K.get 1 = some (.list (sl.map .int))) (hl : sl.length < 100) (k : Nat) (hk : k < 500) (L : Loc) (hL : zf4 23224679 L = some (.ref 2)) (hs : ∀ v z, (z = [] ∨ ∃ u, z = [(6248821358, u)]) → zf5 6248821358 v (L ++ z) = L ++ [(6248821358, v)]) (hg : ∀ z, zf4 23224679 (L ++ z) = some (.ref 2)) (hu : ubnd (.one 6248821358) L = true) :
    ∀ n d, evC (PgC lf3 lg3) (ev (PgC lf3 lg3) (n + 100) (d + 4)) (.sub (.cst (.str 5389828933)) (.call (.glb 6482616824352480584055) [.loc 23224679, .cst (.int 4)])) (.one 6248821358) (.call (.glb 1590772524901) [.cst (.int 3)]) [] L (KB K k) = some (.ref K.next, (KB K ((k + 3 : Nat) : Int)).new (.list ([gl (drawF sl k 4), gl (drawF sl (k + 1) 4), gl (drawF sl (k + 2) 4)].map .str))) := by
  intro n d
  have q := kloop (P := PgC lf3 lg3) (e := .sub (.cst (.str 5389828933)) (.call (.glb 6482616824352480584055) [.loc 23224679, .cst (.int 4)])) (t := .one 6248821358) (L := L) (vs := [.int 0, .int 1, .int 2]) (ws := [gl (drawF sl k 4), gl (drawF sl (k + 1) 4), gl (drawF sl (k + 2) 4)].map .str) (nx := fun i => .rng (i : Int) 1 (3 - i)) (HF := fun i => KB K ((k + i : Nat) : Int)) (d := d + 4) (c := 60) (fun v => [(6248821358, v)])
    (fun j hj => ?_) (fun n j v z hv hz => ?_) (fun n j v w hv hw => ?_) rfl (by decide) 3 0 [] [] rfl (.inl rfl) rfl (n + 100) (by omega)
  · exact evC_of (t := .one 6248821358) (show evI (PgC lf3 lg3) (ev (PgC lf3 lg3) (n + 100) (d + 4)) (.call (.glb 1590772524901) [.cst (.int 3)]) L (KB K k) = some (.rng 0 1 3, KB K k) from rfl) (by rw [hu]; rfl) (by rw [List.append_nil] at q; exact q) (by show 3 ≤ 1048576; decide)
  · rcases j with _ | _ | _ | _ | j
    · rfl
    · rfl
    · rfl
    · rfl
    · exact absurd hj (by show ¬ j + 1 + 1 + 1 + 1 ≤ 3; omega)
  · show put _ _ (.nam 6248821358) v _ _ = _
    rw [zb2, hs v z hz]
  · have key : ∀ i : Nat, i < 3 → w = .str (gl (drawF sl (k + i) 4)) → (ev (PgC lf3 lg3) (n + 60) (d + 4)).x (.sub (.cst (.str 5389828933)) (.call (.glb 6482616824352480584055) [.loc 23224679, .cst (.int 4)])) (L ++ [(6248821358, v)]) (KB K ((k + i : Nat) : Int)) = some (w, KB K ((k + (i + 1) : Nat) : Int)) := by
      rintro i hi rfl
      have e1 := dr h1 hl 4 (by decide) (k + i) (by omega)
      have e2 := (gl_ok (drawF_range sl (k + i) 4 (by decide))).2
      have hg := hg [(6248821358, v)]
      have tx := tx4
      rw [← Nat.add_assoc]
      simp only [zct,zcv,zcw,zcx,zcy,zcz,zcB,zcC,zbP,zcD,zcE,zcF,zcG,zbQ,zcH,zcI,zcJ,zcK,zbR,zeA,zeB,zeC,zeD,zcL,zcM,zcP,zcS,zbS,zbT,zcU,zcW,zcX,zcY,zcZ,zbU,zc0,zf0,zf1,zbW,zbX,zbZ,zeF,zeG,zc1,zc2,zb2,zb3,zb4,zb5,zc3,zc4,zeH,zeI,zeJ,zb6,zca,zcc,zcd,zce,zc7,zeN,zeO,zda,zcf,zeP,zeQ,zdb,zeR,zeT,zeU,zeV,zeW,zeX,zdd,zeY,zeZ,ze0,zde,ze1,zdf,zdg,ze2,zdh,ze3,ze4,ze5,zdi,ze6,ze7,ze8,zfa,zfb,zfc,zdl,zdm,zdn,zdo,zdp,zci,zdq,zf2,zdr,zfe,zds,zff,zfg,zfh,zfi,zfj,zfk,zdt,zdu,zdv,zfl,zfm,zdw,zfn,zdx,zfq,zfr,zf3,zbE,zaX,zae,zaY,zaZ,zbk,zbv,zax,zbl,zao,zaK,za8,zbm,za9,za0,zba,zbb,zaf,zap,zaq,zaa,zar,zaL,zbF,za1,zag,za2,za3,zbn,zbw,zay,zbo,zas,zaM,zbc,zbp,zbd,za4,zbe,zbf,zah,zbG,zbj,zcj,zck,zbx,zaS,zaW,zbH,zbI,zcl,zby,zcm,zdy,zdz,zcn,zco,zfs,zft,zdA,zdB,zdC,zfv,zfw,zfx,zfy,zfz,zdD,zdF,zdG,zdH,zfA,zdI,zdJ,zdL,zdM,zfB,zfC,zfD,zdO,zcp,zfE,zdP,zdQ,zdR,zdS,zdT,zdV,zdW,zcq,zbJ,zbK,zdX,zdY,zfF,zd2,zfG,zfJ,zfK,zd5,zd6,zd7,zd8,zd9,zfL,zfM,zfN,zfO,zfP,zeb,zec,zfQ,zed,zee,zef,zeg,zeh,zcr,zei,zej,zem,zfR,zen,zfS,zfT,zfV,zfX,zfY,zeo,zep,zer,zfZ,zes,zeu,zew,zex,zez,zbr,zam,zbs,zbt,zbM,zcs,zaT,zbN,zaG,za7,F_put_all,F_gather,F_flatten,zbu,zbB,zbC,zan,zaH,zaI,zad,zaJ,F_FlowRun_go,if_true,if_false,zf4,zf5,cond_true,cond_false,List.zip,List.zipWith,List.length_cons,List.length_nil,Option.isSome_some,Bool.false_eq_true,reduceIte,reduceCtorEq,Nat.reduceEqDiff,Nat.reduceAdd,Nat.reduceLeDiff,Int.cast_ofNat_Int,decide_true,decide_false,Bool.and_true,Bool.true_and,Bool.and_false,Bool.false_and,Int.sub_zero,Int.reduceNeg,Nat.reduceLT,and_self,and_true,true_and,Bool.false_or,Bool.or_false,Bool.true_or,Bool.or_true,Bool.not_true,Bool.not_false,Int.natAbs_neg,Int.reduceSub,Int.reduceAdd,Int.reduceToNat,Int.natAbs_zero,Int.natAbs_one,Int.reduceLT,Int.reduceLE,Int.reduceGE,Int.reduceGT,decide_eq_true_eq,List.getElem?_cons_zero,List.getElem?_cons_succ,Nat.reduceSub,Int.reduceMul,Nat.reduceBEq,Nat.reducePow,Int.reducePow,and_false,false_and,eq_self,zbO,zbD _ _ zbx,IX,lim,F_law3,hg,g3_F__law_draw,f3_F__law_draw,e1,zdA,tx,zft,e2]
    rcases j with _ | _ | _ | j
    · exact key 0 (by decide) (Option.some.inj hw).symm
    · exact key 1 (by decide) (Option.some.inj hw).symm
    · exact key 2 (by decide) (Option.some.inj hw).symm
    · cases hv
end
end Mn.Mg
end
section
set_option maxRecDepth 100000
namespace Mn.Mg
section
variable {sl : List Int} {ns : List Int}
structure BI3 (sl ns : List Int) (j : Nat) (L : Loc) (K : MH) : Prop where
  l : ∃ z : Loc, (j = 0 ∧ z = [] ∨ ∃ a b c, z = [(6146846053, a), (6130069113, b), (1706902549328993121300071, c)]) ∧ L = LL ns ++ z
  nx : K.next = 4 + j
  k0 : K.get 0 = some (.frz (ns.map .int))
  k1 : K.get 1 = some (.list (sl.map .int))
  k2 : K.get 2 = some (.list [.ref 1, .int ((5 * j : Nat) : Int)])
  k3 : K.get 3 = some (.dict (esF (bd sl) j))
  g : ∀ i y : Nat, i < j → [321, 322, 323][i]? = some y → K.get (4 + i) = some (.list (((bd sl).g y).map .str))
theorem blk_step (hl : sl.length < 100) {j : Nat} {L : Loc} {K : MH} {v : MV} (I : BI3 sl ns j L K) (hv : [MV.str 321, .str 322, .str 323][j]? = some v) :
    ∃ L1 L' H', BI3 sl ns (j + 1) L' H' ∧ ∀ n d, put (PgC lf3 lg3) (ev (PgC lf3 lg3) (n + 200) (d + 6)) (.nam 6146846053) v L K = some (L1, K) ∧ stmts (ev (PgC lf3 lg3) (n + 200) (d + 6)) (fb 1 F_law3.body) L1 K = some (.nxt, L', H') := by
  obtain ⟨y, hy, rfl, hsp, h339, hput, hok, hl3⟩ : ∃ y : Nat, [321, 322, 323][j]? = some y ∧ .str y = v ∧ sp y = 5 * j ∧ y ≠ 339 ∧ dPut (.str y) (toldV (bd sl) y (4 + j)) (esF (bd sl) j) = esF (bd sl) (j + 1) ∧ okKey (.str y) (esF (bd sl) j) = true ∧ (esF (bd sl) j).length < 1048576 := by
    rcases j with _ | _ | _ | j
    · exact ⟨321, rfl, Option.some.inj hv, rfl, by decide, rfl, rfl, (by decide : 0 < 1048576)⟩
    · exact ⟨322, rfl, Option.some.inj hv, rfl, by decide, rfl, rfl, (by decide : 1 < 1048576)⟩
    · exact ⟨323, rfl, Option.some.inj hv, rfl, by decide, rfl, rfl, (by decide : 2 < 1048576)⟩
    · cases hv
  have hj : j < 3 := (List.getElem?_eq_some_iff.mp hy).1
  obtain ⟨⟨z, hz, rfl⟩, nx, k0, k1, k2, k3, g⟩ := I
  have hz : z = [] ∨ ∃ a b c, z = [(6146846053, a), (6130069113, b), (1706902549328993121300071, c)] := hz.imp And.right id
  have hK := upd_same _ _ _ k2
  have e1 := dr k1 hl 7 (by decide) (5 * j) (by omega)
  rw [show KB K ((5 * j : Nat) : Int) = K from hK] at e1
  have e2 : ∀ n d : Nat, (ev (PgC lf3 lg3) (n + 30) (d + 2)).c (.fn 6482616824352480584055) [.ref 2, .int 2] (KB K ((5 * j + 1 : Nat) : Int)) = some (.int (drawF sl (5 * j + 1) 2), KB K ((5 * j + 2 : Nat) : Int)) := dr k1 hl 2 (by decide) (5 * j + 1) (by omega)
  have hcm := goals_ok k1 hl (5 * j + 2) (by omega) (LL ns ++ [(6146846053, .str y), (6130069113, .int (drawF sl (5 * j) 7)), (1706902549328993121300071, .bool (decide (drawF sl (5 * j + 1) 2 = 1)))]) rfl (fun v z hz => by rcases hz with rfl | ⟨u, rfl⟩ <;> rfl) (fun z => rfl) rfl
  obtain ⟨K2, hK2⟩ : ∃ K2, (KB K ((5 * j + 2 + 3 : Nat) : Int)).new (.list ([gl (drawF sl (5 * j + 2) 4), gl (drawF sl (5 * j + 2 + 1) 4), gl (drawF sl (5 * j + 2 + 2) 4)].map .str)) = K2 := ⟨_, rfl⟩
  rw [hK2] at hcm
  have x2 : K2.next = 4 + (j + 1) := by rw [← hK2, n_n, u_n, nx]; rfl
  have q : ∀ i, i ≠ 2 → i < 4 + j → K2.get i = K.get i := fun i h1 h2 => by rw [← hK2, new_ne _ _ _ (by rw [u_n, nx]; omega), upd_ne _ _ _ _ h1]
  have q3 := (q 3 (by decide) (by omega)).trans k3
  have q2 : K2.get 2 = some (.list [.ref 1, .int ((5 * (j + 1) : Nat) : Int)]) := by rw [← hK2, new_ne _ _ _ (by rw [u_n, nx]; omega), upd_eq]; rfl
  have qg : K2.get (4 + j) = some (.list (((bd sl).g y).map .str)) := by
    rw [← hK2, show 4 + j = (KB K ((5 * j + 2 + 3 : Nat) : Int)).next from nx.symm, new_eq]
    show _ = some (MO.list ([gl (drawF sl (sp y + 2) 4), gl (drawF sl (sp y + 3) 4), gl (drawF sl (sp y + 4) 4)].map .str))
    rw [hsp]
  have ht : toldV (bd sl) y (4 + j) = .tup [.int (drawF sl (5 * j) 7), .bool (decide (drawF sl (5 * j + 1) 2 = 1)), .ref (4 + j)] := by
    show MV.tup [.int (drawF sl (sp y) 7), .bool (if y = 339 then false else decide (drawF sl (sp y + 1) 2 = 1)), _] = _
    rw [hsp, if_neg h339]
  rw [ht] at hput
  have up : ∀ i, i ≠ 3 → (K2.upd 3 (.dict (esF (bd sl) (j + 1)))).get i = K2.get i := fun i h => upd_ne _ _ _ _ h
  refine ⟨LL ns ++ zf5 6146846053 (.str y) z, LL ns ++ [(6146846053, .str y), (6130069113, .int (drawF sl (5 * j) 7)), (1706902549328993121300071, .bool (decide (drawF sl (5 * j + 1) 2 = 1)))], K2.upd 3 (.dict (esF (bd sl) (j + 1))),
    ⟨⟨_, .inr ⟨_, _, _, rfl⟩, rfl⟩, x2, ?_, ?_, ?_, upd_eq _ _ _, fun i w hi hw => ?_⟩, fun n d => ⟨?_, ?_⟩⟩
  · rw [up _ (by decide), q _ (by decide) (by omega), k0]
  · rw [up _ (by decide), q _ (by decide) (by omega), k1]
  · rw [up _ (by decide), q2]
  · by_cases h : i = j
    · subst h
      obtain rfl : y = w := Option.some.inj (hy.symm.trans hw)
      rw [up _ (by omega), qg]
    · rw [up _ (by omega), q _ (by omega) (by omega), g i w (by omega) hw]
  · rw [zb2]
    rcases hz with rfl | ⟨a, b, c, rfl⟩ <;> rfl
  · simp only [F_law3, fb, List.getElem?_cons_zero, List.getElem?_cons_succ]
    have hcm := hcm (n + 97) (d + 2)
    simp only [LL, List.cons_append, List.nil_append] at hcm
    rw [nx] at hcm
    rcases hz with rfl | ⟨a, b, c, rfl⟩ <;>
      simp only [zct,zcv,zcw,zcx,zcy,zcz,zcB,zcC,zbP,zcD,zcE,zcF,zcG,zbQ,zcH,zcI,zcJ,zcK,zbR,zeA,zeB,zeC,zeD,zcL,zcM,zcP,zcS,zbS,zbT,zcU,zcW,zcX,zcY,zcZ,zbU,zc0,zf0,zf1,zbW,zbX,zbZ,zeF,zeG,zc1,zc2,zb2,zb3,zb4,zb5,zc3,zc4,zeH,zeI,zeJ,zb6,zca,zcc,zcd,zce,zc7,zeN,zeO,zda,zcf,zeP,zeQ,zdb,zeR,zeT,zeU,zeV,zeW,zeX,zdd,zeY,zeZ,ze0,zde,ze1,zdf,zdg,ze2,zdh,ze3,ze4,ze5,zdi,ze6,ze7,ze8,zfa,zfb,zfc,zdl,zdm,zdn,zdo,zdp,zci,zdq,zf2,zdr,zfe,zds,zff,zfg,zfh,zfi,zfj,zfk,zdt,zdu,zdv,zfl,zfm,zdw,zfn,zdx,zfq,zfr,zf3,zbE,zaX,zae,zaY,zaZ,zbk,zbv,zax,zbl,zao,zaK,za8,zbm,za9,za0,zba,zbb,zaf,zap,zaq,zaa,zar,zaL,zbF,za1,zag,za2,za3,zbn,zbw,zay,zbo,zas,zaM,zbc,zbp,zbd,za4,zbe,zbf,zah,zbG,zbj,zcj,zck,zbx,zaS,zaW,zbH,zbI,zcl,zby,zcm,zdy,zdz,zcn,zco,zfs,zft,zdA,zdB,zdC,zfv,zfw,zfx,zfy,zfz,zdD,zdF,zdG,zdH,zfA,zdI,zdJ,zdL,zdM,zfB,zfC,zfD,zdO,zcp,zfE,zdP,zdQ,zdR,zdS,zdT,zdV,zdW,zcq,zbJ,zbK,zdX,zdY,zfF,zd2,zfG,zfJ,zfK,zd5,zd6,zd7,zd8,zd9,zfL,zfM,zfN,zfO,zfP,zeb,zec,zfQ,zed,zee,zef,zeg,zeh,zcr,zei,zej,zem,zfR,zen,zfS,zfT,zfV,zfX,zfY,zeo,zep,zer,zfZ,zes,zeu,zew,zex,zez,zbr,zam,zbs,zbt,zbM,zcs,zaT,zbN,zaG,za7,F_put_all,F_gather,F_flatten,zbu,zbB,zbC,zan,zaH,zaI,zad,zaJ,F_FlowRun_go,if_true,if_false,zf4,zf5,cond_true,cond_false,List.zip,List.zipWith,List.length_cons,List.length_nil,Option.isSome_some,Bool.false_eq_true,reduceIte,reduceCtorEq,Nat.reduceEqDiff,Nat.reduceAdd,Nat.reduceLeDiff,Int.cast_ofNat_Int,decide_true,decide_false,Bool.and_true,Bool.true_and,Bool.and_false,Bool.false_and,Int.sub_zero,Int.reduceNeg,Nat.reduceLT,and_self,and_true,true_and,Bool.false_or,Bool.or_false,Bool.true_or,Bool.or_true,Bool.not_true,Bool.not_false,Int.natAbs_neg,Int.reduceSub,Int.reduceAdd,Int.reduceToNat,Int.natAbs_zero,Int.natAbs_one,Int.reduceLT,Int.reduceLE,Int.reduceGE,Int.reduceGT,decide_eq_true_eq,List.getElem?_cons_zero,List.getElem?_cons_succ,Nat.reduceSub,Int.reduceMul,Nat.reduceBEq,Nat.reducePow,Int.reducePow,and_false,false_and,eq_self,zbO,zbD _ _ zbx,IX,lim,F_law3,LL,List.cons_append,List.nil_append,g3_F__law_draw,f3_F__law_draw,e1,e2,hcm,q3,hok,hl3,hput]
end
end Mn.Mg
end
section
set_option maxRecDepth 100000
namespace Mn.Mg
theorem kwh_t {P : Pg} {n d : Nat} {c : MX} {b : List MS} {L : Loc} {H : MH} : kwh P n d c b L (true, H) = (stmts (ev P n d) b L H).bind (kst ((ev P n d).s (.whl c b))) := rfl
theorem erase_map (f : Nat → MV) : ∀ (l : List Nat) (i : Nat), (l.map f).eraseIdx i = (l.eraseIdx i).map f
  | [], _ => rfl
  | _ :: _, 0 => rfl
  | x :: l, i + 1 => congrArg (f x :: ·) (erase_map f l i)
theorem erase_perm {y : Nat} : ∀ {l : List Nat} {i : Nat}, l[i]? = some y → (y :: l.eraseIdx i).Perm l
  | [], _, h => nomatch h
  | x :: l, 0, h => by
    obtain rfl : x = y := Option.some.inj h
    exact List.Perm.refl _
  | x :: l, i + 1, h => ((List.Perm.swap x y _).trans (List.Perm.cons x (erase_perm (l := l) (i := i) h)))
section
variable {sl : List Int} {ns : List Int}
noncomputable abbrev LW (ns : List Int) (a b c : MV) : Loc := LL ns ++ [(6146846053, a), (6130069113, b), (1706902549328993121300071, c), (6113551988, .ref 8), (1578172179826, .ref 9)]
noncomputable def whC : MX := .cmp (.loc 6113551988) .ne (.lst [])
noncomputable def whB : List MS := [.exp (.mth (.loc 1578172179826) 388610526637668 [.mth (.loc 6113551988) 24145776 [.call (.glb 6482616824352480584055) [.loc 23224679, .call (.glb 23881070) [.loc 6113551988]]]])]
theorem whl_ok (hl : sl.length < 100) (a b c : MV) : ∀ (m : Nat) (l o : List Nat) (k : Nat) (K : MH), l.length = m → k + m < 500 → o.length + m < 500 → 10 ≤ K.next → K.get 1 = some (.list (sl.map .int)) → K.get 2 = some (.list [.ref 1, .int (k : Int)]) → K.get 8 = some (.list (l.map .str)) → K.get 9 = some (.list (o.map .str)) →
    ∃ os' K', os'.Perm l ∧ K.next ≤ K'.next ∧ (∀ i, i < K.next → i ≠ 2 → i ≠ 8 → i ≠ 9 → K'.get i = K.get i) ∧ K'.get 9 = some (.list ((o ++ os').map .str)) ∧ ∀ n d, m + 100 ≤ n → (ev (PgC lf3 lg3) (n) (d + 6)).s (.whl whC whB) (LW ns a b c) K = some (.nxt, LW ns a b c, K') := by
  intro m
  induction m with
  | zero =>
    intro l o k K hm hk ho nx k1 k2 k8 k9
    obtain rfl := List.length_eq_zero_iff.mp hm
    have h8 : ¬ ((8 : Nat) = K.next) := by omega
    have q8 : (K.new (.list [])).get 8 = some (.list []) := (new_ne _ _ _ h8).trans k8
    refine ⟨[], K.new (.list []), List.Perm.refl _, Nat.le_succ _, fun i hi _ _ _ => new_ne _ _ _ (Nat.ne_of_lt hi), ?_, fun n d hn => ?_⟩
    · rw [new_ne _ _ _ (by omega), k9, List.append_nil]
    · obtain ⟨n, rfl⟩ : ∃ n', n = n' + 100 := ⟨n - 100, by omega⟩
      rw [es_whl]
      simp only [whC]
      simp only [zct,zcv,zcw,zcx,zcy,zcz,zcB,zcC,zbP,zcD,zcE,zcF,zcG,zbQ,zcH,zcI,zcJ,zcK,zbR,zeA,zeB,zeC,zeD,zcL,zcM,zcP,zcS,zbS,zbT,zcU,zcW,zcX,zcY,zcZ,zbU,zc0,zf0,zf1,zbW,zbX,zbZ,zeF,zeG,zc1,zc2,zb2,zb3,zb4,zb5,zc3,zc4,zeH,zeI,zeJ,zb6,zca,zcc,zcd,zce,zc7,zeN,zeO,zda,zcf,zeP,zeQ,zdb,zeR,zeT,zeU,zeV,zeW,zeX,zdd,zeY,zeZ,ze0,zde,ze1,zdf,zdg,ze2,zdh,ze3,ze4,ze5,zdi,ze6,ze7,ze8,zfa,zfb,zfc,zdl,zdm,zdn,zdo,zdp,zci,zdq,zf2,zdr,zfe,zds,zff,zfg,zfh,zfi,zfj,zfk,zdt,zdu,zdv,zfl,zfm,zdw,zfn,zdx,zfq,zfr,zf3,zbE,zaX,zae,zaY,zaZ,zbk,zbv,zax,zbl,zao,zaK,za8,zbm,za9,za0,zba,zbb,zaf,zap,zaq,zaa,zar,zaL,zbF,za1,zag,za2,za3,zbn,zbw,zay,zbo,zas,zaM,zbc,zbp,zbd,za4,zbe,zbf,zah,zbG,zbj,zcj,zck,zbx,zaS,zaW,zbH,zbI,zcl,zby,zcm,zdy,zdz,zcn,zco,zfs,zft,zdA,zdB,zdC,zfv,zfw,zfx,zfy,zfz,zdD,zdF,zdG,zdH,zfA,zdI,zdJ,zdL,zdM,zfB,zfC,zfD,zdO,zcp,zfE,zdP,zdQ,zdR,zdS,zdT,zdV,zdW,zcq,zbJ,zbK,zdX,zdY,zfF,zd2,zfG,zfJ,zfK,zd5,zd6,zd7,zd8,zd9,zfL,zfM,zfN,zfO,zfP,zeb,zec,zfQ,zed,zee,zef,zeg,zeh,zcr,zei,zej,zem,zfR,zen,zfS,zfT,zfV,zfX,zfY,zeo,zep,zer,zfZ,zes,zeu,zew,zex,zez,zbr,zam,zbs,zbt,zbM,zcs,zaT,zbN,zaG,za7,F_put_all,F_gather,F_flatten,zbu,zbB,zbC,zan,zaH,zaI,zad,zaJ,F_FlowRun_go,if_true,if_false,zf4,zf5,cond_true,cond_false,List.zip,List.zipWith,List.length_cons,List.length_nil,Option.isSome_some,Bool.false_eq_true,reduceIte,reduceCtorEq,Nat.reduceEqDiff,Nat.reduceAdd,Nat.reduceLeDiff,Int.cast_ofNat_Int,decide_true,decide_false,Bool.and_true,Bool.true_and,Bool.and_false,Bool.false_and,Int.sub_zero,Int.reduceNeg,Nat.reduceLT,and_self,and_true,true_and,Bool.false_or,Bool.or_false,Bool.true_or,Bool.or_true,Bool.not_true,Bool.not_false,Int.natAbs_neg,Int.reduceSub,Int.reduceAdd,Int.reduceToNat,Int.natAbs_zero,Int.natAbs_one,Int.reduceLT,Int.reduceLE,Int.reduceGE,Int.reduceGT,decide_eq_true_eq,List.getElem?_cons_zero,List.getElem?_cons_succ,Nat.reduceSub,Int.reduceMul,Nat.reduceBEq,Nat.reducePow,Int.reducePow,and_false,false_and,eq_self,zbO,zbD _ _ zbx,IX,lim,F_law3,LW,LL,List.cons_append,List.nil_append,h8,q8,new_eq]
      rfl
  | succ m ih =>
    intro l o k K hm hk ho nx k1 k2 k8 k9
    have h8 : ¬ ((8 : Nat) = K.next) := by omega
    obtain ⟨K1, hK1⟩ : ∃ K1, K.new (.list []) = K1 := ⟨_, rfl⟩
    have q : ∀ i, i < K.next → K1.get i = K.get i := fun i hi => hK1 ▸ new_ne _ _ _ (Nat.ne_of_lt hi)
    have x1 : K1.next = K.next + 1 := hK1 ▸ rfl
    have q8 := (q 8 (by omega)).trans k8
    have q9 := (q 9 (by omega)).trans k9
    have q1 := (q 1 (by omega)).trans k1
    have q2 := (q 2 (by omega)).trans k2
    have qn : K1.get K.next = some (.list []) := hK1 ▸ new_eq _ _
    have lne : ¬ (m + 1 = 0) := by omega
    have hlen : (l.map MV.str).length = m + 1 := (List.length_map ..).trans hm
    obtain ⟨v, hv⟩ : ∃ v, drawF sl k ((m + 1 : Nat) : Int) = v := ⟨_, rfl⟩
    have br := drawF_range sl k ((m + 1 : Nat) : Int) (by omega)
    have e1 := dr q1 hl ((m + 1 : Nat) : Int) (by omega) k (by omega)
    rw [show KB K1 (k : Int) = K1 from upd_same _ _ _ q2] at e1
    rw [hv] at br e1
    obtain ⟨y, hy⟩ : ∃ y, l[v.toNat]? = some y := ⟨_, List.getElem?_eq_getElem (by omega)⟩
    obtain ⟨K2, hK2⟩ : ∃ K2, KB K1 ((k + 1 : Nat) : Int) = K2 := ⟨_, rfl⟩
    rw [hK2] at e1
    have x2 : K2.next = K1.next := hK2 ▸ rfl
    have p : ∀ i, i ≠ 2 → K2.get i = K1.get i := fun i hi => hK2 ▸ upd_ne _ _ _ _ hi
    have p8 := (p 8 (by decide)).trans q8
    have p9 := (p 9 (by decide)).trans q9
    obtain ⟨K3, hK3⟩ : ∃ K3, K2.upd 8 (.list ((l.map .str).eraseIdx v.toNat)) = K3 := ⟨_, rfl⟩
    have r9 : K3.get 9 = some (.list (o.map .str)) := hK3 ▸ (upd_ne _ _ _ _ (by decide)).trans p9
    obtain ⟨K4, hK4⟩ : ∃ K4, K3.upd 9 (.list (o.map .str ++ [.str y])) = K4 := ⟨_, rfl⟩
    have x4 : K4.next = K.next + 1 := by rw [← hK4, u_n, ← hK3, u_n, x2, x1]
    have t : ∀ i, i ≠ 2 → i ≠ 8 → i ≠ 9 → K4.get i = K1.get i := fun i h2 h8 h9 => by rw [← hK4, upd_ne _ _ _ _ h9, ← hK3, upd_ne _ _ _ _ h8, p i h2]
    obtain ⟨os', K', hp, hx, hg, h9, he⟩ := ih (l.eraseIdx v.toNat) (o ++ [y]) (k + 1) K4 (by rw [List.length_eraseIdx, if_pos (by omega), hm]; rfl) (by omega) (by rw [List.length_append]; show o.length + 1 + m < 500; omega) (by omega)
      ((t 1 (by decide) (by decide) (by decide)).trans q1) (by rw [← hK4, upd_ne _ _ _ _ (by decide), ← hK3, upd_ne _ _ _ _ (by decide), ← hK2]; exact upd_eq _ _ _)
      (by rw [← hK4, upd_ne _ _ _ _ (by decide), ← hK3, upd_eq, erase_map]) (by rw [← hK4, upd_eq, List.map_append]; rfl)
    refine ⟨y :: os', K', (List.Perm.cons y hp).trans (erase_perm hy), by omega, fun i hi h2 h8 h9 => ?_, ?_, fun n d hn => ?_⟩
    · rw [hg i (by omega) h2 h8 h9, t i h2 h8 h9, q i hi]
    · rw [h9, List.append_assoc]; rfl
    · obtain ⟨n, rfl⟩ : ∃ n', n = n' + 101 := ⟨n - 101, by omega⟩
      have he := he (n + 100) d (by omega)
      have hv' : (l.map MV.str)[v.toNat]? = some (.str y) := by rw [List.getElem?_map, hy]; rfl
      have m9 : ∀ n d as L, kme (PgC lf3 lg3) n d 388610526637668 as L (.ref 9, K1) = (evs (ev (PgC lf3 lg3) n d) as L K1).bind (kml 9 388610526637668) := fun n d as L => meL q9
      have m8 : ∀ n d as L, kme (PgC lf3 lg3) n d 24145776 as L (.ref 8, K1) = (evs (ev (PgC lf3 lg3) n d) as L K1).bind (kml 8 24145776) := fun n d as L => meL q8
      have c1 : v < 1048576 := by omega
      have c2 : m + 1 < 1048576 := by omega
      have c3 : m + 1 ≤ 1048576 := by omega
      have c4 : (o.map MV.str).length < 1048576 := by rw [List.length_map]; omega
      rw [es_whl]
      simp only [whC]
      generalize l.map MV.str = ml at q8 p8 hv' hlen hK3
      simp only [zct,zcv,zcw,zcx,zcy,zcz,zcB,zcC,zbP,zcD,zcE,zcF,zcG,zbQ,zcH,zcI,zcJ,zcK,zbR,zeA,zeB,zeC,zeD,zcL,zcM,zcP,zcS,zbS,zbT,zcU,zcW,zcX,zcY,zcZ,zbU,zc0,zf0,zf1,zbW,zbX,zbZ,zeF,zeG,zc1,zc2,zb2,zb3,zb4,zb5,zc3,zc4,zeH,zeI,zeJ,zb6,zca,zcc,zcd,zce,zc7,zeN,zeO,zda,zcf,zeP,zeQ,zdb,zeR,zeT,zeU,zeV,zeW,zeX,zdd,zeY,zeZ,ze0,zde,ze1,zdf,zdg,ze2,zdh,ze3,ze4,ze5,zdi,ze6,ze7,ze8,zfa,zfb,zfc,zdl,zdm,zdn,zdo,zdp,zci,zdq,zf2,zdr,zfe,zds,zff,zfg,zfh,zfi,zfj,zfk,zdt,zdu,zdv,zfl,zfm,zdw,zfn,zdx,zfq,zfr,zf3,zbE,zaX,zae,zaY,zaZ,zbk,zbv,zax,zbl,zao,zaK,za8,zbm,za9,za0,zba,zbb,zaf,zap,zaq,zaa,zar,zaL,zbF,za1,zag,za2,za3,zbn,zbw,zay,zbo,zas,zaM,zbc,zbp,zbd,za4,zbe,zbf,zah,zbG,zbj,zcj,zck,zbx,zaS,zaW,zbH,zbI,zcl,zby,zcm,zdy,zdz,zcn,zco,zfs,zft,zdA,zdB,zdC,zfv,zfw,zfx,zfy,zfz,zdD,zdF,zdG,zdH,zfA,zdI,zdJ,zdL,zdM,zfB,zfC,zfD,zdO,zcp,zfE,zdP,zdQ,zdR,zdS,zdT,zdV,zdW,zcq,zbJ,zbK,zdX,zdY,zfF,zd2,zfG,zfJ,zfK,zd5,zd6,zd7,zd8,zd9,zfL,zfM,zfN,zfO,zfP,zeb,zec,zfQ,zed,zee,zef,zeg,zeh,zcr,zei,zej,zem,zfR,zen,zfS,zfT,zfV,zfX,zfY,zeo,zep,zer,zfZ,zes,zeu,zew,zex,zez,zbr,zam,zbs,zbt,zbM,zcs,zaT,zbN,zaG,za7,F_put_all,F_gather,F_flatten,zbu,zbB,zbC,zan,zaH,zaI,zad,zaJ,F_FlowRun_go,if_true,if_false,zf4,zf5,cond_true,cond_false,List.zip,List.zipWith,List.length_cons,List.length_nil,Option.isSome_some,Bool.false_eq_true,reduceIte,reduceCtorEq,Nat.reduceEqDiff,Nat.reduceAdd,Nat.reduceLeDiff,Int.cast_ofNat_Int,decide_true,decide_false,Bool.and_true,Bool.true_and,Bool.and_false,Bool.false_and,Int.sub_zero,Int.reduceNeg,Nat.reduceLT,and_self,and_true,true_and,Bool.false_or,Bool.or_false,Bool.true_or,Bool.or_true,Bool.not_true,Bool.not_false,Int.natAbs_neg,Int.reduceSub,Int.reduceAdd,Int.reduceToNat,Int.natAbs_zero,Int.natAbs_one,Int.reduceLT,Int.reduceLE,Int.reduceGE,Int.reduceGT,decide_eq_true_eq,List.getElem?_cons_zero,List.getElem?_cons_succ,Nat.reduceSub,Int.reduceMul,Nat.reduceBEq,Nat.reducePow,Int.reducePow,and_false,false_and,eq_self,zbO,zbD _ _ zbx,IX,lim,F_law3,LW,LL,List.cons_append,List.nil_append,h8,q8,qn,hK1,hlen,lne]
      rw [kwh_t]
      simp only [LW, LL, List.cons_append, List.nil_append, whC, whB] at he ⊢
      simp only [zct,zcv,zcw,zcx,zcy,zcz,zcB,zcC,zbP,zcD,zcE,zcF,zcG,zbQ,zcH,zcI,zcJ,zcK,zbR,zeA,zeB,zeC,zeD,zcL,zcM,zcP,zcS,zbS,zbT,zcU,zcW,zcX,zcY,zcZ,zbU,zc0,zf0,zf1,zbW,zbX,zbZ,zeF,zeG,zc1,zc2,zb2,zb3,zb4,zb5,zc3,zc4,zeH,zeI,zeJ,zb6,zca,zcc,zcd,zce,zc7,zeN,zeO,zda,zcf,zeP,zeQ,zdb,zeR,zeT,zeU,zeV,zeW,zeX,zdd,zeY,zeZ,ze0,zde,ze1,zdf,zdg,ze2,zdh,ze3,ze4,ze5,zdi,ze6,ze7,ze8,zfa,zfb,zfc,zdl,zdm,zdn,zdo,zdp,zci,zdq,zf2,zdr,zfe,zds,zff,zfg,zfh,zfi,zfj,zfk,zdt,zdu,zdv,zfl,zfm,zdw,zfn,zdx,zfq,zfr,zf3,zbE,zaX,zae,zaY,zaZ,zbk,zbv,zax,zbl,zao,zaK,za8,zbm,za9,za0,zba,zbb,zaf,zap,zaq,zaa,zar,zaL,zbF,za1,zag,za2,za3,zbn,zbw,zay,zbo,zas,zaM,zbc,zbp,zbd,za4,zbe,zbf,zah,zbG,zbj,zcj,zck,zbx,zaS,zaW,zbH,zbI,zcl,zby,zcm,zdy,zdz,zcn,zco,zfs,zft,zdA,zdB,zdC,zfv,zfw,zfx,zfy,zfz,zdD,zdF,zdG,zdH,zfA,zdI,zdJ,zdL,zdM,zfB,zfC,zfD,zdO,zcp,zfE,zdP,zdQ,zdR,zdS,zdT,zdV,zdW,zcq,zbJ,zbK,zdX,zdY,zfF,zd2,zfG,zfJ,zfK,zd5,zd6,zd7,zd8,zd9,zfL,zfM,zfN,zfO,zfP,zeb,zec,zfQ,zed,zee,zef,zeg,zeh,zcr,zei,zej,zem,zfR,zen,zfS,zfT,zfV,zfX,zfY,zeo,zep,zer,zfZ,zes,zeu,zew,zex,zez,zbr,zam,zbs,zbt,zbM,zcs,zaT,zbN,zaG,za7,F_put_all,F_gather,F_flatten,zbu,zbB,zbC,zan,zaH,zaI,zad,zaJ,F_FlowRun_go,if_true,if_false,zf4,zf5,cond_true,cond_false,List.zip,List.zipWith,List.length_cons,List.length_nil,Option.isSome_some,Bool.false_eq_true,reduceIte,reduceCtorEq,Nat.reduceEqDiff,Nat.reduceAdd,Nat.reduceLeDiff,Int.cast_ofNat_Int,decide_true,decide_false,Bool.and_true,Bool.true_and,Bool.and_false,Bool.false_and,Int.sub_zero,Int.reduceNeg,Nat.reduceLT,and_self,and_true,true_and,Bool.false_or,Bool.or_false,Bool.true_or,Bool.or_true,Bool.not_true,Bool.not_false,Int.natAbs_neg,Int.reduceSub,Int.reduceAdd,Int.reduceToNat,Int.natAbs_zero,Int.natAbs_one,Int.reduceLT,Int.reduceLE,Int.reduceGE,Int.reduceGT,decide_eq_true_eq,List.getElem?_cons_zero,List.getElem?_cons_succ,Nat.reduceSub,Int.reduceMul,Nat.reduceBEq,Nat.reducePow,Int.reducePow,and_false,false_and,eq_self,zbO,zbD _ _ zbx,IX,lim,F_law3,m9,m8,q8,hlen,c3,g3_F__law_draw,f3_F__law_draw,e1,p8,zes,br.1,c1,c2,hv',hK3,kpo,r9,c4,hK4]
      exact he
end
end Mn.Mg
end
section
set_option maxRecDepth 100000
namespace Mn.Mg
noncomputable def HI (ns : List Int) : MH := ⟨1, fun k => if k = 0 then some (.frz (ns.map .int)) else none⟩
noncomputable def isNt (v : MV) : Prop := ∃ w y, v = nt w y
theorem absF_nt (b : Bd) : ∀ (k x i : Nat) (X : Int) (pl : Option (Nat × Nat)) (ns : List MV), (∀ v ∈ ns, isNt v) → ∀ v ∈ (absF b k x i X pl ns).2.2.1, isNt v := by
  intro k
  induction k with
  | zero => exact fun _ _ _ _ _ h => h
  | succ k ih =>
    intro x i X pl ns h
    unfold absF
    by_cases c0 : (kinds b x)[i]? = some 0
    · rw [if_pos c0]; exact ih _ _ _ _ _ h
    · rw [if_neg c0]
      by_cases c1 : (kinds b x)[i]? = some 1
      · rw [if_pos c1]
        exact ih _ _ _ _ _ fun v hv => (List.mem_append.mp hv).elim (h v) fun hv => ⟨x, X, List.mem_singleton.mp hv⟩
      · rw [if_neg c1]
        by_cases c2 : (kinds b x)[i]? = some 2
        · rw [if_pos c2]; exact ih _ _ _ _ _ h
        · rw [if_neg c2]
          by_cases c3 : (kinds b x)[i]? = some 3
          · rw [if_pos c3]; exact ih _ _ _ _ _ h
          · rw [if_neg c3]
            by_cases c4 : (kinds b x)[i]? = some 4
            · rw [if_pos c4]; exact ih _ _ _ _ _ h
            · rw [if_neg c4]; exact h
theorem feq_nt : ∀ (l : List MV), (∀ v ∈ l, isNt v) → feqL (feq 6) l l = some true
  | [], _ => rfl
  | x :: r, h => by
    obtain ⟨w, y, rfl⟩ := h x (.head _)
    have e : feq 6 (nt w y) (nt w y) = some true := by
      show ((some (Nat.beq w w)).bind fun x => (Option.bind (some (decide (y = y))) fun z => some (z && true)).bind fun z => some (x && z)) = _
      rw [Nat.beq_refl, decide_eq_true rfl]; rfl
    show (feq 6 (nt w y) (nt w y)).bind _ = _
    rw [e, zct, feq_nt r fun v hv => h v (.tail _ hv)]; rfl
noncomputable def os0 : List Nat := [321, 322, 323, 339, 325]
theorem os0_ok : OO os0 := by
  refine ⟨by decide, rfl, fun x => ⟨fun h => ?_, fun h => ?_⟩⟩
  · unfold os0 at h
    simp only [List.mem_cons, List.not_mem_nil, or_false] at h
    rcases h with rfl | rfl | rfl | rfl | rfl
    · exact .inl (.inl (.inl rfl))
    · exact .inl (.inl (.inr (.inl rfl)))
    · exact .inl (.inl (.inr (.inr rfl)))
    · exact .inr rfl
    · exact .inl (.inr rfl)
  · rcases h with ((rfl | rfl | rfl) | rfl) | rfl <;> decide
theorem perm_ok {os : List Nat} (p : os.Perm os0) : OO os := ⟨p.nodup_iff.mpr os0_ok.nd, p.length_eq, fun x => p.mem_iff.trans (os0_ok.mem x)⟩
theorem note0 : (R3 (bd []) 30).2.2.1 = [nt 321 2, nt 323 5, nt 339 3, nt 322 5, nt 339 3, nt 321 3, nt 325 3] := by kernel_rfl
section
variable {sl : List Int} {ns : List Int}
noncomputable def ksB : List Nat := [4, 9, 17, 30]
structure I5 (K0 : MH) (ns : List Int) (a b c : MV) (D : Bd) (len : Nat) (j : Nat) (L : Loc) (K : MH) : Prop where
  g : Kps K0 K
  l : ∃ z : Loc, (j = 0 ∧ z = [] ∨ ∃ v k na, ksB[j - 1]? = some k ∧ z = [(1522288389732, v), (1539468258916, seenV D len k na)] ∧ na < K.next ∧ K.get na = some (.list (R3 D k).2.2.1)) ∧ L = LW ns a b c ++ z
theorem five_step {K0 : MH} {a b c : MV} {D : Bd} {es : List (MV × MV)} {os : List Nat} (p : os.Perm os0) (ho : OrdV K0 (.ref 9) os) (B : BF K0 D 3 es) (hm : ∀ x, 0 ≤ D.m x ∧ D.m x < 7) {j : Nat} {L : Loc} {K : MH} {v : MV} (I : I5 K0 ns a b c D (os0.flatMap (kinds D)).length j L K) (hv : (ksB.map fun k : Nat => MV.int (k : Int))[j]? = some v) :
    ∃ L1 L' H', I5 K0 ns a b c D (os0.flatMap (kinds D)).length (j + 1) L' H' ∧ ∀ n d, put (PgC lf3 lg3) (ev (PgC lf3 lg3) (n + 850) (d + 28)) (.nam 1522288389732) v L K = some (L1, K) ∧ stmts (ev (PgC lf3 lg3) (n + 850) (d + 28)) (fb 5 F_law3.body) L1 K = some (.nxt, L', H') := by
  rw [List.getElem?_map] at hv
  obtain ⟨k, hk, rfl⟩ := Option.map_eq_some_iff.mp hv
  have hk100 : k ≤ 100 := by
    have : k ∈ ksB := List.mem_of_getElem? hk
    have h : ∀ k ∈ ksB, k ≤ 100 := by decide
    exact h k this
  obtain ⟨g, z, hz, rfl⟩ := I
  have tx : OrdV K (.str 1379796210501) os0 := .inl ⟨_, rfl, tx5⟩
  obtain ⟨K1, na1, g1, _, l1, r1, n1⟩ := seen_ok os0_ok tx (B.keep g) hm k hk100
  obtain ⟨K2, na2, g2, l2', l2, r2, n2⟩ := seen_ok (perm_ok p) (ho.keep (g.trans g1)) (B.keep (g.trans g1)) hm k hk100
  rw [(p.flatMap_right (kinds D)).length_eq] at n2
  have r1' := g2.get _ _ l1 r1
  have hne : ¬ (na2 = na1) := by omega
  have hnt := feq_nt (R3 D k).2.2.1 (absF_nt D k 321 0 5 none [] fun v hv => nomatch hv)
  obtain ⟨len, hlen⟩ : ∃ len, (os0.flatMap (kinds D)).length = len := ⟨_, rfl⟩
  rw [hlen] at n1 n2 hz ⊢
  refine ⟨LW ns a b c ++ zf5 1522288389732 (.int (k : Int)) z, LW ns a b c ++ [(1522288389732, .int (k : Int)), (1539468258916, seenV D len k na1)], K2, ⟨g.trans (g1.trans g2), _, .inr ⟨.int (k : Int), k, na1, hk, rfl, Nat.lt_of_lt_of_le l1 g2.next, r1'⟩, rfl⟩, fun n d => ⟨?_, ?_⟩⟩
  · rw [zb2]
    rcases hz with ⟨_, rfl⟩ | ⟨v, k', na, _, rfl, _⟩ <;> rfl
  · simp only [F_law3, fb, List.getElem?_cons_zero, List.getElem?_cons_succ]
    have hzz : z = [] ∨ ∃ v w, z = [(1522288389732, v), (1539468258916, w)] := hz.elim (fun h => .inl h.2) fun ⟨v, k', na, _, h, _⟩ => .inr ⟨v, _, h⟩
    simp only [seenV] at n1 n2 ⊢
    generalize (R3 D k).2.2.1 = nn at r1 r2 r1' hnt
    generalize (if (R3 D k).1 = true then (len : Int) else -1) = w1 at n1 n2 ⊢
    rcases hzz with rfl | ⟨v, w, rfl⟩ <;>
      simp only [zct,zcv,zcw,zcx,zcy,zcz,zcB,zcC,zbP,zcD,zcE,zcF,zcG,zbQ,zcH,zcI,zcJ,zcK,zbR,zeA,zeB,zeC,zeD,zcL,zcM,zcP,zcS,zbS,zbT,zcU,zcW,zcX,zcY,zcZ,zbU,zc0,zf0,zf1,zbW,zbX,zbZ,zeF,zeG,zc1,zc2,zb2,zb3,zb4,zb5,zc3,zc4,zeH,zeI,zeJ,zb6,zca,zcc,zcd,zce,zc7,zeN,zeO,zda,zcf,zeP,zeQ,zdb,zeR,zeT,zeU,zeV,zeW,zeX,zdd,zeY,zeZ,ze0,zde,ze1,zdf,zdg,ze2,zdh,ze3,ze4,ze5,zdi,ze6,ze7,ze8,zfa,zfb,zfc,zdl,zdm,zdn,zdo,zdp,zci,zdq,zf2,zdr,zfe,zds,zff,zfg,zfh,zfi,zfj,zfk,zdt,zdu,zdv,zfl,zfm,zdw,zfn,zdx,zfq,zfr,zf3,zbE,zaX,zae,zaY,zaZ,zbk,zbv,zax,zbl,zao,zaK,za8,zbm,za9,za0,zba,zbb,zaf,zap,zaq,zaa,zar,zaL,zbF,za1,zag,za2,za3,zbn,zbw,zay,zbo,zas,zaM,zbc,zbp,zbd,za4,zbe,zbf,zah,zbG,zbj,zcj,zck,zbx,zaS,zaW,zbH,zbI,zcl,zby,zcm,zdy,zdz,zcn,zco,zfs,zft,zdA,zdB,zdC,zfv,zfw,zfx,zfy,zfz,zdD,zdF,zdG,zdH,zfA,zdI,zdJ,zdL,zdM,zfB,zfC,zfD,zdO,zcp,zfE,zdP,zdQ,zdR,zdS,zdT,zdV,zdW,zcq,zbJ,zbK,zdX,zdY,zfF,zd2,zfG,zfJ,zfK,zd5,zd6,zd7,zd8,zd9,zfL,zfM,zfN,zfO,zfP,zeb,zec,zfQ,zed,zee,zef,zeg,zeh,zcr,zei,zej,zem,zfR,zen,zfS,zfT,zfV,zfX,zfY,zeo,zep,zer,zfZ,zes,zeu,zew,zex,zez,zbr,zam,zbs,zbt,zbM,zcs,zaT,zbN,zaG,za7,F_put_all,F_gather,F_flatten,zbu,zbB,zbC,zan,zaH,zaI,zad,zaJ,F_FlowRun_go,if_true,if_false,zf4,zf5,cond_true,cond_false,List.zip,List.zipWith,List.length_cons,List.length_nil,Option.isSome_some,Bool.false_eq_true,reduceIte,reduceCtorEq,Nat.reduceEqDiff,Nat.reduceAdd,Nat.reduceLeDiff,Int.cast_ofNat_Int,decide_true,decide_false,Bool.and_true,Bool.true_and,Bool.and_false,Bool.false_and,Int.sub_zero,Int.reduceNeg,Nat.reduceLT,and_self,and_true,true_and,Bool.false_or,Bool.or_false,Bool.true_or,Bool.or_true,Bool.not_true,Bool.not_false,Int.natAbs_neg,Int.reduceSub,Int.reduceAdd,Int.reduceToNat,Int.natAbs_zero,Int.natAbs_one,Int.reduceLT,Int.reduceLE,Int.reduceGE,Int.reduceGT,decide_eq_true_eq,List.getElem?_cons_zero,List.getElem?_cons_succ,Nat.reduceSub,Int.reduceMul,Nat.reduceBEq,Nat.reducePow,Int.reducePow,and_false,false_and,eq_self,zbO,zbD _ _ zbx,IX,lim,F_law3,LW,LL,List.cons_append,List.nil_append,g3_F__law_seen,f3_F__law_seen,n1,n2,zd7,zd9,zd8,hne,r2,r1',hnt]
end
end Mn.Mg
end
section
set_option maxRecDepth 100000
namespace Mn.Mg
theorem tup_next (vs : List MV) (j : Nat) (K : MH) : (It.tup (vs.drop j)).next K = some (vs[j]?.map fun v => (v, .tup (vs.drop (j + 1)))) := by
  rcases Nat.lt_or_ge j vs.length with h | h
  · rw [List.drop_eq_getElem_cons h, List.getElem?_eq_getElem h]; rfl
  · rw [List.drop_eq_nil_of_le h, List.getElem?_eq_none h]; rfl
noncomputable def es4 (sl : List Int) : List (MV × MV) := esF (bd sl) 3 ++ [(.str 339, toldV (bd sl) 339 7)]
theorem mid_ok (ns : List Int) : ∃ K os a b c, os.Perm os0 ∧ OrdV K (.ref 9) os ∧ BF K (bd (ns.take 20)) 3 (es4 (ns.take 20)) ∧ K.get 0 = some (.frz (ns.map .int)) ∧ 10 ≤ K.next ∧ (ns.length < 64 →
    ∀ n d : Nat, ∀ r : List MS, stmts (ev (PgC lf3 lg3) (n + 400) (d + 10)) (F_law3.body.take 5 ++ r) [(408345935179892, .ref 0)] (HI ns) = stmts (ev (PgC lf3 lg3) (n + 400) (d + 10)) r (LW ns a b c) K) := by
  obtain ⟨sl, hsl⟩ : ∃ sl, ns.take 20 = sl := ⟨_, rfl⟩
  rw [hsl]
  have hl : sl.length < 100 := by rw [← hsl, List.length_take]; omega
  obtain ⟨K0, hK0⟩ : ∃ K0, (((HI ns).new (.list (sl.map .int))).new (.list [.ref 1, .int 0])).new (.dict []) = K0 := ⟨_, rfl⟩
  obtain ⟨L1, K1, I, lp⟩ := forloop (P := PgC lf3 lg3) (t := .nam 6146846053) (body := fb 1 F_law3.body) (vs := [MV.str 321, .str 322, .str 323]) (nx := fun j => .txt ([MV.str 321, .str 322, .str 323].drop j)) (dd := 6) (c := 200) (I := BI3 sl ns)
    (fun j L K _ => txt_next _ j K) (fun j L K v I hv => blk_step hl I hv) 3 0 (LL ns) K0 rfl (by
      subst hK0
      exact ⟨⟨[], .inl ⟨rfl, rfl⟩, rfl⟩, rfl, rfl, rfl, rfl, rfl, fun i y h => absurd h (Nat.not_lt_zero _)⟩)
  obtain ⟨z, hz, rfl⟩ := I.l
  obtain ⟨a, b, c, rfl⟩ : ∃ a b c, z = [(6146846053, a), (6130069113, b), (1706902549328993121300071, c)] := hz.resolve_left fun h => absurd h.1 (by show ¬ (3 = 0); decide)
  have nx : K1.next = 7 := I.nx
  have k2 : K1.get 2 = some (.list [.ref 1, .int ((15 : Nat) : Int)]) := I.k2
  have k3 : K1.get 3 = some (.dict (esF (bd sl) 3)) := I.k3
  have e1 := dr I.k1 hl 7 (by decide) 15 (by decide)
  rw [show KB K1 ((15 : Nat) : Int) = K1 from upd_same _ _ _ k2] at e1
  obtain ⟨K2, hK2⟩ : ∃ K2, (KB K1 ((16 : Nat) : Int)).new (.list []) = K2 := ⟨_, rfl⟩
  have x2 : K2.next = 8 := by rw [← hK2, n_n, u_n, nx]
  have q2 : ∀ i, i ≠ 2 → i < 7 → K2.get i = K1.get i := fun i h1 h2 => by rw [← hK2, new_ne _ _ _ (by rw [u_n, nx]; omega), upd_ne _ _ _ _ h1]
  have d2 := (q2 3 (by decide) (by decide)).trans k3
  have b2 : K2.get 2 = some (.list [.ref 1, .int ((16 : Nat) : Int)]) := by rw [← hK2, new_ne _ _ _ (by rw [u_n, nx]; decide), upd_eq]
  obtain ⟨K3, hK3⟩ : ∃ K3, K2.upd 3 (.dict (es4 sl)) = K3 := ⟨_, rfl⟩
  have q3 : ∀ i, i ≠ 3 → K3.get i = K2.get i := fun i h => hK3 ▸ upd_ne _ _ _ _ h
  have x3 : K3.next = 8 := by rw [← hK3, u_n, x2]
  obtain ⟨K4, hK4⟩ : ∃ K4, (K3.new (.list (os0.map .str))).new (.list []) = K4 := ⟨_, rfl⟩
  have x4 : K4.next = 10 := by rw [← hK4, n_n, n_n, x3]
  have q4 : ∀ i, i < 8 → K4.get i = K3.get i := fun i h => by rw [← hK4, new_ne _ _ _ (by rw [n_n, x3]; omega), new_ne _ _ _ (by rw [x3]; omega)]
  obtain ⟨os, K', hp, hx, hg, h9, he⟩ := whl_ok (ns := ns) hl a b c 5 os0 [] 16 K4 rfl (by decide) (by decide) (by omega) (by rw [q4 _ (by decide), q3 _ (by decide), q2 _ (by decide) (by decide)]; exact I.k1) (by rw [q4 _ (by decide), q3 _ (by decide)]; exact b2)
    (by rw [← hK4, show (8 : Nat) = K3.next from x3.symm]; exact n2_0 _ _ _) (by rw [← hK4, show (9 : Nat) = K3.next + 1 by rw [x3]]; exact n2_1 _ _ _)
  have fin : ∀ i, i < 7 → i ≠ 2 → i ≠ 3 → K'.get i = K1.get i := fun i h1 h2 h3 => by rw [hg i (by omega) h2 (by omega) (by omega), q4 i (by omega), q3 i h3, q2 i h2 h1]
  have f3 : K'.get 3 = some (.dict (es4 sl)) := by rw [hg 3 (by omega) (by decide) (by decide) (by decide), q4 3 (by decide), ← hK3, upd_eq]
  refine ⟨K', os, a, b, c, hp, .inr ⟨9, rfl, by omega, h9⟩, ⟨by omega, f3, fun _ => rfl, ⟨7, rfl⟩, fun y hy => ?_, rfl, fun x _ => bd_g sl x⟩, (fin 0 (by decide) (by decide) (by decide)).trans I.k0, by omega, fun hns n d r => ?_⟩
  · rcases hy with rfl | rfl | rfl
    · exact ⟨4, rfl, by omega, (fin 4 (by decide) (by decide) (by decide)).trans (I.g 0 321 (by decide) rfl)⟩
    · exact ⟨5, rfl, by omega, (fin 5 (by decide) (by decide) (by decide)).trans (I.g 1 322 (by decide) rfl)⟩
    · exact ⟨6, rfl, by omega, (fin 6 (by decide) (by decide) (by decide)).trans (I.g 2 323 (by decide) rfl)⟩
  · have lp := lp (n + 399) (d + 4) (by omega)
    have he := he (n + 400) (d + 4) (by omega)
    have hK4' : (K3.new (.list [.str 321, .str 322, .str 323, .str 339, .str 325])).new (.list []) = K4 := hK4
    have g0 : (HI ns).get 0 = some (.frz (ns.map .int)) := rfl
    have b1 : (ns.map MV.int).length ≤ 1048576 := by rw [List.length_map]; omega
    have b3 : (sl.map MV.int).length ≤ 1048576 := by rw [List.length_map]; omega
    have h1 : (HI ns).next = 1 := rfl
    have ht : (ns.map MV.int).take 20 = sl.map .int := by rw [← List.map_take, hsl]
    have t1 : ∀ y vs, tupOk (.nam y) (.txt vs) = true := fun _ _ => rfl
    have okS : okKey (.str 339) (esF (bd sl) 3) = true := rfl
    have hput : dPut (.str 339) (.tup [.int (drawF sl 15 7), .bool false, .ref 7]) (esF (bd sl) 3) = es4 sl := rfl
    have l3 : (esF (bd sl) 3).length < 1048576 := (by decide : 3 < 1048576)
    have e15 : ((15 + 1 : Nat) : Int) = ((16 : Nat) : Int) := rfl
    simp only [F_law3, fb, List.getElem?_cons_zero, List.getElem?_cons_succ, whC, whB, LL, LW, List.cons_append, List.nil_append, List.drop_zero] at lp he
    simp only [F_law3, List.take, List.cons_append, List.nil_append]
    have hK2' : (KB K1 16).new (.list []) = K2 := hK2
    simp only [zct,zcv,zcw,zcx,zcy,zcz,zcB,zcC,zbP,zcD,zcE,zcF,zcG,zbQ,zcH,zcI,zcJ,zcK,zbR,zeA,zeB,zeC,zeD,zcL,zcM,zcP,zcS,zbS,zbT,zcU,zcW,zcX,zcY,zcZ,zbU,zc0,zf0,zf1,zbW,zbX,zbZ,zeF,zeG,zc1,zc2,zb2,zb3,zb4,zb5,zc3,zc4,zeH,zeI,zeJ,zb6,zca,zcc,zcd,zce,zc7,zeN,zeO,zda,zcf,zeP,zeQ,zdb,zeR,zeT,zeU,zeV,zeW,zeX,zdd,zeY,zeZ,ze0,zde,ze1,zdf,zdg,ze2,zdh,ze3,ze4,ze5,zdi,ze6,ze7,ze8,zfa,zfb,zfc,zdl,zdm,zdn,zdo,zdp,zci,zdq,zf2,zdr,zfe,zds,zff,zfg,zfh,zfi,zfj,zfk,zdt,zdu,zdv,zfl,zfm,zdw,zfn,zdx,zfq,zfr,zf3,zbE,zaX,zae,zaY,zaZ,zbk,zbv,zax,zbl,zao,zaK,za8,zbm,za9,za0,zba,zbb,zaf,zap,zaq,zaa,zar,zaL,zbF,za1,zag,za2,za3,zbn,zbw,zay,zbo,zas,zaM,zbc,zbp,zbd,za4,zbe,zbf,zah,zbG,zbj,zcj,zck,zbx,zaS,zaW,zbH,zbI,zcl,zby,zcm,zdy,zdz,zcn,zco,zfs,zft,zdA,zdB,zdC,zfv,zfw,zfx,zfy,zfz,zdD,zdF,zdG,zdH,zfA,zdI,zdJ,zdL,zdM,zfB,zfC,zfD,zdO,zcp,zfE,zdP,zdQ,zdR,zdS,zdT,zdV,zdW,zcq,zbJ,zbK,zdX,zdY,zfF,zd2,zfG,zfJ,zfK,zd5,zd6,zd7,zd8,zd9,zfL,zfM,zfN,zfO,zfP,zeb,zec,zfQ,zed,zee,zef,zeg,zeh,zcr,zei,zej,zem,zfR,zen,zfS,zfT,zfV,zfX,zfY,zeo,zep,zer,zfZ,zes,zeu,zew,zex,zez,zbr,zam,zbs,zbt,zbM,zcs,zaT,zbN,zaG,za7,F_put_all,F_gather,F_flatten,zbu,zbB,zbC,zan,zaH,zaI,zad,zaJ,F_FlowRun_go,if_true,if_false,zf4,zf5,cond_true,cond_false,List.zip,List.zipWith,List.length_cons,List.length_nil,Option.isSome_some,Bool.false_eq_true,reduceIte,reduceCtorEq,Nat.reduceEqDiff,Nat.reduceAdd,Nat.reduceLeDiff,Int.cast_ofNat_Int,decide_true,decide_false,Bool.and_true,Bool.true_and,Bool.and_false,Bool.false_and,Int.sub_zero,Int.reduceNeg,Nat.reduceLT,and_self,and_true,true_and,Bool.false_or,Bool.or_false,Bool.true_or,Bool.or_true,Bool.not_true,Bool.not_false,Int.natAbs_neg,Int.reduceSub,Int.reduceAdd,Int.reduceToNat,Int.natAbs_zero,Int.natAbs_one,Int.reduceLT,Int.reduceLE,Int.reduceGE,Int.reduceGT,decide_eq_true_eq,List.getElem?_cons_zero,List.getElem?_cons_succ,Nat.reduceSub,Int.reduceMul,Nat.reduceBEq,Nat.reducePow,Int.reducePow,and_false,false_and,eq_self,zbO,zbD _ _ zbx,IX,lim,F_law3,g0,b1,ht,b3,h1,n_n,hK0,zca,zfX,tx3,ktx,t1,lp,g3_F__law_draw,f3_F__law_draw,e1,hK2',u_n,nx,d2,okS,l3,hput,hK3,zfQ,tx5,x3,hK4',he]
theorem law3_ok (ns : List Int) (hns : ns.length < 64) : ∃ H', ∀ n d : Nat, callF (PgC lf3 lg3) (ev (PgC lf3 lg3) (n + 1000) (d + 34)) 23880055 [.ref 0] (HI ns) = some (.bool true, H') := by
  obtain ⟨K, os, a, b, c, hp, ho, B, k0, nx, hm⟩ := mid_ok ns
  have hm := hm hns
  obtain ⟨L1, K1, I, lp⟩ := forloop (P := PgC lf3 lg3) (t := .nam 1522288389732) (body := fb 5 F_law3.body) (vs := ksB.map fun k : Nat => MV.int (k : Int)) (nx := fun j => .tup ((ksB.map fun k : Nat => MV.int (k : Int)).drop j)) (dd := 28) (c := 850) (I := I5 K ns a b c (bd (ns.take 20)) (os0.flatMap (kinds (bd (ns.take 20)))).length)
    (fun j L K _ => tup_next _ j K) (fun j L K v I hv => five_step hp ho B (bd_m _) I hv) 4 0 (LW ns a b c) K rfl ⟨⟨Nat.le_refl _, fun _ _ _ h => h⟩, [], .inl ⟨rfl, rfl⟩, rfl⟩
  obtain ⟨g, z, hz, rfl⟩ := I
  obtain ⟨v, k, na, hk, rfl, hna, hn⟩ := hz.resolve_left fun h => absurd h.1 (by show ¬ (4 = 0); decide)
  obtain rfl : 30 = k := Option.some.inj hk
  have k0' := g.get _ _ (by omega) k0
  have hL : ¬ ((0 : Nat) = K1.next) := by have := g.next; omega
  have z0 : (K1.new (.list [])).get 0 = some (.frz (ns.map .int)) := (new_ne _ _ _ hL).trans k0'
  have start : ∀ H' : MH, (∀ n d : Nat, stmts (ev (PgC lf3 lg3) (n + 1000) (d + 34)) [.ret (some (.bop false [.cmp (.loc 408345935179892) .ne (.lst []), .cmp (.sub (.loc 1539468258916) (.cst (.int 2))) .eq (.lst [.tup [.cst (.str 321), .cst (.int 2)], .tup [.cst (.str 323), .cst (.int 5)], .tup [.cst (.str 339), .cst (.int 3)], .tup [.cst (.str 322), .cst (.int 5)], .tup [.cst (.str 339), .cst (.int 3)], .tup [.cst (.str 321), .cst (.int 3)], .tup [.cst (.str 325), .cst (.int 3)]])]))] (LW ns a b c ++ [(1522288389732, v), (1539468258916, seenV (bd (ns.take 20)) (os0.flatMap (kinds (bd (ns.take 20)))).length 30 na)]) K1 = some (.ret (.bool true), LW ns a b c ++ [(1522288389732, v), (1539468258916, seenV (bd (ns.take 20)) (os0.flatMap (kinds (bd (ns.take 20)))).length 30 na)], H')) →
      ∃ H', ∀ n d : Nat, callF (PgC lf3 lg3) (ev (PgC lf3 lg3) (n + 1000) (d + 34)) 23880055 [.ref 0] (HI ns) = some (.bool true, H') := by
    intro H' e
    refine ⟨H', fun n d => ?_⟩
    have e := e n d
    have hm := hm (n + 600) (d + 24) (F_law3.body.drop 5)
    have lp := lp (n + 999) (d + 6) (by omega)
    rw [callF_ _ _ _ f3_F_law rfl rfl]
    show (stmts (ev (PgC lf3 lg3) (n + 1000) (d + 34)) F_law3.body [(408345935179892, .ref 0)] (HI ns)).bind krF = _
    have e5 : evI (PgC lf3 lg3) (ev (PgC lf3 lg3) (n + 999) (d + 34)) (.tup [.cst (.int 4), .cst (.int 9), .cst (.int 17), .cst (.int 30)]) (LW ns a b c) K = some (.tup (ksB.map fun k : Nat => MV.int (k : Int)), K) := rfl
    have f5 : (ev (PgC lf3 lg3) (n + 1000) (d + 34)).s (.for_ (.nam 1522288389732) (.tup [.cst (.int 4), .cst (.int 9), .cst (.int 17), .cst (.int 30)]) (fb 5 F_law3.body)) (LW ns a b c) K = some (.nxt, LW ns a b c ++ [(1522288389732, v), (1539468258916, seenV (bd (ns.take 20)) (os0.flatMap (kinds (bd (ns.take 20)))).length 30 na)], K1) := by
      rw [zcY, e5, zct]
      exact (if_pos rfl).trans lp
    have q : stmts (ev (PgC lf3 lg3) (n + 1000) (d + 34)) F_law3.body [(408345935179892, .ref 0)] (HI ns) = stmts (ev (PgC lf3 lg3) (n + 1000) (d + 34)) (F_law3.body.drop 5) (LW ns a b c) K := (congrArg (fun z => stmts (ev (PgC lf3 lg3) (n + 1000) (d + 34)) z [(408345935179892, .ref 0)] (HI ns)) (List.take_append_drop 5 F_law3.body).symm).trans hm
    rw [q]
    show (stmts (ev (PgC lf3 lg3) (n + 1000) (d + 34)) (.for_ (.nam 1522288389732) (.tup [.cst (.int 4), .cst (.int 9), .cst (.int 17), .cst (.int 30)]) (fb 5 F_law3.body) :: _) (LW ns a b c) K).bind krF = _
    rw [zf1, f5, zct, zbW]
    exact congrArg (Option.bind · krF) e
  by_cases hz0 : ns = []
  · have hnl : ns.length = 0 := by rw [hz0]; rfl
    have hn0 : K1.get na = some (.list [nt 321 2, nt 323 5, nt 339 3, nt 322 5, nt 339 3, nt 321 3, nt 325 3]) := by
      rw [hn, ← note0, hz0]; rfl
    obtain ⟨K2, hK2⟩ : ∃ K2, K1.new (.list []) = K2 := ⟨_, rfl⟩
    have x2 : K2.next = K1.next + 1 := hK2 ▸ rfl
    have y0 : K2.get 0 = some (.frz []) := by rw [← hK2, z0, hz0]; rfl
    have y1 : K2.get K1.next = some (.list []) := hK2 ▸ new_eq _ _
    have y2 : K2.get na = some (.list [nt 321 2, nt 323 5, nt 339 3, nt 322 5, nt 339 3, nt 321 3, nt 325 3]) := by rw [← hK2, new_ne _ _ _ (Nat.ne_of_lt hna), hn0]
    obtain ⟨K3, hK3⟩ : ∃ K3, K2.new (.list [nt 321 2, nt 323 5, nt 339 3, nt 322 5, nt 339 3, nt 321 3, nt 325 3]) = K3 := ⟨_, rfl⟩
    have w1 : K3.get na = some (.list [nt 321 2, nt 323 5, nt 339 3, nt 322 5, nt 339 3, nt 321 3, nt 325 3]) := by rw [← hK3, new_ne _ _ _ (by omega), y2]
    have w2 : K3.get (K1.next + 1) = some (.list [nt 321 2, nt 323 5, nt 339 3, nt 322 5, nt 339 3, nt 321 3, nt 325 3]) := by rw [← hK3, ← x2, new_eq]
    have hnn : ¬ (na = K1.next + 1) := by omega
    have hf : feqL (feq 6) [nt 321 2, nt 323 5, nt 339 3, nt 322 5, nt 339 3, nt 321 3, nt 325 3] [nt 321 2, nt 323 5, nt 339 3, nt 322 5, nt 339 3, nt 321 3, nt 325 3] = some true := by rfl
    refine start K3 fun n d => ?_
    simp only [nt] at hK3 w1 w2 hf
    generalize hl7 : [MV.tup [.str 321, .int 2], .tup [.str 323, .int 5], .tup [.str 339, .int 3], .tup [.str 322, .int 5], .tup [.str 339, .int 3], .tup [.str 321, .int 3], .tup [.str 325, .int 3]] = l7 at hK3 w1 w2 hf
    have h7 : l7.length ≤ 1048576 := by rw [← hl7]; decide
    simp only [zct,zcv,zcw,zcx,zcy,zcz,zcB,zcC,zbP,zcD,zcE,zcF,zcG,zbQ,zcH,zcI,zcJ,zcK,zbR,zeA,zeB,zeC,zeD,zcL,zcM,zcP,zcS,zbS,zbT,zcU,zcW,zcX,zcY,zcZ,zbU,zc0,zf0,zf1,zbW,zbX,zbZ,zeF,zeG,zc1,zc2,zb2,zb3,zb4,zb5,zc3,zc4,zeH,zeI,zeJ,zb6,zca,zcc,zcd,zce,zc7,zeN,zeO,zda,zcf,zeP,zeQ,zdb,zeR,zeT,zeU,zeV,zeW,zeX,zdd,zeY,zeZ,ze0,zde,ze1,zdf,zdg,ze2,zdh,ze3,ze4,ze5,zdi,ze6,ze7,ze8,zfa,zfb,zfc,zdl,zdm,zdn,zdo,zdp,zci,zdq,zf2,zdr,zfe,zds,zff,zfg,zfh,zfi,zfj,zfk,zdt,zdu,zdv,zfl,zfm,zdw,zfn,zdx,zfq,zfr,zf3,zbE,zaX,zae,zaY,zaZ,zbk,zbv,zax,zbl,zao,zaK,za8,zbm,za9,za0,zba,zbb,zaf,zap,zaq,zaa,zar,zaL,zbF,za1,zag,za2,za3,zbn,zbw,zay,zbo,zas,zaM,zbc,zbp,zbd,za4,zbe,zbf,zah,zbG,zbj,zcj,zck,zbx,zaS,zaW,zbH,zbI,zcl,zby,zcm,zdy,zdz,zcn,zco,zfs,zft,zdA,zdB,zdC,zfv,zfw,zfx,zfy,zfz,zdD,zdF,zdG,zdH,zfA,zdI,zdJ,zdL,zdM,zfB,zfC,zfD,zdO,zcp,zfE,zdP,zdQ,zdR,zdS,zdT,zdV,zdW,zcq,zbJ,zbK,zdX,zdY,zfF,zd2,zfG,zfJ,zfK,zd5,zd6,zd7,zd8,zd9,zfL,zfM,zfN,zfO,zfP,zeb,zec,zfQ,zed,zee,zef,zeg,zeh,zcr,zei,zej,zem,zfR,zen,zfS,zfT,zfV,zfX,zfY,zeo,zep,zer,zfZ,zes,zeu,zew,zex,zez,zbr,zam,zbs,zbt,zbM,zcs,zaT,zbN,zaG,za7,F_put_all,F_gather,F_flatten,zbu,zbB,zbC,zan,zaH,zaI,zad,zaJ,F_FlowRun_go,if_true,if_false,zf4,zf5,cond_true,cond_false,List.zip,List.zipWith,List.length_cons,List.length_nil,Option.isSome_some,Bool.false_eq_true,reduceIte,reduceCtorEq,Nat.reduceEqDiff,Nat.reduceAdd,Nat.reduceLeDiff,Int.cast_ofNat_Int,decide_true,decide_false,Bool.and_true,Bool.true_and,Bool.and_false,Bool.false_and,Int.sub_zero,Int.reduceNeg,Nat.reduceLT,and_self,and_true,true_and,Bool.false_or,Bool.or_false,Bool.true_or,Bool.or_true,Bool.not_true,Bool.not_false,Int.natAbs_neg,Int.reduceSub,Int.reduceAdd,Int.reduceToNat,Int.natAbs_zero,Int.natAbs_one,Int.reduceLT,Int.reduceLE,Int.reduceGE,Int.reduceGT,decide_eq_true_eq,List.getElem?_cons_zero,List.getElem?_cons_succ,Nat.reduceSub,Int.reduceMul,Nat.reduceBEq,Nat.reducePow,Int.reducePow,and_false,false_and,eq_self,zbO,zbD _ _ zbx,IX,lim,F_law3,LL,LW,List.cons_append,List.nil_append,hL,hK2,y0,y1,seenV,hl7,h7,hK3,x2,hnn,w1,w2,hf]
  · have hnl : ¬ (ns.length = 0) := fun h => hz0 (List.length_eq_zero_iff.mp h)
    refine start (K1.new (.list [])) fun n d => ?_
    simp only [zct,zcv,zcw,zcx,zcy,zcz,zcB,zcC,zbP,zcD,zcE,zcF,zcG,zbQ,zcH,zcI,zcJ,zcK,zbR,zeA,zeB,zeC,zeD,zcL,zcM,zcP,zcS,zbS,zbT,zcU,zcW,zcX,zcY,zcZ,zbU,zc0,zf0,zf1,zbW,zbX,zbZ,zeF,zeG,zc1,zc2,zb2,zb3,zb4,zb5,zc3,zc4,zeH,zeI,zeJ,zb6,zca,zcc,zcd,zce,zc7,zeN,zeO,zda,zcf,zeP,zeQ,zdb,zeR,zeT,zeU,zeV,zeW,zeX,zdd,zeY,zeZ,ze0,zde,ze1,zdf,zdg,ze2,zdh,ze3,ze4,ze5,zdi,ze6,ze7,ze8,zfa,zfb,zfc,zdl,zdm,zdn,zdo,zdp,zci,zdq,zf2,zdr,zfe,zds,zff,zfg,zfh,zfi,zfj,zfk,zdt,zdu,zdv,zfl,zfm,zdw,zfn,zdx,zfq,zfr,zf3,zbE,zaX,zae,zaY,zaZ,zbk,zbv,zax,zbl,zao,zaK,za8,zbm,za9,za0,zba,zbb,zaf,zap,zaq,zaa,zar,zaL,zbF,za1,zag,za2,za3,zbn,zbw,zay,zbo,zas,zaM,zbc,zbp,zbd,za4,zbe,zbf,zah,zbG,zbj,zcj,zck,zbx,zaS,zaW,zbH,zbI,zcl,zby,zcm,zdy,zdz,zcn,zco,zfs,zft,zdA,zdB,zdC,zfv,zfw,zfx,zfy,zfz,zdD,zdF,zdG,zdH,zfA,zdI,zdJ,zdL,zdM,zfB,zfC,zfD,zdO,zcp,zfE,zdP,zdQ,zdR,zdS,zdT,zdV,zdW,zcq,zbJ,zbK,zdX,zdY,zfF,zd2,zfG,zfJ,zfK,zd5,zd6,zd7,zd8,zd9,zfL,zfM,zfN,zfO,zfP,zeb,zec,zfQ,zed,zee,zef,zeg,zeh,zcr,zei,zej,zem,zfR,zen,zfS,zfT,zfV,zfX,zfY,zeo,zep,zer,zfZ,zes,zeu,zew,zex,zez,zbr,zam,zbs,zbt,zbM,zcs,zaT,zbN,zaG,za7,F_put_all,F_gather,F_flatten,zbu,zbB,zbC,zan,zaH,zaI,zad,zaJ,F_FlowRun_go,if_true,if_false,zf4,zf5,cond_true,cond_false,List.zip,List.zipWith,List.length_cons,List.length_nil,Option.isSome_some,Bool.false_eq_true,reduceIte,reduceCtorEq,Nat.reduceEqDiff,Nat.reduceAdd,Nat.reduceLeDiff,Int.cast_ofNat_Int,decide_true,decide_false,Bool.and_true,Bool.true_and,Bool.and_false,Bool.false_and,Int.sub_zero,Int.reduceNeg,Nat.reduceLT,and_self,and_true,true_and,Bool.false_or,Bool.or_false,Bool.true_or,Bool.or_true,Bool.not_true,Bool.not_false,Int.natAbs_neg,Int.reduceSub,Int.reduceAdd,Int.reduceToNat,Int.natAbs_zero,Int.natAbs_one,Int.reduceLT,Int.reduceLE,Int.reduceGE,Int.reduceGT,decide_eq_true_eq,List.getElem?_cons_zero,List.getElem?_cons_succ,Nat.reduceSub,Int.reduceMul,Nat.reduceBEq,Nat.reducePow,Int.reducePow,and_false,false_and,eq_self,zbO,zbD _ _ zbx,IX,lim,F_law3,LL,LW,List.cons_append,List.nil_append,hL,z0,new_eq,List.length_map,hnl]
noncomputable def E3 : Ev := ev (PgC lf3 lg3) 2000 40
theorem law3_true (ns : List Int) (hns : ns.length < 64) : ∃ H', callF (PgC lf3 lg3) E3 23880055 [.ref 0] (HI ns) = some (.bool true, H') := by
  obtain ⟨H', h⟩ := law3_ok ns hns
  exact ⟨H', h 1000 6⟩
end Mn.Mg
end
section
set_option maxRecDepth 100000
namespace Mn
open PySem PySem.W PyProof.Rows PySem.Calls
noncomputable def fdOf (K : Frag) (a : Addr) : Option FuncData := match K.lookup a with
  | some ⟨_, _, .func fd, _⟩ => some fd
  | _ => none
noncomputable def bodyOf (fd : FuncData) : List PySem.Stmt := match fd.body with
  | .stmts b => b
  | _ => []
noncomputable def isStmts (fd : FuncData) : Bool := match fd.body with
  | .stmts _ => true
  | _ => false
noncomputable def namesOf (fd : FuncData) : List Str := fd.params.args.map (·.arg)
noncomputable abbrev FdOk (K : Frag) (a : Addr) (fd : FuncData) : Prop :=
  codeIn K fd.code fd.qualname = true ∧ isStmts fd = true ∧ fd.closure = [] ∧ fd.globals = mainGlobals ∧ fd.builtins = builtinsNs ∧ fd.scope.isCoroutine = false ∧ fd.scope.isGenerator = false ∧ fd.scope.kind = .function ∧
    (∀ x ∈ namesOf fd, low x = true ∧ (fd.scope.names.lookup x = some .local ∨ fd.scope.names.lookup x = some .cell)) ∧ (namesOf fd).Nodup ∧ (fd.scope.names.map (·.1)).Nodup ∧ keepIn K (.ref a) = true ∧ fnIn K a = true
noncomputable def fnChk (K : Frag) (a : Addr) : Bool := match fdOf K a with
  | some fd => decide (FdOk K a fd)
  | none => false
noncomputable def trK (K : Frag) (a : Addr) : Option MF := (fdOf K a).bind fun fd => trF fd.params (bodyOf fd) fd.scope
noncomputable def BindOk (K : Frag) (a : Addr) : Prop := ∀ fd, fdOf K a = some fd → ∀ vals : List Value, vals.length = (namesOf fd).length → ∀ S, peek K S (bindArgs fd ⟨vals, []⟩) = some ((namesOf fd).zip vals)
theorem fdOf_get {K : Frag} {a : Addr} {fd : FuncData} (e : fdOf K a = some fd) : ∃ o, K.lookup a = some o ∧ o.data = .func fd := by
  unfold fdOf at e
  split at e
  · rename_i q
    injection e with e
    rw [← e]
    exact ⟨_, q, rfl⟩
  · cases e
theorem stm_of {fd : FuncData} (h : isStmts fd = true) : fd.body = .stmts (bodyOf fd) := by
  unfold isStmts at h
  unfold bodyOf
  split at h
  · rename_i q; rw [q]
  · cases h
theorem fnOk_of {K : Frag} {B : Heap} {D : Ad} {f : Nat} {F : MF} (X : K.In B) (h : fnChk K (D.fa f) = true) (t : trK K (D.fa f) = some F) (b : BindOk K (D.fa f)) :
    (∃ o fd body names, FnOk B D f F o fd body names) ∧ keepIn K (.ref (D.fa f)) = true ∧ fnIn K (D.fa f) = true := by
  refine bnd t fun fd e t => bnd t fun bd t1 t2 => ?_
  unfold fnChk at h
  rw [e] at h
  obtain ⟨h1, h2, h3, h4, h5, h6, h7, h8, h9, h10, h11, h12, h13⟩ := of_decide_eq_true h
  obtain ⟨o, q, qd⟩ := fdOf_get e
  injection t2 with t2
  exact ⟨⟨o, fd, bodyOf fd, namesOf fd, X _ _ q, qd, codeRec_of X h1, stm_of h2, h3, h4, h5, h6, h7, h8, by rw [← t2]; exact t1, by rw [← t2]; exact (List.map_map (g := code) (f := (·.arg)) (l := fd.params.args)).symm, fun x hx => low_ok (h9 x hx).1, h10, fun x hx => (h9 x hx).2, h11, fun s hk vals hv => kp_binds (X.keeps hk) (b fd e vals hv)⟩, h12, h13⟩
end Mn
end
section
set_option maxRecDepth 100000
namespace Mn
open PySem PySem.W PyProof.Rows PySem.Calls
section
variable {prog : Program} {w : World} {K : Frag} {B : Heap} {D : Ad} {P : Pg}
variable {E : Ev} {d : Nat} {A : Around} {Er : Value → Shared → Prop} {s : Shared} {adr : List Addr} {H H' : MH}
noncomputable def H0 (ns : List Int) : MH := ⟨1, fun k => if k = 0 then some (.frz (ns.map .int)) else none⟩
theorem law_entry (C : Cx prog w K s.heap D P) {N d : Nat} {f : Nat} {ns : List Int} {vals : List Value} {script : Addr} {Q : Value → Shared → Prop} (e : callF P (ev P N d) f [.ref 0] (H0 ns) = some (.bool true, H')) (hd : A.depth + 4 * d + 6 < recursionLimit) (hu : A.units + 16 * d + 110 < cLine) (hh : A.handled = none)
    (hl : s.heap.IsList script vals.toArray) (hi : IntsAre vals ns) (hQ : ∀ h' t, (∀ b o, s.heap.get? b = some o → h'.get? b = some o) → Q (.bool true) ⟨h', s.gens, s.drawn, t, s.os⟩) :
    wpAny (model prog w) A (call (.ref (D.fa f)) [.ref script]) Q Er s := by
  have S : SR prog w s.heap D [script] (H0 ns) s.heap := by
    refine ⟨fun _ _ e => e, rfl, by simp, fun k o e => ?_, fun k hk => ?_, ?_⟩
    · unfold H0 at e
      dsimp only at e
      split at e
      · rename_i q
        subst q
        injection e with e
        subst e
        exact ⟨script, rfl, .frz _ _ vals.toArray hl (ints_vrs hi)⟩
      · cases e
    · unfold H0 at hk ⊢
      dsimp only at hk ⊢
      rw [if_pos (by omega)]; rfl
    · obtain ⟨mc, ⟨o, _, _, e, _⟩, _⟩ := C.nolimit
      exact ⟨o, e⟩
  refine wpAny_call (fn_core C (sound C N d).2.2.2 e hd hu hh S (.cons (.ref 0 script rfl) .nil) fun _ _ _ adr' h' t u _ _ _ S' x => ?_)
  obtain rfl : u = .bool true := x.inv
  exact hQ h' t S'.sr.base
end
theorem lkN_mem {α : Type} {n : Nat} {v : α} : ∀ {l : List (Nat × α)}, lkN n l = some v → (n, v) ∈ l
  | [], h => by cases h
  | (k, a) :: r, h => by
    unfold lkN at h
    split at h
    · rename_i q
      cases h
      rw [Nat.eq_of_beq_eq_true q]
      exact .head _
    · exact .tail _ (lkN_mem h)
noncomputable def adOf (fa ca : List (Nat × Addr)) : Ad := ⟨fun f => (lkN f fa).getD 0, fun c => (lkN c ca).getD 0⟩
noncomputable def strsChk : List MV → List Value → Bool
  | [], [] => true
  | .str n :: vs, .str s _ :: us => low s && Nat.beq n (code s) && strsChk vs us
  | _, _ => false
theorem strs_ok {D : Ad} {h : Heap} : ∀ {vs : List MV} {us : List Value}, strsChk vs us = true → VRs D [] h vs us
  | [], [], _ => .nil
  | .str n :: vs, .str s t :: us, e => by
    unfold strsChk at e
    rw [Bool.and_eq_true, Bool.and_eq_true] at e
    exact .cons (.str s t (low_ok e.1.1) n (Nat.eq_of_beq_eq_true e.1.2)) (strs_ok e.2)
  | .str _ :: _, [], e => by cases e
  | [], _ :: _, e => by cases e
noncomputable def glbChk (K : Frag) (D : Ad) : String × MV → Bool
  | (z, .fn f) => low (Str.ofString z) && nsIn K mainGlobals (Str.ofString z) == some (some (.ref (D.fa f)))
  | (z, .cls c) => low (Str.ofString z) && nsIn K mainGlobals (Str.ofString z) == some (some (.ref (D.ca c)))
  | (z, .bi b) => low (Str.ofString z) && nsIn K mainGlobals (Str.ofString z) == some none && bootBuiltins (Str.ofString z) == some (biV b) && !(Str.ofString z == "__name__")
  | (z, .tup vs) => low (Str.ofString z) && match nsIn K mainGlobals (Str.ofString z) with
    | some (some (.ref a)) => (match K.lookup a with
      | some ⟨.type t, _, .seq ws _, _⟩ => t == "tuple" && strsChk vs ws.toList
      | _ => false)
    | _ => false
  | (z, .int i) => low (Str.ofString z) && match nsIn K mainGlobals (Str.ofString z) with
    | some (some (.int j _)) => decide (i = j)
    | _ => false
  | _ => false
theorem glb_ok {K : Frag} {B : Heap} {D : Ad} {mg mb : Str → Option Value} (X : K.In B) (g : B.Ns mainGlobals mg) (hb : ∀ x : Str, x ≠ "__name__" → mb x = bootBuiltins x) {z : String} {v : MV} (h : glbChk K D (z, v) = true) :
    low (Str.ofString z) = true ∧ ∃ u, (mg (Str.ofString z) = some u ∨ (mg (Str.ofString z) = none ∧ mb (Str.ofString z) = some u)) ∧ VR D [] B v u := by
  cases v with
  | fn f =>
    have h : (low (Str.ofString z) && nsIn K mainGlobals (Str.ofString z) == some (some (.ref (D.fa f)))) = true := h
    rw [Bool.and_eq_true] at h
    exact ⟨h.1, _, .inl (mg_of X g (beq_iff_eq.mp h.2)), .fn f⟩
  | cls c =>
    have h : (low (Str.ofString z) && nsIn K mainGlobals (Str.ofString z) == some (some (.ref (D.ca c)))) = true := h
    rw [Bool.and_eq_true] at h
    exact ⟨h.1, _, .inl (mg_of X g (beq_iff_eq.mp h.2)), .cls c⟩
  | bi b =>
    have h : (low (Str.ofString z) && nsIn K mainGlobals (Str.ofString z) == some none && bootBuiltins (Str.ofString z) == some (biV b) && !(Str.ofString z == "__name__")) = true := h
    rw [Bool.and_eq_true, Bool.and_eq_true, Bool.and_eq_true] at h
    have hn : Str.ofString z ≠ "__name__" := by simpa using h.2
    exact ⟨h.1.1.1, _, .inr ⟨mg_none_of X g (beq_iff_eq.mp h.1.1.2), (hb _ hn).trans (beq_iff_eq.mp h.1.2)⟩, .bi b _ rfl⟩
  | tup vs =>
    have h : (low (Str.ofString z) && match nsIn K mainGlobals (Str.ofString z) with
    | some (some (.ref a)) => (match K.lookup a with
      | some ⟨.type t, _, .seq ws _, _⟩ => t == "tuple" && strsChk vs ws.toList
      | _ => false)
    | _ => false) = true := h
    rw [Bool.and_eq_true] at h
    obtain ⟨h1, h2⟩ := h
    split at h2
    · rename_i a q
      split at h2
      · rename_i t dd ws n sl q2
        rw [Bool.and_eq_true] at h2
        obtain rfl : t = "tuple" := beq_iff_eq.mp h2.1
        exact ⟨h1, _, .inl (mg_of X g q), .tup vs a ws ⟨_, X _ _ q2, rfl, n, rfl⟩ (strs_ok h2.2)⟩
      · cases h2
    · cases h2
  | int i =>
    have h : (low (Str.ofString z) && match nsIn K mainGlobals (Str.ofString z) with
    | some (some (.int j _)) => decide (i = j)
    | _ => false) = true := h
    rw [Bool.and_eq_true] at h
    obtain ⟨h1, h2⟩ := h
    split at h2
    · rename_i j t q
      obtain rfl := of_decide_eq_true h2
      exact ⟨h1, _, .inl (mg_of X g q), .int i t⟩
    · cases h2
  | _ => cases h
noncomputable def clsChk (K : Frag) (D : Ad) (C : Addr) (as : List String) (ms : List (String × Nat)) : Bool :=
  makesIn K C && keepIn K (.ref C) && findIn K (.ref C) "__getattribute__" == some (some (.builtin "object.__getattribute__")) && findIn K (.ref C) "__getattr__" == some none && findIn K (.ref C) "__setattr__" == some (some (.builtin "object.__setattr__")) &&
    plainOver K C && (clsIn K C).any (·.hasDict) && as.all (fun z => low (Str.ofString z) && findIn K (.ref C) (Str.ofString z) == some none) &&
    ms.all (fun p => low (Str.ofString p.1) && findIn K (.ref C) (Str.ofString p.1) == some (some (.ref (D.fa p.2))) && typeIn K (.ref (D.fa p.2)) == some (.type "function") && !copiedNames.contains (Str.ofString p.1))
theorem cls_ok {K : Frag} {D : Ad} {P : Pg} {c : Nat} {as : List String} {ms : List (String × Nat)} (h : clsChk K D (D.ca c) as ms = true) (ha : ∀ x, P.atr c x = true → ∃ z ∈ as, x = code (Str.ofString z)) (hm : ∀ x f, P.meth c x = some f → ∃ p ∈ ms, x = code (Str.ofString p.1) ∧ f = p.2) : ClsOk K D P c := by
  unfold clsChk at h
  simp only [Bool.and_eq_true, List.all_eq_true, beq_iff_eq, Bool.not_eq_true'] at h
  obtain ⟨⟨⟨⟨⟨⟨⟨⟨h1, h2⟩, h3⟩, h4⟩, h5⟩, h6⟩, h7⟩, h8⟩, h9⟩ := h
  refine ⟨h1, h2, h3, h4, h5, h6, h7, fun z hz q => ?_, fun z f hz q => ?_⟩
  · obtain ⟨y, hy, e⟩ := ha _ q
    obtain ⟨l, r⟩ := h8 y hy
    rw [code_inj hz (low_ok l) e]
    exact r
  · obtain ⟨p, hp, e, rfl⟩ := hm _ _ q
    obtain ⟨⟨⟨l, r⟩, t⟩, n⟩ := h9 p hp
    rw [code_inj hz (low_ok l) e]
    exact ⟨r, t, n⟩
theorem lkN_map {α β : Type} (f : α → β) (n : Nat) : ∀ (l : List (Nat × α)), lkN n (l.map fun p => (p.1, f p.2)) = (lkN n l).map f
  | [] => rfl
  | (k, a) :: r => by
    rw [List.map_cons]
    unfold lkN
    cases Nat.beq k n with
    | true => rfl
    | false => exact lkN_map f n r
theorem cx_of {prog : Program} {w : World} {K : Frag} {B : Heap} {D : Ad} {mg mb : Str → Option Value} {fns : List (Nat × MF)} {glb : List (Nat × MV)} {cls : List (Nat × List Nat × List (Nat × Nat))} {gS : List (String × MV)} {cS : List (Nat × List String × List (String × Nat))}
    (X : K.In B) (g : B.Ns mainGlobals mg) (b : B.Ns builtinsNs mb) (hb : ∀ x : Str, x ≠ "__name__" → mb x = bootBuiltins x) (nl : B.NoLimit)
    (hF : ∀ p ∈ fns, fnChk K (D.fa p.1) = true ∧ trK K (D.fa p.1) = some p.2 ∧ BindOk K (D.fa p.1))
    (eG : glb = gS.map fun p => (code (Str.ofString p.1), p.2)) (hG : ∀ p ∈ gS, glbChk K D p = true)
    (eC : cls = cS.map fun p => (p.1, p.2.1.map fun z => code (Str.ofString z), p.2.2.map fun q => (code (Str.ofString q.1), q.2))) (hC : ∀ p ∈ cS, clsChk K D (D.ca p.1) p.2.1 p.2.2 = true) :
    Cx prog w K B D (pg fns glb cls) := by
  have hfn : ∀ f F, (pg fns glb cls).fns f = some F → (∃ o fd body names, FnOk B D f F o fd body names) ∧ keepIn K (.ref (D.fa f)) = true ∧ fnIn K (D.fa f) = true := fun f F e => by
    obtain ⟨h1, h2, h3⟩ := hF _ (lkN_mem e)
    exact fnOk_of X h1 h2 h3
  refine ⟨X, nl, ⟨mg, mb, g, b, fun x v ok e => ?_⟩, fun f F e => (hfn f F e).1, fun f e => ?_, fun c e => ?_⟩
  · have hm := lkN_mem e
    rw [eG] at hm
    obtain ⟨⟨z, v'⟩, hz, q⟩ := List.mem_map.mp hm
    injection q with q1 q2
    subst q2
    obtain ⟨l, u, hu, xu⟩ := glb_ok X g hb (hG _ hz)
    have hx : x = Str.ofString z := code_inj ok (low_ok l) q1.symm
    subst hx
    exact ⟨u, hu, xu⟩
  · obtain ⟨F, hF'⟩ := Option.isSome_iff_exists.mp e
    exact (hfn f F hF').2
  · have hl : ∀ c, lkN c cls = (lkN c cS).map fun p => (p.1.map fun z => code (Str.ofString z), p.2.map fun q => (code (Str.ofString q.1), q.2)) := fun c => by
      rw [eC]
      exact lkN_map (fun p : List String × List (String × Nat) => (p.1.map fun z => code (Str.ofString z), p.2.map fun q => (code (Str.ofString q.1), q.2))) c cS
    have hat : ∀ x, (pg fns glb cls).atr c x = (match lkN c cls with | some p => p.1.any (Nat.beq x) | none => false) := fun _ => rfl
    have hmt : ∀ x, (pg fns glb cls).meth c x = (match lkN c cls with | some p => lkN x p.2 | none => none) := fun _ => rfl
    cases hc : lkN c cS with
    | none =>
      exfalso
      rcases e with ⟨x, e⟩ | ⟨x, f, e⟩
      · rw [hat, hl, hc] at e; cases e
      · rw [hmt, hl, hc] at e; cases e
    | some p =>
      refine cls_ok (as := p.1) (ms := p.2) (hC _ (lkN_mem hc)) (fun x e => ?_) (fun x f e => ?_)
      · rw [hat, hl, hc] at e
        obtain ⟨y, hy, q⟩ := List.any_eq_true.mp e
        obtain ⟨z, hz, rfl⟩ := List.mem_map.mp hy
        exact ⟨z, hz, Nat.eq_of_beq_eq_true q⟩
      · rw [hmt, hl, hc] at e
        obtain ⟨q, hq, e'⟩ := List.mem_map.mp (lkN_mem e)
        injection e' with e1 e2
        exact ⟨q, hq, e1.symm, e2.symm⟩
theorem fns_ok {K : Frag} {D : Ad} {fns : List (Nat × MF)} (h1 : fns.all (fun q => fnChk K (D.fa q.1)) = true) (h2 : fns.map (fun q => trK K (D.fa q.1)) = fns.map fun q => some q.2) (hm : fns.all (fun q => decide (q.2.params.length ≤ 6)) = true)
    (hb : ∀ vals : List Value, vals.length ≤ 6 → ∀ S, (fns.filter fun q => q.2.params.length == vals.length).map (fun q => (fdOf K (D.fa q.1)).map fun fd => peek K S (bindArgs fd ⟨vals, []⟩)) = (fns.filter fun q => q.2.params.length == vals.length).map fun q => (fdOf K (D.fa q.1)).map fun fd => some ((namesOf fd).zip vals)) :
    ∀ q ∈ fns, fnChk K (D.fa q.1) = true ∧ trK K (D.fa q.1) = some q.2 ∧ BindOk K (D.fa q.1) := by
  intro q hq
  have t := List.map_inj_left.mp h2 q hq
  refine ⟨List.all_eq_true.mp h1 q hq, t, fun fd e vals hl S => ?_⟩
  have hn : q.2.params.length = vals.length := by
    have t' : trK K (D.fa q.1) = some q.2 := t
    unfold trK at t'
    rw [e] at t'
    have t' : trF fd.params (bodyOf fd) fd.scope = some q.2 := t'
    unfold trF at t'
    obtain ⟨b, _, t2⟩ := Option.bind_eq_some_iff.mp t'
    injection t2 with t2
    rw [hl, ← t2]
    simp [namesOf]
  have h6 : vals.length ≤ 6 := by
    have := List.all_eq_true.mp hm q hq
    rw [← hn]
    exact of_decide_eq_true this
  have := List.map_inj_left.mp (hb vals h6 S) q (List.mem_filter.mpr ⟨hq, by simpa using hn⟩)
  rw [e] at this
  simpa using this
end Mn
end
section
set_option maxHeartbeats 8000000
namespace Mn
set_option maxRecDepth 100000
open PySem PySem.W PyProof.Rows PySem.Calls
noncomputable def fa3 : List (Nat × Addr) := [(6013154419, 72), (27050993673148788582, 79), (194457990623467002731720290528779134031162615835562905597489545565136868464516194431661892529245385991427091357535, 262), (26550255131573645166, 276), (25827140487513861990, 283), (390831091446895, 297), (1543763096930, 350), (114632105102705455381897896805, 357), (390775174292846, 364), (11697680140813699095553617261840367871545979128954689612172222715852675943943904352908445219913983994388319, 378), (1739997520299507713011558, 392), (103711934106397804, 406), (395143239198066, 413), (100887207483827566, 434), (26547700982972641126, 441), (100327547239952247, 470), (100327547307650416, 477), (196254634976314992399582029673955626514985301736485678804054381246074043110747630893076508655770246495932903612255, 512), (196254634976314992399582029673955626514985301736485678804054381246074043110747630893076508655744927425992349348968, 519), (196254634976314992399582029673955626514985301736485678804054381246074043110747630893076508655744927425992231709797, 526), (196254634976314992399582029673955626514985301736485678804054381246074043110747630922737992600407855010891708853605, 533), (196254634976314992399582029673955626514985301736485678804054381246074043110747630893076508655744927425975253168741, 540), (196254634976314992399582029673955626514985301736485678804054381246074043110747630893076508655744927424379866933103, 554), (23880055, 597), (6482616824352480584055, 568), (1659549907034316584678504, 575), (1659549907034226339832683, 580), (108760262707399004654086021485, 585), (6482616824352731391342, 592)]
noncomputable def ca3 : List (Nat × Addr) := [(91038937668284268, 265), (5476475252, 381), (91880068406736238, 557)]
noncomputable def D3 : Ad := adOf fa3 ca3
noncomputable def gS3 : List (String × MV) := [("fits", .fn 6013154419), ("whole_of", .fn 27050993673148788582), ("put_upon", .fn 26550255131573645166), ("floor_of", .fn 25827140487513861990), ("cut_to", .fn 390831091446895), ("gosub", .fn 1543763096930), ("return_place", .fn 114632105102705455381897896805), ("chosen", .fn 390775174292846), ("put_row_of", .fn 1739997520299507713011558), ("put_all", .fn 103711934106397804), ("gather", .fn 395143239198066), ("flatten", .fn 100887207483827566), ("place_of", .fn 26547700982972641126), ("do_flow", .fn 100327547239952247), ("do_jump", .fn 100327547307650416), ("Control", .cls 91038937668284268), ("Flat", .cls 5476475252), ("FlowRun", .cls 91880068406736238), ("len", .bi .len), ("abs", .bi .abs), ("range", .bi .range), ("isinstance", .bi .isinst), ("enumerate", .bi .enum), ("dict", .bi .dict), ("list", .bi .list), ("str", .bi .tstr), ("tuple", .bi .ttup), ("JUMPS", .tup [.str 1414223777620, .str 5542071632, .str 5491348559, .str 1405785167170, .str 5625497423, .str 371932697809486]), ("MOST_NUMBER", .int 255), ("law", .fn 23880055), ("_law_draw", .fn 6482616824352480584055), ("_law_worth", .fn 1659549907034316584678504), ("_law_block", .fn 1659549907034226339832683), ("_law_program", .fn 108760262707399004654086021485), ("_law_seen", .fn 6482616824352731391342)]
noncomputable def cS3 : List (Nat × List String × List (String × Nat)) := [(91038937668284268, ["pile", "most", "failed_at"], [("__init__", 194457990623467002731720290528779134031162615835562905597489545565136868464516194431661892529245385991427091357535)]), (5476475252, ["rows", "places", "data", "pairs", "loops", "fns"], [("__init__", 11697680140813699095553617261840367871545979128954689612172222715852675943943904352908445219913983994388319)]), (91880068406736238, ["flat", "values", "worth_of", "bits", "digits", "control", "notes"], [("__init__", 196254634976314992399582029673955626514985301736485678804054381246074043110747630893076508655770246495932903612255), ("worth", 196254634976314992399582029673955626514985301736485678804054381246074043110747630893076508655744927425992349348968), ("whole", 196254634976314992399582029673955626514985301736485678804054381246074043110747630893076508655744927425992231709797), ("value_of_name", 196254634976314992399582029673955626514985301736485678804054381246074043110747630922737992600407855010891708853605), ("store", 196254634976314992399582029673955626514985301736485678804054381246074043110747630893076508655744927425975253168741), ("go", 196254634976314992399582029673955626514985301736485678804054381246074043110747630893076508655744927424379866933103)])]
theorem eG3 : cglb ++ lg3 = gS3.map fun p => (code (Str.ofString p.1), p.2) := by kernel_rfl
theorem eC3 : ccls = cS3.map fun p => (p.1, p.2.1.map fun z => code (Str.ofString z), p.2.2.map fun q => (code (Str.ofString q.1), q.2)) := by kernel_rfl
structure Chk (K : Params → Frag) : Prop where
  g : ∀ p, gS3.all (glbChk (K p) D3) = true
  c : ∀ p, cS3.all (fun q => clsChk (K p) D3 (D3.ca q.1) q.2.1 q.2.2) = true
  o : ∀ p, (cfns ++ lf3).all (fun q => fnChk (K p) (D3.fa q.1)) = true
  t : ∀ p, (cfns ++ lf3).map (fun q => trK (K p) (D3.fa q.1)) = (cfns ++ lf3).map fun q => some q.2
  b : ∀ p (vals : List Value), vals.length ≤ 6 → ∀ S, ((cfns ++ lf3).filter fun q => q.2.params.length == vals.length).map (fun q => (fdOf (K p) (D3.fa q.1)).map fun fd => peek (K p) S (bindArgs fd ⟨vals, []⟩)) = ((cfns ++ lf3).filter fun q => q.2.params.length == vals.length).map fun q => (fdOf (K p) (D3.fa q.1)).map fun fd => some ((namesOf fd).zip vals)
  l : ∀ p, nsIn (K p) mainGlobals (Str.ofString "law") = some (some (.ref (D3.fa 23880055)))
theorem Chk.cx {K : Params → Frag} (k : Chk K) {prog : Program} {w : World} {B : Heap} {mg mb : Str → Option Value} (X : (K w.params).In B) (g : B.Ns mainGlobals mg) (b : B.Ns builtinsNs mb) (hb : ∀ x : Str, x ≠ "__name__" → mb x = bootBuiltins x) (nl : B.NoLimit) : Cx prog w (K w.params) B D3 (PgC lf3 lg3) :=
  cx_of X g b hb nl (fns_ok (k.o _) (k.t _) (by decide +kernel) (k.b _)) eG3 (List.all_eq_true.mp (k.g _)) eC3 (List.all_eq_true.mp (k.c _))
theorem walk_ {V : Program} {L : List Str} {as : List Addr} {K : Params → Frag} {e : ∀ P, as = (K P).map (·.1)} {d : DefRec} (c : Chk K) (hn : d.name = Str.ofString "law") : WalkO V L (XL V []) (kHook K as e).says PySem.Challenge.rw_xm0055_03.row.toRowW d [] (fun f vs => PySem.call f vs) := by
  intro w s₀ s₁ mg mb G Y fa o pm cd doc dV kV ho hd hcd hD hmg hg args vals as hpre hlay hrd hwl hlo
  have KX := kIn_of Y
  refine Ground.open G ?_
  intro T B D TE TW
  wrow_args hpre hlay hrd hwl hlo
  rename_i ns _ _ _ _ _ _ _ script vs _ hL _ _ _ hI _ _ _
  rw [hn, mg_of KX T.g (c.l w.params)] at hmg
  injection hmg with hmg
  injection hmg with hfa
  obtain ⟨H', hH⟩ := Mg.law3_true ns (by omega)
  show wpAny (model PySem.Challenge.rw_xm0055_03.row.prog w) callerA (call (.ref fa) [.ref script]) _ _ s₁
  rw [← hfa]
  refine law_entry (c.cx KX T.g T.b T.builtins T.nolimit) hH (by decide) (by decide) rfl hL hI fun h' t hk => ?_
  exact ⟨.inl ⟨_, _, [], rfl, fun _ => rfl, ReadsW.bool true, (by first | exact postW_of (X := true) rfl rfl rfl | exact postW_of (X := true) rfl (by wtm_val) rfl), fun _ => ⟨List.nodup_nil, fun _ hm => (nomatch hm)⟩⟩, .of_keep hk, rfl, by rw [hg]; exact AllBare.empty⟩
end Mn
end
open PySem PySem.W PyProof.Rows
set_option maxRecDepth 100000
set_option maxHeartbeats 8000000
namespace Mn
theorem hd3.tw10027814384924087401 : True := trivial
theorem hd3.tw10069221448970590126 : True := trivial
theorem hd3.tw10087278861428606932 : True := trivial
theorem hd3.tw10118217492638242837 : True := trivial
theorem hd3.tw10128332470983267160 : True := trivial
theorem hd3.tw10147919485783963338 : True := trivial
theorem hd3.tw10168887588089998605 : True := trivial
theorem hd3.tw10172735471985148718 : True := trivial
theorem hd3.tw10253402381806662555 : True := trivial
theorem hd3.tw10259566408693260163 : True := trivial
theorem hd3.tw10277454509652490293 : True := trivial
theorem hd3.tw10284933616429748613 : True := trivial
theorem hd3.tw10303064022548412034 : True := trivial
theorem hd3.tw10313609455475635196 : True := trivial
theorem hd3.tw10323186624996015416 : True := trivial
theorem hd3.tw10382827008070488725 : True := trivial
theorem hd3.tw10397117329936526202 : True := trivial
theorem hd3.tw10408609281361851150 : True := trivial
theorem hd3.tw10471112148025448652 : True := trivial
theorem hd3.tw10494616938268921363 : True := trivial
theorem hd3.tw1050580955829847246 : True := trivial
theorem hd3.tw10543166342363255438 : True := trivial
theorem hd3.tw10544612572204223108 : True := trivial
theorem hd3.tw1059208518043359884 : True := trivial
theorem hd3.tw10699482850226372332 : True := trivial
theorem hd3.tw10727659740494858613 : True := trivial
theorem hd3.tw10812172627912851808 : True := trivial
theorem hd3.tw10819855261461817000 : True := trivial
theorem hd3.tw10834482472599096070 : True := trivial
theorem hd3.tw1084395039370203926 : True := trivial
theorem hd3.tw10886821034606919227 : True := trivial
theorem hd3.tw10914879244765428718 : True := trivial
theorem hd3.tw10981682849604089555 : True := trivial
theorem hd3.tw10983821021081397362 : True := trivial
theorem hd3.tw10989588323019801633 : True := trivial
theorem hd3.tw11081706322975792371 : True := trivial
theorem hd3.tw11219455681461820276 : True := trivial
theorem hd3.tw11320736113466597260 : True := trivial
theorem hd3.tw1132775121472298937 : True := trivial
theorem hd3.tw11355689679968180067 : True := trivial
theorem hd3.tw11355955540819092581 : True := trivial
theorem hd3.tw11440687037115934502 : True := trivial
theorem hd3.tw11503836089080108700 : True := trivial
theorem hd3.tw11556632121636574506 : True := trivial
theorem hd3.tw11572635738547140651 : True := trivial
theorem hd3.tw1159979036723234430 : True := trivial
theorem hd3.tw11735655906770654456 : True := trivial
theorem hd3.tw11760256636366215850 : True := trivial
theorem hd3.tw11768052300599539871 : True := trivial
theorem hd3.tw11786643863420660802 : True := trivial
theorem hd3.tw11798669172773267303 : True := trivial
theorem hd3.tw11840174448639316990 : True := trivial
theorem hd3.tw11877204411479421768 : True := trivial
theorem hd3.tw11877402453854500663 : True := trivial
theorem hd3.tw11982615433313038844 : True := trivial
theorem hd3.tw12036676673443646491 : True := trivial
theorem hd3.tw1209277185770959738 : True := trivial
theorem hd3.tw12102388730537434135 : True := trivial
theorem hd3.tw12128841530167471439 : True := trivial
theorem hd3.tw12145331640130264416 : True := trivial
theorem hd3.tw12203260890793917825 : True := trivial
theorem hd3.tw1223985891335704476 : True := trivial
theorem hd3.tw12292354486279893127 : True := trivial
theorem hd3.tw12343555467234617700 : True := trivial
theorem hd3.tw12355233270685221748 : True := trivial
theorem hd3.tw12365051655745508486 : True := trivial
theorem hd3.tw12386736858889085725 : True := trivial
theorem hd3.tw12408481190705291604 : True := trivial
theorem hd3.tw12434190845822033367 : True := trivial
theorem hd3.tw12469634338193465619 : True := trivial
theorem hd3.tw12478254159642443282 : True := trivial
theorem hd3.tw12486227374150658798 : True := trivial
theorem hd3.tw1254480111453665451 : True := trivial
theorem hd3.tw12573179549746025029 : True := trivial
theorem hd3.tw12615146623749937798 : True := trivial
theorem hd3.tw12621085930366926931 : True := trivial
theorem hd3.tw12653529070397590004 : True := trivial
theorem hd3.tw12661114508201080248 : True := trivial
theorem hd3.tw12697640778488521723 : True := trivial
theorem hd3.tw12725051426332167535 : True := trivial
theorem hd3.tw12727402801258971858 : True := trivial
theorem hd3.tw12744373017270786937 : True := trivial
theorem hd3.tw12802301960740774476 : True := trivial
theorem hd3.tw1280318680036565383 : True := trivial
theorem hd3.tw12815444261150722492 : True := trivial
theorem hd3.tw12817458998494020649 : True := trivial
theorem hd3.tw12818053342781740136 : True := trivial
theorem hd3.tw12912243799211540477 : True := trivial
theorem hd3.tw12912473290600244683 : True := trivial
theorem hd3.tw1296452155324856407 : True := trivial
theorem hd3.tw13027777516038364907 : True := trivial
theorem hd3.tw13041198081320772138 : True := trivial
theorem hd3.tw13060434154058193505 : True := trivial
theorem hd3.tw13079102246218755746 : True := trivial
theorem hd3.tw13124049947339810080 : True := trivial
theorem hd3.tw13220250504652535895 : True := trivial
theorem hd3.tw13241332047086977371 : True := trivial
theorem hd3.tw13330202853389916114 : True := trivial
theorem hd3.tw13378395989191498352 : True := trivial
theorem hd3.tw13387632190085251015 : True := trivial
theorem hd3.tw13408732000568145204 : True := trivial
theorem hd3.tw13427426978554729069 : True := trivial
theorem hd3.tw1343417330546406347 : True := trivial
theorem hd3.tw13459068930372559674 : True := trivial
theorem hd3.tw13488155731245962006 : True := trivial
theorem hd3.tw13552036901198024782 : True := trivial
theorem hd3.tw13564389547746016734 : True := trivial
theorem hd3.tw13576959747473502893 : True := trivial
theorem hd3.tw13577465130670924133 : True := trivial
theorem hd3.tw13611229508622828842 : True := trivial
theorem hd3.tw13615129167373646591 : True := trivial
theorem hd3.tw13639413303871491799 : True := trivial
theorem hd3.tw13659318862978659927 : True := trivial
theorem hd3.tw13660005015391158666 : True := trivial
theorem hd3.tw13699297554809793460 : True := trivial
theorem hd3.tw13722399316916337717 : True := trivial
theorem hd3.tw13744155889173865260 : True := trivial
theorem hd3.tw13756647249458723744 : True := trivial
theorem hd3.tw13757679143270563016 : True := trivial
theorem hd3.tw13763595169984747380 : True := trivial
theorem hd3.tw13779239185720693721 : True := trivial
theorem hd3.tw13813939795611118191 : True := trivial
theorem hd3.tw13872943897900497708 : True := trivial
theorem hd3.tw13882264886242070980 : True := trivial
theorem hd3.tw13938246606180854766 : True := trivial
theorem hd3.tw13968332463625389111 : True := trivial
theorem hd3.tw14089164123913748357 : True := trivial
theorem hd3.tw1413901660891854195 : True := trivial
theorem hd3.tw1419874547001153222 : True := trivial
theorem hd3.tw14227964840118915196 : True := trivial
theorem hd3.tw14234165325892203029 : True := trivial
theorem hd3.tw14239320302540318437 : True := trivial
theorem hd3.tw1426205573039441050 : True := trivial
theorem hd3.tw14393130819034977651 : True := trivial
theorem hd3.tw14401277013763552441 : True := trivial
theorem hd3.tw14423316166488336790 : True := trivial
theorem hd3.tw14434762819901107713 : True := trivial
theorem hd3.tw14446228323979930603 : True := trivial
theorem hd3.tw14513750637177884217 : True := trivial
theorem hd3.tw14526578571110952439 : True := trivial
theorem hd3.tw14607921305880396905 : True := trivial
theorem hd3.tw1461292578750751903 : True := trivial
theorem hd3.tw14686726243769938822 : True := trivial
theorem hd3.tw14706454970374664449 : True := trivial
theorem hd3.tw14709632398845174280 : True := trivial
theorem hd3.tw1471987140177974574 : True := trivial
theorem hd3.tw14844600028589168115 : True := trivial
theorem hd3.tw14858208247306687028 : True := trivial
theorem hd3.tw14862608010083996148 : True := trivial
theorem hd3.tw14864812227289570316 : True := trivial
theorem hd3.tw14947995159788349630 : True := trivial
theorem hd3.tw14966709349699313364 : True := trivial
theorem hd3.tw15003414731686963471 : True := trivial
theorem hd3.tw1501502172623457552 : True := trivial
theorem hd3.tw15072453086530548507 : True := trivial
theorem hd3.tw15075256086912622714 : True := trivial
theorem hd3.tw15075324796946595215 : True := trivial
theorem hd3.tw15111492809960849147 : True := trivial
theorem hd3.tw15120848634695922491 : True := trivial
theorem hd3.tw15122014621590702207 : True := trivial
theorem hd3.tw15124183385104003983 : True := trivial
theorem hd3.tw15125314431473382900 : True := trivial
theorem hd3.tw15138394180121531781 : True := trivial
theorem hd3.tw1530647147756200705 : True := trivial
theorem hd3.tw15328474300639286800 : True := trivial
theorem hd3.tw15338378860379260595 : True := trivial
theorem hd3.tw15340359061743410627 : True := trivial
theorem hd3.tw15350761273562390455 : True := trivial
theorem hd3.tw1537452243323475555 : True := trivial
theorem hd3.tw15375339124105525718 : True := trivial
theorem hd3.tw15380556306706569112 : True := trivial
theorem hd3.tw15385043931700490806 : True := trivial
theorem hd3.tw15395149372178432085 : True := trivial
theorem hd3.tw15433806203403663945 : True := trivial
theorem hd3.tw15455119379618238625 : True := trivial
theorem hd3.tw15456129424354448410 : True := trivial
theorem hd3.tw15476808627471549502 : True := trivial
theorem hd3.tw15546878872914471033 : True := trivial
theorem hd3.tw15592246886643188311 : True := trivial
theorem hd3.tw15613626627860104046 : True := trivial
theorem hd3.tw15635515291575209497 : True := trivial
theorem hd3.tw15651184480872758907 : True := trivial
theorem hd3.tw15683580703392935561 : True := trivial
theorem hd3.tw15702472172947020443 : True := trivial
theorem hd3.tw1571742216664846022 : True := trivial
theorem hd3.tw1571969464331090187 : True := trivial
theorem hd3.tw15736816053395328148 : True := trivial
theorem hd3.tw15752000184335329334 : True := trivial
theorem hd3.tw1575290435749341954 : True := trivial
theorem hd3.tw15763465361007681791 : True := trivial
theorem hd3.tw1580727460821335233 : True := trivial
theorem hd3.tw15816918155552695044 : True := trivial
theorem hd3.tw15828999545467960287 : True := trivial
theorem hd3.tw15872073578256380799 : True := trivial
theorem hd3.tw15875703041378984563 : True := trivial
theorem hd3.tw15887503572037411734 : True := trivial
theorem hd3.tw15898539388221910924 : True := trivial
theorem hd3.tw15988795794919530217 : True := trivial
theorem hd3.tw15992061499241279279 : True := trivial
theorem hd3.tw15999308926767780989 : True := trivial
theorem hd3.tw16016683332283820193 : True := trivial
theorem hd3.tw16021971426299878116 : True := trivial
theorem hd3.tw1602741347343917789 : True := trivial
theorem hd3.tw16098038352647322099 : True := trivial
theorem hd3.tw16134139744313189297 : True := trivial
theorem hd3.tw16144770589142066941 : True := trivial
theorem hd3.tw16151616304410980072 : True := trivial
theorem hd3.tw16167731988397164350 : True := trivial
theorem hd3.tw16191104456482042831 : True := trivial
theorem hd3.tw16200077841438098757 : True := trivial
theorem hd3.tw16237597707760653427 : True := trivial
theorem hd3.tw1626188374202028249 : True := trivial
theorem hd3.tw16302443558919115955 : True := trivial
theorem hd3.tw16353632471981540648 : True := trivial
theorem hd3.tw16395387312280151509 : True := trivial
theorem hd3.tw16396584530291719784 : True := trivial
theorem hd3.tw16409570263662546988 : True := trivial
theorem hd3.tw16416060416034043265 : True := trivial
theorem hd3.tw16476215369173013298 : True := trivial
theorem hd3.tw16509198060412941676 : True := trivial
theorem hd3.tw16531072991640147985 : True := trivial
theorem hd3.tw16572536524615391801 : True := trivial
theorem hd3.tw16601723010633167608 : True := trivial
theorem hd3.tw16642447464444695089 : True := trivial
theorem hd3.tw16701441685624577631 : True := trivial
theorem hd3.tw16752102008431312833 : True := trivial
theorem hd3.tw16773470201784552 : True := trivial
theorem hd3.tw16792569644367764529 : True := trivial
theorem hd3.tw16814761298471525743 : True := trivial
theorem hd3.tw16850494387622236181 : True := trivial
theorem hd3.tw16985867296758481919 : True := trivial
theorem hd3.tw16988911684691975331 : True := trivial
theorem hd3.tw16990161441233376566 : True := trivial
theorem hd3.tw17025079710333383043 : True := trivial
theorem hd3.tw17036362342277564643 : True := trivial
theorem hd3.tw17040585211578760126 : True := trivial
theorem hd3.tw17041800699230644436 : True := trivial
theorem hd3.tw17052197902883948340 : True := trivial
theorem hd3.tw17071042394995057275 : True := trivial
theorem hd3.tw17079207900177316057 : True := trivial
theorem hd3.tw17161731861871739823 : True := trivial
theorem hd3.tw17252707102408666505 : True := trivial
theorem hd3.tw17261090116689972231 : True := trivial
theorem hd3.tw17296596381286533127 : True := trivial
theorem hd3.tw1738408852286176019 : True := trivial
theorem hd3.tw17408161072296623336 : True := trivial
theorem hd3.tw1743806772916168176 : True := trivial
theorem hd3.tw17438934430868596280 : True := trivial
theorem hd3.tw17544312863102447080 : True := trivial
theorem hd3.tw17590620596596309422 : True := trivial
theorem hd3.tw1761535666635810047 : True := trivial
theorem hd3.tw17652906172103240945 : True := trivial
theorem hd3.tw17734567050803017798 : True := trivial
theorem hd3.tw17739686106442638829 : True := trivial
theorem hd3.tw1780283440725039974 : True := trivial
theorem hd3.tw17809536355011456539 : True := trivial
theorem hd3.tw17816550269159462333 : True := trivial
theorem hd3.tw17841525876483180543 : True := trivial
theorem hd3.tw17891250878007210483 : True := trivial
theorem hd3.tw17933087707347586142 : True := trivial
theorem hd3.tw1793573886872132959 : True := trivial
theorem hd3.tw17981541736055528083 : True := trivial
theorem hd3.tw17995258951730771787 : True := trivial
theorem hd3.tw18006036910116548307 : True := trivial
theorem hd3.tw18027846491556168909 : True := trivial
theorem hd3.tw18046236736846361566 : True := trivial
theorem hd3.tw18156537227022101367 : True := trivial
theorem hd3.tw18158548044208533707 : True := trivial
theorem hd3.tw18194736600008337011 : True := trivial
theorem hd3.tw18213626308972391609 : True := trivial
theorem hd3.tw18239237377869611392 : True := trivial
theorem hd3.tw18257227174470947997 : True := trivial
theorem hd3.tw18285183904246403485 : True := trivial
theorem hd3.tw18354128642562219038 : True := trivial
theorem hd3.tw18355433536654188321 : True := trivial
theorem hd3.tw1839682108847516116 : True := trivial
theorem hd3.tw18400284239574057032 : True := trivial
theorem hd3.tw18436632737984677269 : True := trivial
theorem hd3.tw1901675038137479100 : True := trivial
theorem hd3.tw1980681377535046886 : True := trivial
theorem hd3.tw2013923106777942811 : True := trivial
theorem hd3.tw2025842584484250268 : True := trivial
theorem hd3.tw2033745067932711970 : True := trivial
theorem hd3.tw2038676318592749804 : True := trivial
theorem hd3.tw2057099701925453404 : True := trivial
theorem hd3.tw2147647529252629473 : True := trivial
theorem hd3.tw2172072012997296493 : True := trivial
theorem hd3.tw2183228870930504739 : True := trivial
theorem hd3.tw2195428094162164487 : True := trivial
theorem hd3.tw2209813474386569444 : True := trivial
theorem hd3.tw2222122365815049532 : True := trivial
theorem hd3.tw2226058430594106496 : True := trivial
theorem hd3.tw2247032025608911046 : True := trivial
theorem hd3.tw2254616213569028705 : True := trivial
theorem hd3.tw2309711203051760102 : True := trivial
theorem hd3.tw2329198986798797502 : True := trivial
theorem hd3.tw238234704778064760 : True := trivial
theorem hd3.tw2407428162583238140 : True := trivial
theorem hd3.tw2461982201475952655 : True := trivial
theorem hd3.tw2474521863898979878 : True := trivial
theorem hd3.tw2488523895600265553 : True := trivial
theorem hd3.tw2502044752867586172 : True := trivial
theorem hd3.tw2525075773430989348 : True := trivial
theorem hd3.tw2546128878241694584 : True := trivial
theorem hd3.tw2606680785819284575 : True := trivial
theorem hd3.tw2614293855946926643 : True := trivial
theorem hd3.tw2700650377928283948 : True := trivial
theorem hd3.tw2721278487647656229 : True := trivial
theorem hd3.tw2743250663798832082 : True := trivial
theorem hd3.tw2810629670355401499 : True := trivial
theorem hd3.tw2816127961633803318 : True := trivial
theorem hd3.tw2852568465273994894 : True := trivial
theorem hd3.tw2936075474116375402 : True := trivial
theorem hd3.tw3009866505269974961 : True := trivial
theorem hd3.tw3023284495195690682 : True := trivial
theorem hd3.tw3029669674534745927 : True := trivial
theorem hd3.tw3040700279829998467 : True := trivial
theorem hd3.tw30483912257786249 : True := trivial
theorem hd3.tw3067355808169282634 : True := trivial
theorem hd3.tw3132776080256579436 : True := trivial
theorem hd3.tw3156135729620527557 : True := trivial
theorem hd3.tw3198788072697355202 : True := trivial
theorem hd3.tw3241580727743071937 : True := trivial
theorem hd3.tw3365576650555389876 : True := trivial
theorem hd3.tw3386171459776553961 : True := trivial
theorem hd3.tw3394658314357706760 : True := trivial
theorem hd3.tw3501718067922228541 : True := trivial
theorem hd3.tw3521932103536253694 : True := trivial
theorem hd3.tw3538031777119262739 : True := trivial
theorem hd3.tw3546310383611145375 : True := trivial
theorem hd3.tw3600131948529163298 : True := trivial
theorem hd3.tw3603498580285863218 : True := trivial
theorem hd3.tw3653830688800409310 : True := trivial
theorem hd3.tw3677386186626284612 : True := trivial
theorem hd3.tw3702574606798821978 : True := trivial
theorem hd3.tw3731173558924186058 : True := trivial
theorem hd3.tw3740682837429483657 : True := trivial
theorem hd3.tw3802829217715446086 : True := trivial
theorem hd3.tw3820646411031805814 : True := trivial
theorem hd3.tw3853053132445292163 : True := trivial
theorem hd3.tw3857856426000516614 : True := trivial
theorem hd3.tw3930332432124048140 : True := trivial
theorem hd3.tw3940337811274500898 : True := trivial
theorem hd3.tw3941499143589094233 : True := trivial
theorem hd3.tw3962322978933856413 : True := trivial
theorem hd3.tw3984739059282734947 : True := trivial
theorem hd3.tw4000693522575677881 : True := trivial
theorem hd3.tw401814018516261474 : True := trivial
theorem hd3.tw4070369128054267466 : True := trivial
theorem hd3.tw4189528523079201124 : True := trivial
theorem hd3.tw4213120838818387707 : True := trivial
theorem hd3.tw4280883693371236103 : True := trivial
theorem hd3.tw4292069895099447641 : True := trivial
theorem hd3.tw4297625649575538572 : True := trivial
theorem hd3.tw4301781278451324605 : True := trivial
theorem hd3.tw4378919247604646852 : True := trivial
theorem hd3.tw439188498130457960 : True := trivial
theorem hd3.tw440184094363877095 : True := trivial
theorem hd3.tw4418026818694566052 : True := trivial
theorem hd3.tw4479934249063023509 : True := trivial
theorem hd3.tw4536326921049349899 : True := trivial
theorem hd3.tw4583926952914360175 : True := trivial
theorem hd3.tw4603375980436181026 : True := trivial
theorem hd3.tw4627217710968200300 : True := trivial
theorem hd3.tw4723640463751076875 : True := trivial
theorem hd3.tw4758769716119301899 : True := trivial
theorem hd3.tw4765729459590292398 : True := trivial
theorem hd3.tw4767495958673038992 : True := trivial
theorem hd3.tw4793733027959968514 : True := trivial
theorem hd3.tw4801893128389374555 : True := trivial
theorem hd3.tw48125772256744920 : True := trivial
theorem hd3.tw4908362627936446245 : True := trivial
theorem hd3.tw4910311597531553074 : True := trivial
theorem hd3.tw4959471676502844281 : True := trivial
theorem hd3.tw4968999036688066141 : True := trivial
theorem hd3.tw498328254051312890 : True := trivial
theorem hd3.tw4999740153237592790 : True := trivial
theorem hd3.tw5026130274802254506 : True := trivial
theorem hd3.tw5039009502932873350 : True := trivial
theorem hd3.tw5145608776397063584 : True := trivial
theorem hd3.tw5185817018879400566 : True := trivial
theorem hd3.tw5273894518005256043 : True := trivial
theorem hd3.tw5280261881778452906 : True := trivial
theorem hd3.tw5287326273383603963 : True := trivial
theorem hd3.tw5303611829818997390 : True := trivial
theorem hd3.tw5315035876241295319 : True := trivial
theorem hd3.tw5331545061660081327 : True := trivial
theorem hd3.tw533482530231966865 : True := trivial
theorem hd3.tw5336911309858810449 : True := trivial
theorem hd3.tw5354280381519780237 : True := trivial
theorem hd3.tw5390439143321485050 : True := trivial
theorem hd3.tw5399774599502557217 : True := trivial
theorem hd3.tw5409305746891702612 : True := trivial
theorem hd3.tw5434469091873117726 : True := trivial
theorem hd3.tw5442591082012721376 : True := trivial
theorem hd3.tw5451665164372526694 : True := trivial
theorem hd3.tw5467424954224986582 : True := trivial
theorem hd3.tw5468653643449615903 : True := trivial
theorem hd3.tw5488534138021433710 : True := trivial
theorem hd3.tw5580453131162382631 : True := trivial
theorem hd3.tw5602292818647088560 : True := trivial
theorem hd3.tw5614129503538007787 : True := trivial
theorem hd3.tw564825735458875522 : True := trivial
theorem hd3.tw5656525820365522784 : True := trivial
theorem hd3.tw5690420132715979815 : True := trivial
theorem hd3.tw5748150886336366122 : True := trivial
theorem hd3.tw5793625037542120128 : True := trivial
theorem hd3.tw5799908193918764569 : True := trivial
theorem hd3.tw5887980134475195657 : True := trivial
theorem hd3.tw5897602970319966929 : True := trivial
theorem hd3.tw5905781941207422671 : True := trivial
theorem hd3.tw5979823474657279434 : True := trivial
theorem hd3.tw5992738557799358250 : True := trivial
theorem hd3.tw6040398347202362043 : True := trivial
theorem hd3.tw6077229056837128509 : True := trivial
theorem hd3.tw6096459393902701995 : True := trivial
theorem hd3.tw6117079389539829145 : True := trivial
theorem hd3.tw6153808319105100826 : True := trivial
theorem hd3.tw6167654467041167323 : True := trivial
theorem hd3.tw6226803588739935538 : True := trivial
theorem hd3.tw6255387697306094437 : True := trivial
theorem hd3.tw6264573629170721878 : True := trivial
theorem hd3.tw6264738449897272061 : True := trivial
theorem hd3.tw6314720010939907689 : True := trivial
theorem hd3.tw6352666545095605634 : True := trivial
theorem hd3.tw6353914514661549999 : True := trivial
theorem hd3.tw6357220492070908269 : True := trivial
theorem hd3.tw6454263650484882759 : True := trivial
theorem hd3.tw6455590847976756841 : True := trivial
theorem hd3.tw6489365492699376562 : True := trivial
theorem hd3.tw6517987265988555609 : True := trivial
theorem hd3.tw653087743016926736 : True := trivial
theorem hd3.tw6644311378227890364 : True := trivial
theorem hd3.tw6683515083123928083 : True := trivial
theorem hd3.tw6699026237196391871 : True := trivial
theorem hd3.tw6720131830646339146 : True := trivial
theorem hd3.tw674764361516124436 : True := trivial
theorem hd3.tw6755062760364678401 : True := trivial
theorem hd3.tw6803669086554215043 : True := trivial
theorem hd3.tw6823180321248651709 : True := trivial
theorem hd3.tw6892621028193618294 : True := trivial
theorem hd3.tw6923457969922826273 : True := trivial
theorem hd3.tw6995003879166511238 : True := trivial
theorem hd3.tw6999426016902616219 : True := trivial
theorem hd3.tw7004374343534867989 : True := trivial
theorem hd3.tw7007624074087307763 : True := trivial
theorem hd3.tw7118506906445147856 : True := trivial
theorem hd3.tw7124147584184054392 : True := trivial
theorem hd3.tw7138816043110582081 : True := trivial
theorem hd3.tw7218731870956554328 : True := trivial
theorem hd3.tw72360607233236421 : True := trivial
theorem hd3.tw7249853584711174933 : True := trivial
theorem hd3.tw7259598967675992353 : True := trivial
theorem hd3.tw7294571981539618661 : True := trivial
theorem hd3.tw7344021486017193091 : True := trivial
theorem hd3.tw7345286945605666881 : True := trivial
theorem hd3.tw7361719397230853156 : True := trivial
theorem hd3.tw7381761322379727161 : True := trivial
theorem hd3.tw7462238586338113648 : True := trivial
theorem hd3.tw7474471290868287053 : True := trivial
theorem hd3.tw7504086716864398477 : True := trivial
theorem hd3.tw7531620912225389507 : True := trivial
theorem hd3.tw7532403364723518735 : True := trivial
theorem hd3.tw7588598024704496241 : True := trivial
theorem hd3.tw7596496176943755726 : True := trivial
theorem hd3.tw7631382413255021038 : True := trivial
theorem hd3.tw7642819936570810722 : True := trivial
theorem hd3.tw7651918693508447142 : True := trivial
theorem hd3.tw773313197250447075 : True := trivial
theorem hd3.tw773587961015973765 : True := trivial
theorem hd3.tw7784126654614455588 : True := trivial
theorem hd3.tw7904541702646172130 : True := trivial
theorem hd3.tw7919079183596917117 : True := trivial
theorem hd3.tw793846428912907332 : True := trivial
theorem hd3.tw8024268863173135423 : True := trivial
theorem hd3.tw8080183676536385057 : True := trivial
theorem hd3.tw8112021611715328221 : True := trivial
theorem hd3.tw8122998752419983620 : True := trivial
theorem hd3.tw812698777026522397 : True := trivial
theorem hd3.tw8187790893043898282 : True := trivial
theorem hd3.tw8223157902389220785 : True := trivial
theorem hd3.tw8235311148195163153 : True := trivial
theorem hd3.tw8277864471762850779 : True := trivial
theorem hd3.tw8332076749913892369 : True := trivial
theorem hd3.tw8346151374319611846 : True := trivial
theorem hd3.tw8350919492724360687 : True := trivial
theorem hd3.tw836672268645475294 : True := trivial
theorem hd3.tw8378957008943478325 : True := trivial
theorem hd3.tw8438113089281653530 : True := trivial
theorem hd3.tw8442464041174017453 : True := trivial
theorem hd3.tw8445263588066032933 : True := trivial
theorem hd3.tw845730010509354435 : True := trivial
theorem hd3.tw8486814098228323277 : True := trivial
theorem hd3.tw8497238693938773706 : True := trivial
theorem hd3.tw8503283159381035653 : True := trivial
theorem hd3.tw8515027645681337283 : True := trivial
theorem hd3.tw8528025321160018968 : True := trivial
theorem hd3.tw8550980850468074502 : True := trivial
theorem hd3.tw8592277694940091516 : True := trivial
theorem hd3.tw8660865867685589226 : True := trivial
theorem hd3.tw8661781168361541148 : True := trivial
theorem hd3.tw8664769073615722700 : True := trivial
theorem hd3.tw872735726537089415 : True := trivial
theorem hd3.tw8735661018855103704 : True := trivial
theorem hd3.tw8745151392130343380 : True := trivial
theorem hd3.tw8775722659849471483 : True := trivial
theorem hd3.tw8885901215699541747 : True := trivial
theorem hd3.tw890309632659943963 : True := trivial
theorem hd3.tw8910201686360125076 : True := trivial
theorem hd3.tw8991512287020240825 : True := trivial
theorem hd3.tw9043306710675844369 : True := trivial
theorem hd3.tw9126009980104405414 : True := trivial
theorem hd3.tw9173629601849311932 : True := trivial
theorem hd3.tw919456053456016157 : True := trivial
theorem hd3.tw9216638911930493419 : True := trivial
theorem hd3.tw9276083934894230753 : True := trivial
theorem hd3.tw9300043526157960099 : True := trivial
theorem hd3.tw9313844112527141415 : True := trivial
theorem hd3.tw9364247914290430869 : True := trivial
theorem hd3.tw9369608518307686879 : True := trivial
theorem hd3.tw9443720420259175579 : True := trivial
theorem hd3.tw9448540028706865165 : True := trivial
theorem hd3.tw9476810504416234942 : True := trivial
theorem hd3.tw9484425419809797573 : True := trivial
theorem hd3.tw948452992521178829 : True := trivial
theorem hd3.tw9523121017116649737 : True := trivial
theorem hd3.tw95421197593298008 : True := trivial
theorem hd3.tw958882741619222423 : True := trivial
theorem hd3.tw9597953368345116276 : True := trivial
theorem hd3.tw967078356937073932 : True := trivial
theorem hd3.tw967618019958146247 : True := trivial
theorem hd3.tw967713169995975689 : True := trivial
theorem hd3.tw9689281118284444463 : True := trivial
theorem hd3.tw9698385805154411109 : True := trivial
theorem hd3.tw9713608218177995422 : True := trivial
theorem hd3.tw9747882973913960091 : True := trivial
theorem hd3.tw979674545304075263 : True := trivial
theorem hd3.tw9809009685608112904 : True := trivial
theorem hd3.tw9866785638975657954 : True := trivial
theorem hd3.tw9924645397348691600 : True := trivial
theorem hd3.tw9970863414406825229 : True := trivial
theorem hd3.tw9973470727446736438 : True := trivial
set_option Elab.async true in
theorem hd3 : PySem.Challenge.rw_xm0055_03.Holds := by
  w_on; o_law; k_head; (case hw => w_witness2)
  refine walk_ ⟨?_, ?_, ?_, ?_, ?_, ?_⟩ rfl
  · intro p; kernel_rfl
  · intro p; kernel_rfl
  · intro p; kernel_rfl
  · intro p; kernel_rfl
  · intro p vals h S
    rcases vals with _ | ⟨v0, _ | ⟨v1, _ | ⟨v2, _ | ⟨v3, _ | ⟨v4, _ | ⟨v5, _ | ⟨v6, r⟩⟩⟩⟩⟩⟩⟩
    all_goals first | kernel_rfl | (simp at h; omega)
  · intro p; kernel_rfl
end Mn
theorem PySem.Challenge.cw_xm0055_03_holds : PySem.Challenge.rw_xm0055_03.Holds :=
  Mn.hd3
