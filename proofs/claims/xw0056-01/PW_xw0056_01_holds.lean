import PyProof.Rows.All
import Wide.All
import OpenK.AllK
import Wide.FinOn
import KE.KxBytes
import KE.KLam
import KE.KIsBytes
import KE.KTryMore
import Lean
import PySem.Challenge.RW_xw0056_01
section
set_option genSizeOf false
set_option genInjectivity false
set_option tactic.hygienic false
set_option maxRecDepth 100000
set_option autoImplicit false
set_option bootstrap.genMatcherCode false
set_option compiler.extract_closed false
set_option linter.all false
noncomputable section
namespace Mine
section
set_option backward.match.sparseCases false
open PySem PySem.W
inductive Dat where
 | none
 | bool (b : Bool)
 | int (i : Int)
 | str (c : Nat)
 | txt (n : Nat)
 | bytes (b : List UInt8)
 | tup (ds : List Dat)
 | list (ds : List Dat)
 | obj (k : Nat)
 | hole
noncomputable def codeL (l : List Nat) : Nat := @List.rec Nat (fun _ => Nat) 0 (fun c _ n => Nat.add (Nat.succ c) (Nat.mul 1114112 n)) l
noncomputable def codeS (x : Str) : Nat := codeL x.cps.toList
noncomputable def and2 (a : Option Bool) (b : Option Bool) : Option Bool := match a with
 | some p => match b with
  | some q => match p with
   | true => some q
   | false => some false
  | none => none
 | none => none
noncomputable def or2 (a : Option Bool) (b : Option Bool) : Option Bool := match a with
 | some p => match b with
  | some q => match p with
   | true => some true
   | false => some q
  | none => none
 | none => none
noncomputable def eqL (eq : Dat → Dat → Option Bool) (a : List Dat) : List Dat → Option Bool :=
 @List.rec Dat (fun _ => List Dat → Option Bool) (fun b => match b with | [] => some true | _ :: _ => some false)
  (fun x _ ih b => match b with
   | [] => some false
   | y :: t => and2 (eq x y) (ih t)) a
noncomputable def codeB (b : List UInt8) : Nat := @List.rec UInt8 (fun _ => Nat) 0 (fun c _ n => Nat.add (Nat.succ c.toNat) (Nat.mul 1114112 n)) b
noncomputable def other (b : Dat) : Option Bool := match b with
 | .obj _ => none
 | .hole => none
 | .txt _ => none
 | .bytes _ => none
 | _ => some false
noncomputable def b01 (b : Bool) : Int := match b with | true => 1 | false => 0
noncomputable def bEq2 (x y : Bool) : Bool := match x with | true => y | false => match y with | true => false | false => true
noncomputable def eq1 (eq : Dat → Dat → Option Bool) (a b : Dat) : Option Bool := match a with
 | .str x => match b with
  | .str y => some (Nat.beq x y)
  | _ => other b
 | .tup x => match b with
  | .tup y => eqL eq x y
  | _ => other b
 | .int x => match b with
  | .int y => some (Z.eqB x y)
  | .bool y => some (Z.eqB x (b01 y))
  | _ => other b
 | .bool x => match b with
  | .bool y => some (bEq2 x y)
  | .int y => some (Z.eqB (b01 x) y)
  | _ => other b
 | .none => match b with
  | .none => some true
  | _ => other b
 | .bytes x => match b with
  | .bytes y => some (Nat.beq (codeB x) (codeB y))
  | _ => none
 | .list x => match b with
  | .list y => eqL eq x y
  | _ => other b
 | _ => none
noncomputable def eqD : Dat → Dat → Option Bool :=
 @Nat.rec (fun _ => Dat → Dat → Option Bool) (fun _ _ => none) (fun _ ih => eq1 ih) 8
noncomputable def anyEq (d : Dat) (l : List Dat) : Option Bool :=
 @List.rec Dat (fun _ => Option Bool) (some false) (fun x _ ih => or2 (eqD x d) ih) l
noncomputable def dictGet (d : Dat) (ks : List Dat) : List Dat → Option (Option Dat) :=
 @List.rec Dat (fun _ => List Dat → Option (Option Dat)) (fun _ => some none) (fun k _ ih vs => match vs with
  | [] => some none
  | v :: vs => match eqD k d with
   | some q => match q with
    | true => some (some v)
    | false => ih vs
   | none => none) ks
noncomputable def lexLt : List UInt8 → List UInt8 → Bool
 | [], [] => false
 | [], _ :: _ => true
 | _ :: _, [] => false
 | a :: r, b :: t => match Nat.beq a.toNat b.toNat with
  | true => lexLt r t
  | false => Nat.blt a.toNat b.toNat
noncomputable def lenB (d : Dat) : Option Nat := match d with
 | .str _ => some 64
 | .txt n => some n
 | _ => none
noncomputable def landZ (x y : Int) : Int := match x with
 | .ofNat a => match y with
  | .ofNat b => .ofNat (Nat.land a b)
  | .negSucc b => .ofNat (Nat.sub a (Nat.land a b))
 | .negSucc a => match y with
  | .ofNat b => .ofNat (Nat.sub b (Nat.land b a))
  | .negSucc b => .negSucc (Nat.lor a b)
noncomputable def smallI (x : Int) : Bool := match x with
 | .ofNat n => Nat.blt n 1073741824
 | .negSucc n => Nat.blt n 1073741823
noncomputable def few (x y : Nat) : Bool := Nat.ble (x + y) 4096
noncomputable def binI (op : Operator) (x y : Int) : Option Dat := match op with
 | .Add => some (.int (x + y))
 | .Sub => some (.int (x - y))
 | .Mult => match smallI x with
  | true => some (.int (x * y))
  | false => none
 | .FloorDiv => match Z.eqB y 0 with
  | true => none
  | false => match smallI y with
   | true => some (.int (Int.fdiv x y))
   | false => none
 | .Mod => match Z.eqB y 0 with
  | true => none
  | false => some (.int (Int.fmod x y))
 | .BitAnd => some (.int (landZ x y))
 | .Pow => match x with
  | .ofNat a => match Nat.beq a 2 with
   | true => match y with
    | .ofNat n => match Nat.ble n 1024 with
     | true => some (.int (.ofNat (Nat.pow 2 n)))
     | false => none
    | _ => none
   | false => none
  | _ => none
 | _ => none
noncomputable def addT (a b : Dat) : Option Dat := match lenB a with
 | some n => match lenB b with
  | some m => match Nat.ble (n + m) 4096 with
   | true => some (.txt (n + m))
   | false => none
  | none => none
 | none => none
noncomputable def appD (a b : List Dat) : List Dat := @List.rec Dat (fun _ => List Dat) b (fun d _ ih => d :: ih) a
noncomputable def takeD (n : Nat) : List Dat → List Dat := @Nat.rec (fun _ => List Dat → List Dat) (fun _ => []) (fun _ ih l => match l with | [] => [] | d :: r => d :: ih r) n
noncomputable def dropD (n : Nat) : List Dat → List Dat := @Nat.rec (fun _ => List Dat → List Dat) (fun l => l) (fun _ ih l => match l with | [] => [] | _ :: r => ih r) n
noncomputable def binD (op : Operator) (a b : Dat) : Option Dat := match a with
 | .int x => match b with
  | .int y => binI op x y
  | _ => none
 | .tup x => match b with
  | .tup y => match op with
   | .Add => match few x.length y.length with
    | true => some (.tup (appD x y))
    | false => none
   | _ => none
  | _ => none
 | .list x => match b with
  | .list y => match op with
   | .Add => match few x.length y.length with
    | true => some (.list (appD x y))
    | false => none
   | _ => none
  | _ => none
 | .bytes x => match b with
  | .bytes y => match op with
   | .Add => match few x.length y.length with
    | true => some (.bytes (x ++ y))
    | false => none
   | _ => none
  | _ => none
 | _ => match op with
  | .Add => addT a b
  | _ => none
noncomputable def isNone (a : Dat) : Option Bool := match a with
 | .none => some true
 | .hole => none
 | _ => some false
noncomputable def not? (o : Option Bool) : Option Bool := match o with
 | some q => match q with
  | true => some false
  | false => some true
 | none => none
noncomputable def inD (a b : Dat) : Option Bool := match b with
 | .tup ds => anyEq a ds
 | .list ds => anyEq a ds
 | _ => none
noncomputable def ltD (a b : Dat) : Option Bool := match a with
 | .int x => match b with
  | .int y => some (Z.ltB x y)
  | _ => none
 | .bool x => match b with
  | .bool y => some (match x with | true => false | false => y)
  | _ => none
 | .bytes x => match b with
  | .bytes y => some (lexLt x y)
  | _ => none
 | _ => none
noncomputable def leD (a b : Dat) : Option Bool := match a with
 | .int x => match b with
  | .int y => some (Z.leB x y)
  | _ => none
 | _ => none
noncomputable def geD (a b : Dat) : Option Bool := match a with
 | .int x => match b with
  | .int y => some (Z.leB y x)
  | _ => none
 | .bytes x => match b with
  | .bytes y => some (match lexLt x y with | true => false | false => true)
  | _ => none
 | _ => none
noncomputable def cmpD (op : CmpOp) (a b : Dat) : Option Bool := match op with
 | .Eq => eqD a b
 | .NotEq => not? (eqD a b)
 | .In => inD a b
 | .NotIn => not? (inD a b)
 | .Lt => ltD a b
 | .LtE => leD a b
 | .Gt => ltD b a
 | .GtE => geD a b
 | .Is => match b with
  | .none => isNone a
  | _ => none
 | _ => none
noncomputable def nth? (l : List Dat) : Nat → Option Dat :=
 @List.rec Dat (fun _ => Nat → Option Dat) (fun _ => none) (fun d _ ih n => @Nat.rec (fun _ => Option Dat) (some d) (fun k _ => ih k) n) l
noncomputable def nthD (ds : List Dat) (i : Int) : Option Dat := match i with
 | .ofNat n => match Nat.blt n 4096 with
  | true => nth? ds n
  | false => none
 | .negSucc n => match Nat.blt n 4096 with
  | true => match Nat.blt n ds.length with
   | true => nth? ds (ds.length - (n + 1))
   | false => none
  | false => none
noncomputable def subD (a i : Dat) : Option Dat := match a with
 | .tup ds => match i with
  | .int k => nthD ds k
  | _ => none
 | .list ds => match i with
  | .int k => nthD ds k
  | _ => none
 | .str x => match i with
  | .int k => match k with
   | .ofNat n => match n with
    | 0 => match Nat.beq x 0 with
     | true => none
     | false => some (.str (Nat.mod x 1114112))
    | _ => none
   | _ => none
  | _ => none
 | _ => none
noncomputable def cS (x : String) : Nat := codeS (Str.ofString x)
noncomputable def baseD (T : Dat) : Option Dat := match T with
 | .tup l => match l with
  | x :: r => match x with
   | .str c => match Nat.beq c (cS "named") with
    | false => some T
    | true => match r with
     | y :: r => match r with
      | [] => match y with
       | .str d => match Nat.beq d (cS "main.K") with
        | true => some (.tup [.str (cS "int"), .str (cS "int8")])
        | false => none
       | _ => none
      | _ :: _ => none
     | [] => none
   | _ => none
  | [] => none
 | _ => none
noncomputable def headIn (T : Dat) (l : List Nat) : Option Bool := match T with
 | .tup l' => match l' with
  | x :: _ => match x with
   | .str c => some (l.any (Nat.beq c))
   | _ => none
  | [] => none
 | _ => none
noncomputable def comparableD (T : Dat) : Option Dat := match baseD T with
 | some b => match headIn b [cS "func", cS "map", cS "slice", cS "tuple", cS "nil"] with
  | some q => match q with
   | true => some (.bool false)
   | false => match headIn b [cS "array", cS "struct"] with
    | some q => match q with
     | false => some (.bool true)
     | true => none
    | none => none
  | none => none
 | none => none
inductive Ty where | bool | bytes | int
noncomputable def Ty.name : Ty → Str | .bool => Str.ofString "bool" | .bytes => Str.ofString "bytes" | .int => Str.ofString "int"
noncomputable def isinst (T : Ty) (d : Dat) : Option Bool := match T with
 | .bool => match d with
  | .bool _ => some true
  | .int _ => some false
  | .bytes _ => some false
  | _ => none
 | .bytes => match d with
  | .bool _ => some false
  | .int _ => some false
  | .bytes _ => some true
  | _ => none
 | .int => match d with
  | .bool _ => some true
  | .int _ => some true
  | .bytes _ => some false
  | _ => none
noncomputable def absI (i : Int) : Int := match i with
 | .ofNat n => .ofNat n
 | .negSucc n => .ofNat (n + 1)
noncomputable def intsOf : List UInt8 → List Dat
 | [] => []
 | b :: r => .int (.ofNat b.toNat) :: intsOf r
noncomputable def bytesOf : List Dat → Option (List UInt8)
 | [] => some []
 | .int (.ofNat n) :: r => match Nat.blt n 256 with
  | true => match bytesOf r with
   | some l => some (UInt8.ofNat n :: l)
   | none => none
  | false => none
 | _ :: _ => none
noncomputable def trues (n : Nat) : List Dat → Option Nat
 | [] => some n
 | .bool b :: r => trues (match b with | true => n + 1 | false => n) r
 | _ :: _ => none
inductive Bi where | abs | int | max | min | len | list | bytes
noncomputable def Bi.name : Bi → Str
 | .abs => Str.ofString "abs" | .int => Str.ofString "int" | .max => Str.ofString "max" | .min => Str.ofString "min"
 | .len => Str.ofString "len" | .list => Str.ofString "list" | .bytes => Str.ofString "bytes"
noncomputable def builtinD (f : Bi) (ds : List Dat) : Option Dat := match f with
 | .abs => match ds with | [.int i] => some (.int (absI i)) | _ => none
 | .int => match ds with | [.bool b] => some (.int (match b with | true => 1 | false => 0)) | _ => none
 | .max => match ds with | [.int i, .int j] => some (.int (match Z.ltB i j with | true => j | false => i)) | _ => none
 | .min => match ds with | [.int i, .int j] => some (.int (match Z.ltB j i with | true => j | false => i)) | _ => none
 | .len => match ds with
  | [.bytes b] => match Nat.ble b.length 4096 with
   | true => some (.int (.ofNat b.length))
   | false => none
  | _ => none
 | .list => match ds with
  | [.bytes b] => match Nat.ble b.length 4096 with
   | true => some (.list (intsOf b))
   | false => none
  | _ => none
 | .bytes => match ds with
  | [.list l] => match Nat.ble l.length 4096 with
   | true => match bytesOf l with
    | some b => some (.bytes b)
    | none => none
   | false => none
  | _ => none
noncomputable def constD : Const → Option Dat
 | .none => some .none
 | .bool b => some (.bool b)
 | .int i => some (.int i)
 | .str x => some (.str (codeS x))
 | .bytes b => some (.bytes b)
 | _ => none
/-! the language of the evaluator: a term of it is read back as the model's syntax by toE, toS -/
inductive O1 where
 | tup (k : Nat) (p : Pos) | lst (p : Pos) | not (p : Pos) | neg (p : Pos) | bools (op : BoolOp) (p : Pos)
 | world (p : Pos) | isi (T : Ty) (np tp p : Pos) | bi (f : Bi) (np p : Pos) | isc (np p : Pos) | call (k : Nat) (x : Str) (np p : Pos)
 | lt (k : Nat) (x : Str) (g : Arguments) (sc : Scope) (np p lp mp cp : Pos)
 | gbits (np p : Pos) | gdflt (np p : Pos) | crng (n : Nat) (x : Str) (sc : Scope) (xp rp cp np : Pos) (nk : Nat) (p : Pos)
 | asg (i : Nat) (x : Str) (xp p : Pos) | ret (p : Pos) | exs (p : Pos) | rais (k : Nat) (x : Str) (np cp p : Pos)
inductive O2 where
 | bin (op : Operator) (p : Pos) | cmp (op : CmpOp) (p : Pos) | idx (p : Pos)
 | base (ap p : Pos) | meth (k : Nat) (x : Str) (ap p : Pos) | cnt (ap p : Pos)
 | cutTo (sp p : Pos) | cutFrom (sp p : Pos)
 | kc (k : Nat) (x : Str) (g : Arguments) (sc : Scope) (np p lp mp cp : Pos)
 | unp (k : Nat) (xp p : Pos) | rng (i : Nat) (x : Str) (n : Nat) (xp rp cp np p : Pos) (nk : Nat)
 | comp (x : Str) (sc : Scope) (xp p : Pos) | lapp (i : Nat) (x : Str) (xp lp ap np tp cp ep : Pos)
inductive O3 where
 | cmp2 (op op' : CmpOp) (p : Pos) | ite (p : Pos) | ifs (p : Pos) | for_ (i : Nat) (x : Str) (xp p : Pos)
 | compIf (x : Str) (sc : Scope) (xp p : Pos)
 | dix (dp p : Pos) | dget (dp ap p : Pos) | lets (i : Nat) (x : Str) (xp dp ap np sp cp ip : Pos)
inductive M where
 | nil
 | cons (e r : M)
 | lit (c : Const) (k : Nat) (p : Pos)
 | var (i : Nat) (x : Str) (p : Pos)
 | gl (i : Nat) (x : Str) (p : Pos)
 | u (o : O1) (a : M)
 | b (o : O2) (a b : M)
 | c (o : O3) (a b c : M)
 | raw (e : Expr)
 | rawS (s : Stmt)
mutual
noncomputable def toE : M → Expr
 | .nil => .Tuple [] 0 ⟨0, 0, 0, 0⟩
 | .cons _ _ => .Tuple [] 0 ⟨0, 0, 0, 0⟩
 | .raw e => e
 | .rawS _ => .Tuple [] 0 ⟨0, 0, 0, 0⟩
 | .lit c k p => .Constant c k p
 | .var _ x p => .Name x p
 | .gl _ x p => .Name x p
 | .u o a => match o with
  | .tup k p => .Tuple (toEs a) k p
  | .lst p => .List (toEs a) p
  | .not p => .UnaryOp .Not (toE a) p
  | .neg p => .UnaryOp .USub (toE a) p
  | .bools op p => .BoolOp op (toEs a) p
  | .world p => .Attribute (toE a) (Str.ofString "world") p
  | .isi T np tp p => .Call (.Name (Str.ofString "isinstance") np) [toE a, .Name T.name tp] [] p
  | .bi f np p => .Call (.Name f.name np) (toEs a) [] p
  | .isc np p => .Call (.Name (Str.ofString "is_comparable") np) (toEs a) [] p
  | .call _ x np p => .Call (.Name x np) (toEs a) [] p
  | .crng n x sc xp rp cp np nk p => .ListComp (toE a) [⟨.Name x xp, .Call (.Name (Str.ofString "range") rp) [.Constant (.int (.ofNat n)) nk cp] [] np, [], 0⟩] sc p
  | .gbits np p => .Subscript (.Name (Str.ofString "BITS") np) (toE a) p
  | .gdflt np p => .Subscript (.Name (Str.ofString "UNTYPED_DEFAULTS") np) (toE a) p
  | .lt _ x g sc np p lp mp cp => .Call (.Name (Str.ofString "_law_tried") np) [.Lambda g (.Call (.Name x mp) (toEs a) [] cp) sc lp] [] p
  | _ => .Tuple [] 0 ⟨0, 0, 0, 0⟩
 | .b o a b => match o with
  | .bin op p => .BinOp (toE a) op (toE b) p
  | .cmp op p => .Compare (toE a) [op] [toE b] p
  | .idx p => .Subscript (toE a) (toE b) p
  | .base ap p => .Call (.Attribute (toE a) (Str.ofString "base_of") ap) (toEs b) [] p
  | .meth _ x ap p => .Call (.Attribute (toE a) x ap) (toEs b) [] p
  | .cnt ap p => .Call (.Attribute (toE a) (Str.ofString "count") ap) (toEs b) [] p
  | .cutTo sp p => .Subscript (toE a) (.Slice none (some (toE b)) none sp) p
  | .cutFrom sp p => .Subscript (toE a) (.Slice (some (toE b)) none none sp) p
  | .kc _ x g sc np p lp mp cp => .Call (.Name (Str.ofString "known_const") np) [toE a, .Lambda g (.Call (.Name x mp) (toEs b) [] cp) sc lp] [] p
  | .comp x sc xp p => .ListComp (toE b) [⟨.Name x xp, toE a, [], 0⟩] sc p
  | _ => .Tuple [] 0 ⟨0, 0, 0, 0⟩
 | .c o a b c => match o with
  | .cmp2 op op' p => .Compare (toE a) [op, op'] [toE b, toE c] p
  | .ite p => .IfExp (toE a) (toE b) (toE c) p
  | .compIf x sc xp p => .ListComp (toE c) [⟨.Name x xp, toE a, [toE b], 0⟩] sc p
  | .dix dp p => .Subscript (.Dict ((toEs a).map some) (toEs b) dp) (toE c) p
  | .dget dp ap p => .Call (.Attribute (.Dict ((toEs a).map some) (toEs b) dp) (Str.ofString "get") ap) [toE c] [] p
  | _ => .Tuple [] 0 ⟨0, 0, 0, 0⟩
noncomputable def toEs : M → List Expr
 | .cons e r => toE e :: toEs r
 | _ => []
end
mutual
noncomputable def toS : M → List Stmt
 | .u o a => match o with
  | .asg _ x xp p => [.Assign [.Name x xp] (toE a) p]
  | .ret p => [.Return (some (toE a)) p]
  | .exs p => [.Expr (toE a) p]
  | .rais _ x np cp p => [.Raise (some (.Call (.Name x np) (toEs a) [] cp)) none p]
  | _ => []
 | .b o a b => match o with
  | .lapp _ x xp lp ap np tp cp ep => [.Assign [.Name x xp] (.List (toEs a) lp) ap, .Expr (.Call (.Attribute (.Name x np) (Str.ofString "append") tp) [toE b] [] cp) ep]
  | .unp k xp p => [.Assign [.Tuple (toEs a) k xp] (toE b) p]
  | .rng _ x n xp rp cp np p nk => [.For (.Name x xp) (.Call (.Name (Str.ofString "range") rp) [.Constant (.int (.ofNat n)) nk cp] [] np) (toSs a) [] p]
  | _ => []
 | .c o a b c => match o with
  | .ifs p => [.If (toE a) (toSs b) (toSs c) p]
  | .for_ _ x xp p => [.For (.Name x xp) (toE a) (toSs b) [] p]
  | .lets _ x xp dp ap np sp cp ip => match c with
   | .cons u v => match v with
    | .cons k w => [.Assign [.Name x xp] (.Dict ((toEs a).map some) (toEs b) dp) ap, .If (.Compare (toE u) [.NotIn] [.Subscript (.Name x np) (toE k) sp] cp) (toSs w) [] ip]
    | _ => []
   | _ => []
  | _ => []
 | .rawS s => [s]
 | _ => []
noncomputable def toSs : M → List Stmt
 | .cons s r => toS s ++ toSs r
 | _ => []
end
structure Fn where
 name : Str
 np : Nat
 slots : List Str
 body : M
 dflts : List Dat
 rest : List Dat
inductive Fl where
 | next
 | ret (d : Dat)
inductive Out where
 | val (d : Dat)
 | vals (ds : List Dat)
 | test (b : Bool)
 | flow (ρ : List Dat) (f : Fl)
 | err (c : Nat) (spot : Dat)
inductive Task where
 | ex (m : M)
 | exs (m : M)
 | test (m : M)
 | st (m : M)
 | sts (m : M)
 | call (k : Nat) (ds : List Dat)
 | meth (k : Nat) (ds : List Dat)
 | loop (i : Nat) (ds : List Dat) (body : M)
structure Tabs where
 fns : Nat → Fn
 meths : Nat → Fn
 consts : Nat → Dat
noncomputable def nth (l : List Dat) : Nat → Dat :=
 @List.rec Dat (fun _ => Nat → Dat) (fun _ => .hole) (fun d _ ih n => @Nat.rec (fun _ => Dat) d (fun k _ => ih k) n) l
noncomputable def putN (d : Dat) (i : Nat) : List Dat → List Dat :=
 @Nat.rec (fun _ => List Dat → List Dat) (fun l => match l with | [] => [] | _ :: r => d :: r) (fun _ ih l => match l with | [] => [] | x :: r => x :: ih r) i
noncomputable abbrev Run := Task → List Dat → Option Out
noncomputable def forceL (l : List Dat) : (List Dat → Option Out) → Option Out :=
 @List.rec Dat (fun _ => (List Dat → Option Out) → Option Out) (fun k => k []) (fun d _ ih k => ih fun r => k (d :: r)) l
noncomputable def forceB (b : Bool) : (Bool → Option Out) → Option Out := @Bool.rec (fun _ => (Bool → Option Out) → Option Out) (fun k => k false) (fun k => k true) b
noncomputable def forceI (i : Int) : (Dat → Option Out) → Option Out := @Int.rec (fun _ => (Dat → Option Out) → Option Out) (fun n k => k (.int (.ofNat n))) (fun n k => k (.int (.negSucc n))) i
noncomputable def forceD (d : Dat) : (Dat → Option Out) → Option Out :=
 @Dat.rec (fun _ => (Dat → Option Out) → Option Out) (fun _ => Unit) (fun k => k .none) (fun b k => forceB b fun b => k (.bool b)) forceI (fun c k => k (.str c)) (fun n k => k (.txt n)) (fun b k => k (.bytes b)) (fun l _ k => forceL l fun l => k (.tup l)) (fun l _ k => forceL l fun l => k (.list l)) (fun n k => k (.obj n)) (fun _ => none) () (fun _ _ _ _ => ()) d
noncomputable def andO1 (o : Out) : (Dat → Option Out) → Option Out :=
 @Out.rec (fun _ => (Dat → Option Out) → Option Out) forceD (fun _ _ => none) (fun _ _ => none) (fun _ _ _ => none) (fun c p _ => some (.err c p)) o
noncomputable def andO (o : Option Out) : (Dat → Option Out) → Option Out := @Option.rec Out (fun _ => (Dat → Option Out) → Option Out) (fun _ => none) andO1 o
noncomputable def andT1 (o : Out) : (Bool → Option Out) → Option Out :=
 @Out.rec (fun _ => (Bool → Option Out) → Option Out) (fun _ _ => none) (fun _ _ => none) forceB (fun _ _ _ => none) (fun c p _ => some (.err c p)) o
noncomputable def andT (o : Option Out) : (Bool → Option Out) → Option Out := @Option.rec Out (fun _ => (Bool → Option Out) → Option Out) (fun _ => none) andT1 o
noncomputable def andS1 (o : Out) : (List Dat → Option Out) → Option Out :=
 @Out.rec (fun _ => (List Dat → Option Out) → Option Out) (fun _ _ => none) (fun ds k => k ds) (fun _ _ => none) (fun _ _ _ => none) (fun c p _ => some (.err c p)) o
noncomputable def andS (o : Option Out) : (List Dat → Option Out) → Option Out := @Option.rec Out (fun _ => (List Dat → Option Out) → Option Out) (fun _ => none) andS1 o
noncomputable def val? (o : Option Dat) : Option Out := @Option.rec Dat (fun _ => Option Out) none (fun d => some (.val d)) o
noncomputable def bool? (o : Option Bool) : Option Out := @Option.rec Bool (fun _ => Option Out) none (fun b => some (.val (.bool b))) o
noncomputable def pureO1 (o : Out) : (Dat → Option Out) → Option Out :=
 @Out.rec (fun _ => (Dat → Option Out) → Option Out) forceD (fun _ _ => none) (fun _ _ => none) (fun _ _ _ => none) (fun _ _ _ => none) o
noncomputable def pureO (o : Option Out) : (Dat → Option Out) → Option Out := @Option.rec Out (fun _ => (Dat → Option Out) → Option Out) (fun _ => none) pureO1 o
noncomputable def pureT1 (o : Out) : (Bool → Option Out) → Option Out :=
 @Out.rec (fun _ => (Bool → Option Out) → Option Out) (fun _ _ => none) (fun _ _ => none) forceB (fun _ _ _ => none) (fun _ _ _ => none) o
noncomputable def pureT (o : Option Out) : (Bool → Option Out) → Option Out := @Option.rec Out (fun _ => (Bool → Option Out) → Option Out) (fun _ => none) pureT1 o
noncomputable def flowK1 (o : Out) : (List Dat → Fl → Option Out) → Option Out :=
 @Out.rec (fun _ => (List Dat → Fl → Option Out) → Option Out) (fun _ _ => none) (fun _ _ => none) (fun _ _ => none) (fun ρ f k => k ρ f) (fun c p _ => some (.err c p)) o
noncomputable def flowK (o : Option Out) : (List Dat → Fl → Option Out) → Option Out := @Option.rec Out (fun _ => (List Dat → Fl → Option Out) → Option Out) (fun _ => none) flowK1 o
noncomputable def pureF1 (o : Out) : (List Dat → Fl → Option Out) → Option Out :=
 @Out.rec (fun _ => (List Dat → Fl → Option Out) → Option Out) (fun _ _ => none) (fun _ _ => none) (fun _ _ => none) (fun ρ f k => k ρ f) (fun _ _ _ => none) o
noncomputable def pureF (o : Option Out) : (List Dat → Fl → Option Out) → Option Out := @Option.rec Out (fun _ => (List Dat → Fl → Option Out) → Option Out) (fun _ => none) pureF1 o
noncomputable def onFl (f : Fl) : Option Out → (Dat → Option Out) → Option Out := @Fl.rec (fun _ => Option Out → (Dat → Option Out) → Option Out) (fun a _ => a) (fun d _ k => k d) f
noncomputable def metK1 (o : Out) : (Nat → Dat → Option Out) → Option Out :=
 @Out.rec (fun _ => (Nat → Dat → Option Out) → Option Out) (fun d _ => some (.val d)) (fun _ _ => none) (fun _ _ => none) (fun _ _ _ => none) (fun c p k => k c p) o
noncomputable def metK (o : Option Out) : (Nat → Dat → Option Out) → Option Out := @Option.rec Out (fun _ => (Nat → Dat → Option Out) → Option Out) (fun _ => none) metK1 o
noncomputable def iteO (b : Bool) (x y : Option Out) : Option Out := @Bool.rec (fun _ => Option Out) y x b
noncomputable def noList (d : Dat) : Bool :=
 @Dat.rec (fun _ => Bool) (fun _ => Bool) true (fun _ => true) (fun _ => true) (fun _ => true) (fun _ => true) (fun _ => true) (fun _ ih => ih) (fun _ _ => false) (fun _ => true) false true (fun _ _ a b => @Bool.rec (fun _ => Bool) false b a) d
noncomputable def compR (run : Run) (ρ : List Dat) (elt : M) (ds : List Dat) : List Dat → Option Out :=
 @List.rec Dat (fun _ => List Dat → Option Out) (fun acc => some (.val (.list acc)))
  (fun d _ ih acc => forceL (appD ρ [d]) fun ρ' => pureO (run (.ex elt) ρ') fun v => iteO (noList v) (forceL (appD acc [v]) ih) none) ds
noncomputable def compIfR (run : Run) (ρ : List Dat) (c elt : M) (ds : List Dat) : List Dat → Option Out :=
 @List.rec Dat (fun _ => List Dat → Option Out) (fun acc => some (.val (.list acc)))
  (fun d _ ih acc => forceL (appD ρ [d]) fun ρ' => pureT (run (.test c) ρ') fun q => match q with
   | true => pureO (run (.ex elt) ρ') fun v => iteO (noList v) (forceL (appD acc [v]) ih) none
   | false => ih acc) ds
noncomputable def putAll (ds : List Dat) (m : M) : List Dat → Option (List Dat) :=
 @List.rec Dat (fun _ => M → List Dat → Option (List Dat)) (fun m ρ => match m with | .nil => some ρ | _ => none)
  (fun d _ ih m ρ => match m with
   | .cons v r => match v with
    | .var i _ _ => ih r (putN d i ρ)
    | _ => none
   | _ => none) ds m
noncomputable def rangeD (n : Nat) : Nat → List Dat :=
 @Nat.rec (fun _ => Nat → List Dat) (fun _ => []) (fun _ ih k => .int (.ofNat k) :: ih (k + 1)) n
noncomputable def holes (n : Nat) : List Dat := @Nat.rec (fun _ => List Dat) [] (fun _ ih => .hole :: ih) n
noncomputable def consO (d : Dat) (o : Option (List Dat)) : Option (List Dat) := @Option.rec (List Dat) (fun _ => Option (List Dat)) none (fun l => some (d :: l)) o
noncomputable def dflR (f : Fn) (n : Nat) : Option (List Dat) := match Nat.ble n f.dflts.length with
 | true => some (appD (f.dflts.drop (f.dflts.length - n)) f.rest)
 | false => none
noncomputable def bindR (f : Fn) (ds : List Dat) : Nat → Option (List Dat) :=
 @List.rec Dat (fun _ => Nat → Option (List Dat)) (fun n => @Nat.rec (fun _ => Option (List Dat)) (some f.rest) (fun k _ => dflR f (k + 1)) n)
  (fun d _ ih n => @Nat.rec (fun _ => Option (List Dat)) none (fun k _ => consO d (ih k)) n) ds
noncomputable def bindD (f : Fn) (ds : List Dat) : Option (List Dat) := bindR f ds f.np
noncomputable abbrev R1 := Run → List Dat → M → Option Out
noncomputable abbrev R2 := Run → List Dat → M → M → Option Out
noncomputable abbrev R3 := Run → List Dat → M → M → M → Option Out
noncomputable def uTup : R1 := fun run ρ a => andS (run (.exs a) ρ) fun ds => some (.val (.tup ds))
noncomputable def uLst : R1 := fun run ρ a => andS (run (.exs a) ρ) fun ds => some (.val (.list ds))
noncomputable def onBool (d : Dat) : (Bool → Option Out) → Option Out :=
 @Dat.rec (fun _ => (Bool → Option Out) → Option Out) (fun _ => Unit) (fun _ => none) (fun b k => k b) (fun _ _ => none) (fun _ _ => none) (fun _ _ => none) (fun _ _ => none) (fun _ _ _ => none) (fun _ _ _ => none) (fun _ _ => none) (fun _ => none) () (fun _ _ _ _ => ()) d
noncomputable def onInt (d : Dat) : (Int → Option Out) → Option Out :=
 @Dat.rec (fun _ => (Int → Option Out) → Option Out) (fun _ => Unit) (fun _ => none) (fun _ _ => none) (fun i k => k i) (fun _ _ => none) (fun _ _ => none) (fun _ _ => none) (fun _ _ _ => none) (fun _ _ _ => none) (fun _ _ => none) (fun _ => none) () (fun _ _ _ _ => ()) d
noncomputable def onTup (d : Dat) : (List Dat → Option Out) → Option Out :=
 @Dat.rec (fun _ => (List Dat → Option Out) → Option Out) (fun _ => Unit) (fun _ => none) (fun _ _ => none) (fun _ _ => none) (fun _ _ => none) (fun _ _ => none) (fun _ _ => none) (fun l _ k => k l) (fun _ _ _ => none) (fun _ _ => none) (fun _ => none) () (fun _ _ _ _ => ()) d
noncomputable def onSeq (d : Dat) : (List Dat → Option Out) → Option Out :=
 @Dat.rec (fun _ => (List Dat → Option Out) → Option Out) (fun _ => Unit) (fun _ => none) (fun _ _ => none) (fun _ _ => none) (fun _ _ => none) (fun _ _ => none) (fun _ _ => none) (fun l _ k => k l) (fun l _ k => k l) (fun _ _ => none) (fun _ => none) () (fun _ _ _ _ => ()) d
noncomputable def onObj (d : Dat) : (Nat → Option Out) → Option Out :=
 @Dat.rec (fun _ => (Nat → Option Out) → Option Out) (fun _ => Unit) (fun _ => none) (fun _ _ => none) (fun _ _ => none) (fun _ _ => none) (fun _ _ => none) (fun _ _ => none) (fun _ _ _ => none) (fun _ _ _ => none) (fun n k => k n) (fun _ => none) () (fun _ _ _ _ => ()) d
noncomputable def onNone (d : Dat) : Option Out → Option Out :=
 @Dat.rec (fun _ => Option Out → Option Out) (fun _ => Unit) (fun x => x) (fun _ _ => none) (fun _ _ => none) (fun _ _ => none) (fun _ _ => none) (fun _ _ => none) (fun _ _ _ => none) (fun _ _ _ => none) (fun _ _ => none) (fun _ => none) () (fun _ _ _ _ => ()) d
noncomputable def notB (b : Bool) : Option Out := iteO b (some (.val (.bool false))) (some (.val (.bool true)))
noncomputable def uNot : R1 := fun run ρ a => andO (run (.ex a) ρ) fun d => onBool d notB
noncomputable def uNeg : R1 := fun run ρ a => andO (run (.ex a) ρ) fun d => onInt d fun i => some (.val (.int (-i)))
noncomputable def two (a : M) (k : M → M → Option Out) : Option Out := match a with
 | .cons x r => match r with
  | .cons y r => match r with
   | .nil => k x y
   | _ => none
  | _ => none
 | _ => none
noncomputable def uAnd : R1 := fun run ρ a => two a fun x y => andO (run (.ex x) ρ) fun d => onBool d fun q => iteO q (run (.ex y) ρ) (some (.val (.bool false)))
noncomputable def uOr : R1 := fun run ρ a => two a fun x y => andO (run (.ex x) ρ) fun d => onBool d fun q => iteO q (some (.val (.bool true))) (run (.ex y) ρ)
noncomputable def uBools (op : BoolOp) : R1 := @BoolOp.rec (fun _ => R1) uAnd uOr op
noncomputable def isZero (k : Nat) (x : Option Out) : Option Out := iteO (Nat.beq k 0) x none
noncomputable def uWorld : R1 := fun run ρ a => andO (run (.ex a) ρ) fun d => onObj d fun k => isZero k (some (.val (.obj 1)))
noncomputable def uIsi (T : Ty) : R1 := fun run ρ a => andO (run (.ex a) ρ) fun d => bool? (isinst T d)
noncomputable def uBi (f : Bi) : R1 := fun run ρ a => andS (run (.exs a) ρ) fun ds => val? (builtinD f ds)
noncomputable def iscR (ds : List Dat) : Option Out := match ds with
 | [.obj k, T] => iteO (Nat.beq k 1) (val? (comparableD T)) none
 | _ => none
noncomputable def uIsc : R1 := fun run ρ a => andS (run (.exs a) ρ) iscR
noncomputable def uCall (k : Nat) : R1 := fun run ρ a => andS (run (.exs a) ρ) fun ds => run (.call k ds) ρ
noncomputable def ltR (c : Nat) (p : Dat) : Option Out := match c with
 | 0 => some (.val (.tup [.str (cS "const fault"), p]))
 | 1 => some (.val (.tup [.str (cS "type fault"), p]))
 | 2 => some (.val (.tup [.str (cS "const fault"), p]))
 | _ => none
noncomputable def uLt (k : Nat) (x : Str) (mp cp : Pos) : R1 := fun run ρ a => metK (run (.ex (.u (.call k x mp cp) a)) ρ) ltR
noncomputable def tabGet (k : Dat) (ks vs : List Dat) : Option (Option Dat) := match k with
 | .str _ => dictGet k ks vs
 | _ => none
noncomputable def look (k : Dat) (ks vs : List Dat) : Option Out := match tabGet k ks vs with
 | some o => val? o
 | none => none
noncomputable def bitsKs : List Dat := [.str (cS "int"), .str (cS "int8"), .str (cS "int16"), .str (cS "int32"), .str (cS "int64"), .str (cS "uint"), .str (cS "uint8"), .str (cS "uint16"), .str (cS "uint32"), .str (cS "uint64")]
noncomputable def bitsVs : List Dat := [.int 64, .int 8, .int 16, .int 32, .int 64, .int 64, .int 8, .int 16, .int 32, .int 64]
noncomputable def dfltKs : List Dat := [.str (cS "bool"), .str (cS "int"), .str (cS "rune"), .str (cS "string")]
noncomputable def dfltVs : List Dat := [.tup [.str (cS "bool")], .tup [.str (cS "int"), .str (cS "int")], .tup [.str (cS "int"), .str (cS "int32")], .tup [.str (cS "string")]]
noncomputable def uGb : R1 := fun run ρ a => andO (run (.ex a) ρ) fun k => look k bitsKs bitsVs
noncomputable def uGd : R1 := fun run ρ a => andO (run (.ex a) ρ) fun k => look k dfltKs dfltVs
noncomputable def uNo : R1 := fun _ _ _ => none
noncomputable def uCrng (n : Nat) : R1 := fun run ρ a => compR run ρ a (rangeD n 0) []
noncomputable def unF (o : O1) : R1 :=
 @O1.rec (fun _ => R1) (fun _ _ => uTup) (fun _ => uLst) (fun _ => uNot) (fun _ => uNeg) (fun op _ => uBools op) (fun _ => uWorld) (fun T _ _ _ => uIsi T) (fun f _ _ => uBi f) (fun _ _ => uIsc) (fun k _ _ _ => uCall k)
  (fun k x _ _ _ _ _ mp cp => uLt k x mp cp) (fun _ _ => uGb) (fun _ _ => uGd) (fun n _ _ _ _ _ _ _ _ => uCrng n) (fun _ _ _ _ => uNo) (fun _ => uNo) (fun _ => uNo) (fun _ _ _ _ _ => uNo) o
noncomputable def dBin (op : Operator) : R2 := fun run ρ a b => andO (run (.ex a) ρ) fun x => andO (run (.ex b) ρ) fun y => val? (binD op x y)
noncomputable def dCmp (op : CmpOp) : R2 := fun run ρ a b => andO (run (.ex a) ρ) fun x => andO (run (.ex b) ρ) fun y => bool? (cmpD op x y)
noncomputable def dIdx : R2 := fun run ρ a b => andO (run (.ex a) ρ) fun x => andO (run (.ex b) ρ) fun y => val? (subD x y)
noncomputable def one (ds : List Dat) (k : Dat → Option Out) : Option Out := match ds with
 | [d] => k d
 | _ => none
noncomputable def dBase : R2 := fun run ρ a b => andO (run (.ex a) ρ) fun x => onObj x fun k => iteO (Nat.beq k 1) (andS (run (.exs b) ρ) fun ds => one ds fun T => val? (baseD T)) none
noncomputable def dMeth (m : Nat) : R2 := fun run ρ a b => andO (run (.ex a) ρ) fun x => onObj x fun k => isZero k (andS (run (.exs b) ρ) fun ds => run (.meth m (.obj 0 :: ds)) ρ)
noncomputable def cntR (l : List Dat) (y : Dat) : Option Out := match y with
 | .bool b => match b with
  | true => match trues 0 l with
   | some n => some (.val (.int (.ofNat n)))
   | none => none
  | false => none
 | _ => none
noncomputable def onList (d : Dat) : (List Dat → Option Out) → Option Out :=
 @Dat.rec (fun _ => (List Dat → Option Out) → Option Out) (fun _ => Unit) (fun _ => none) (fun _ _ => none) (fun _ _ => none) (fun _ _ => none) (fun _ _ => none) (fun _ _ => none) (fun _ _ _ => none) (fun l _ k => k l) (fun _ _ => none) (fun _ => none) () (fun _ _ _ _ => ()) d
noncomputable def dCnt : R2 := fun run ρ a b => andO (run (.ex a) ρ) fun x => onList x fun l => andS (run (.exs b) ρ) fun ds => one ds (cntR l)
noncomputable def onNat (i : Int) (k : Nat → Option Out) : Option Out := match i with
 | .ofNat n => k n
 | .negSucc _ => none
noncomputable def cutOk (n m : Nat) : Bool := match n with
 | 0 => false
 | _ => match Nat.blt n m with
  | true => Nat.ble m 4096
  | false => false
noncomputable def dCutTo : R2 := fun run ρ a b => andO (run (.ex a) ρ) fun x => andO (run (.ex b) ρ) fun y => onTup x fun ds => onInt y fun i => onNat i fun n => iteO (cutOk n ds.length) (some (.val (.tup (takeD n ds)))) none
noncomputable def dCutFrom : R2 := fun run ρ a b => andO (run (.ex a) ρ) fun x => andO (run (.ex b) ρ) fun y => onTup x fun ds => onInt y fun i => onNat i fun n => iteO (cutOk n ds.length) (some (.val (.tup (dropD n ds)))) none
noncomputable def dKc (k : Nat) (x : Str) (mp cp : Pos) : R2 := fun run ρ a b => andO (run (.ex a) ρ) fun spot => metK (run (.ex (.u (.call k x mp cp) b)) ρ) fun c _ => isZero c (some (.err 2 spot))
noncomputable def dComp : R2 := fun run ρ a b => andO (run (.ex a) ρ) fun d => onSeq d fun ds => iteO (Nat.ble ds.length 4096) (compR run ρ b ds []) none
noncomputable def dNo : R2 := fun _ _ _ _ => none
noncomputable def duF (o : O2) : R2 :=
 @O2.rec (fun _ => R2) (fun op _ => dBin op) (fun op _ => dCmp op) (fun _ => dIdx) (fun _ _ => dBase) (fun k _ _ _ => dMeth k) (fun _ _ => dCnt) (fun _ _ => dCutTo) (fun _ _ => dCutFrom)
  (fun k x _ _ _ _ _ mp cp => dKc k x mp cp) (fun _ _ _ => dNo) (fun _ _ _ _ _ _ _ _ _ => dNo) (fun _ _ _ _ => dComp) (fun _ _ _ _ _ _ _ _ _ => dNo) o
noncomputable def tCmp2 (op op' : CmpOp) : R3 := fun run ρ a b c => andO (run (.ex a) ρ) fun x => andO (run (.ex b) ρ) fun y => @Option.rec Bool (fun _ => Option Out) none
 (fun q => iteO q (andO (run (.ex c) ρ) fun z => bool? (cmpD op' y z)) (some (.val (.bool false)))) (cmpD op x y)
noncomputable def tIte : R3 := fun run ρ a b c => andT (run (.test a) ρ) fun q => iteO q (run (.ex b) ρ) (run (.ex c) ρ)
noncomputable def tCompIf : R3 := fun run ρ a b c => andO (run (.ex a) ρ) fun d => onSeq d fun ds => iteO (Nat.ble ds.length 4096) (compIfR run ρ b c ds []) none
noncomputable def tNo : R3 := fun _ _ _ _ _ => none
noncomputable def pureS1 (o : Out) : (List Dat → Option Out) → Option Out :=
 @Out.rec (fun _ => (List Dat → Option Out) → Option Out) (fun _ _ => none) (fun ds k => k ds) (fun _ _ => none) (fun _ _ _ => none) (fun _ _ _ => none) o
noncomputable def pureS (o : Option Out) : (List Dat → Option Out) → Option Out := @Option.rec Out (fun _ => (List Dat → Option Out) → Option Out) (fun _ => none) pureS1 o
noncomputable def getR (k : Dat) (ks vs : List Dat) : Option Out := match tabGet k ks vs with
 | some o => match o with
  | some v => some (.val v)
  | none => some (.val .none)
 | none => none
noncomputable def tDix : R3 := fun run ρ a b c => pureS (run (.exs a) ρ) fun ks => pureS (run (.exs b) ρ) fun vs => pureO (run (.ex c) ρ) fun k => look k ks vs
noncomputable def tDget : R3 := fun run ρ a b c => pureS (run (.exs a) ρ) fun ks => pureS (run (.exs b) ρ) fun vs => pureO (run (.ex c) ρ) fun k => getR k ks vs
noncomputable def triF (o : O3) : R3 := @O3.rec (fun _ => R3) (fun op op' _ => tCmp2 op op') (fun _ => tIte) (fun _ => tNo) (fun _ _ _ _ => tNo) (fun _ _ _ _ => tCompIf) (fun _ _ => tDix) (fun _ _ _ => tDget) (fun _ _ _ _ _ _ _ _ _ => tNo) o
noncomputable def defd (d : Dat) : Option Out :=
 @Dat.rec (fun _ => Option Out) (fun _ => Unit) (some (.val .none)) (fun b => some (.val (.bool b))) (fun i => some (.val (.int i))) (fun c => some (.val (.str c))) (fun n => some (.val (.txt n))) (fun b => some (.val (.bytes b))) (fun l _ => some (.val (.tup l))) (fun l _ => some (.val (.list l))) (fun n => some (.val (.obj n))) none () (fun _ _ _ _ => ()) d
noncomputable abbrev RE := Tabs → Run → List Dat → Option Out
noncomputable def noE : RE := fun _ _ _ => none
noncomputable def exF (m : M) : RE :=
 @M.rec (fun _ => RE) noE (fun _ _ _ _ => noE) (fun c _ _ _ _ _ => val? (constD c)) (fun i _ _ _ _ ρ => defd (nth ρ i)) (fun i _ _ t _ _ => defd (t.consts i)) (fun o a _ _ run ρ => unF o run ρ a)
  (fun o a b _ _ _ run ρ => duF o run ρ a b) (fun o a b c _ _ _ _ run ρ => triF o run ρ a b c) (fun _ => noE) (fun _ => noE) m
noncomputable abbrev RT := Run → List Dat → Option Out
noncomputable def valT (m : M) : RT := fun run ρ => andO (run (.ex m) ρ) fun d => onBool d fun b => some (.test b)
noncomputable def allT (m : M) : RT :=
 @M.rec (fun _ => RT) (fun _ _ => some (.test true)) (fun e _ _ ih run ρ => andT (run (.test e) ρ) fun q => iteO q (ih run ρ) (some (.test false)))
  (fun _ _ _ _ _ => none) (fun _ _ _ _ _ => none) (fun _ _ _ _ _ => none) (fun _ _ _ _ _ => none) (fun _ _ _ _ _ _ _ => none) (fun _ _ _ _ _ _ _ _ _ => none) (fun _ _ _ => none) (fun _ _ _ => none) m
noncomputable def anyT (m : M) : RT :=
 @M.rec (fun _ => RT) (fun _ _ => some (.test false)) (fun e _ _ ih run ρ => andT (run (.test e) ρ) fun q => iteO q (some (.test true)) (ih run ρ))
  (fun _ _ _ _ _ => none) (fun _ _ _ _ _ => none) (fun _ _ _ _ _ => none) (fun _ _ _ _ _ => none) (fun _ _ _ _ _ _ _ => none) (fun _ _ _ _ _ _ _ _ _ => none) (fun _ _ _ => none) (fun _ _ _ => none) m
noncomputable def notT (a : M) : RT := fun run ρ => andT (run (.test a) ρ) fun b => iteO b (some (.test false)) (some (.test true))
noncomputable def boolsT (op : BoolOp) (a : M) : RT := @BoolOp.rec (fun _ => M → RT) allT anyT op a
noncomputable def testF (m : M) : RT := match m with
 | .u o a => match o with
  | .not _ => notT a
  | .bools op _ => boolsT op a
  | _ => valT m
 | _ => valT m
noncomputable def sAsg (i : Nat) : R1 := fun run ρ a => andO (run (.ex a) ρ) fun d => forceL (putN d i ρ) fun ρ' => some (.flow ρ' .next)
noncomputable def sRet : R1 := fun run ρ a => andO (run (.ex a) ρ) fun d => some (.flow ρ (.ret d))
noncomputable def sExs : R1 := fun run ρ a => andO (run (.ex a) ρ) fun d => onNone d (some (.flow ρ .next))
noncomputable def raisR (k : Nat) (ds : List Dat) : Option Out := match ds with
 | [] => none
 | m :: r => match lenB m with
  | some _ => match r with
   | [] => some (.err k (.int 0))
   | d :: r => match r with
    | [] => some (.err k d)
    | _ :: _ => none
  | none => none
noncomputable def sRais (k : Nat) : R1 := fun run ρ a => andS (run (.exs a) ρ) (raisR k)
noncomputable def s1F (o : O1) : R1 :=
 @O1.rec (fun _ => R1) (fun _ _ => uNo) (fun _ => uNo) (fun _ => uNo) (fun _ => uNo) (fun _ _ => uNo) (fun _ => uNo) (fun _ _ _ _ => uNo) (fun _ _ _ => uNo) (fun _ _ => uNo) (fun _ _ _ _ => uNo)
  (fun _ _ _ _ _ _ _ _ _ => uNo) (fun _ _ => uNo) (fun _ _ => uNo) (fun _ _ _ _ _ _ _ _ _ => uNo) (fun i _ _ _ => sAsg i) (fun _ => sRet) (fun _ => sExs) (fun k _ _ _ _ => sRais k) o
noncomputable def sUnp : R2 := fun run ρ a b => andO (run (.ex b) ρ) fun d => onTup d fun ds => @Option.rec (List Dat) (fun _ => Option Out) none (fun ρ' => forceL ρ' fun ρ' => some (.flow ρ' .next)) (putAll ds a ρ)
noncomputable def sRng (i n : Nat) : R2 := fun run ρ a _ => forceL (rangeD n 0) fun ds => run (.loop i ds a) ρ
noncomputable def isHole (d : Dat) : Bool := match d with
 | .hole => true
 | _ => false
noncomputable def sLapp (i : Nat) : R2 := fun run ρ a b => iteO (isHole (nth ρ i)) (pureS (run (.exs a) ρ) fun ds => pureO (run (.ex b) ρ) fun d => iteO (noList d) (forceL (appD ds [d]) fun l => forceL (putN (.list l) i ρ) fun ρ' => some (.flow ρ' .next)) none) none
noncomputable def s2F (o : O2) : R2 :=
 @O2.rec (fun _ => R2) (fun _ _ => dNo) (fun _ _ => dNo) (fun _ => dNo) (fun _ _ => dNo) (fun _ _ _ _ => dNo) (fun _ _ => dNo) (fun _ _ => dNo) (fun _ _ => dNo)
  (fun _ _ _ _ _ _ _ _ _ => dNo) (fun _ _ _ => sUnp) (fun i _ n _ _ _ _ _ _ => sRng i n) (fun _ _ _ _ => dNo) (fun i _ _ _ _ _ _ _ _ => sLapp i) o
noncomputable def sIfs : R3 := fun run ρ a b c => andT (run (.test a) ρ) fun q => iteO q (run (.sts b) ρ) (run (.sts c) ρ)
noncomputable def sFor (i : Nat) : R3 := fun run ρ a b _ => andO (run (.ex a) ρ) fun d => onTup d fun ds => run (.loop i ds b) ρ
noncomputable def sLets (i : Nat) : R3 := fun run ρ a b c => iteO (isHole (nth ρ i)) (match c with
 | .cons u v => match v with
  | .cons k w => pureS (run (.exs a) ρ) fun ks => pureS (run (.exs b) ρ) fun vs => pureO (run (.ex u) ρ) fun x => pureO (run (.ex k) ρ) fun key => match tabGet key ks vs with
   | some o => match o with
    | some l => match inD x l with
     | some q => iteO q (some (.flow ρ .next)) (run (.sts w) ρ)
     | none => none
    | none => none
   | none => none
  | _ => none
 | _ => none) none
noncomputable def s3F (o : O3) : R3 := @O3.rec (fun _ => R3) (fun _ _ _ => tNo) (fun _ => tNo) (fun _ => sIfs) (fun i _ _ _ => sFor i) (fun _ _ _ _ => tNo) (fun _ _ => tNo) (fun _ _ _ => tNo) (fun i _ _ _ _ _ _ _ _ => sLets i) o
noncomputable def noT : RT := fun _ _ => none
noncomputable def stF (m : M) : RT := @M.rec (fun _ => RT) noT (fun _ _ _ _ => noT) (fun _ _ _ => noT) (fun _ _ _ => noT) (fun _ _ _ => noT) (fun o a _ run ρ => s1F o run ρ a) (fun o a b _ _ run ρ => s2F o run ρ a b) (fun o a b c _ _ _ run ρ => s3F o run ρ a b c) (fun _ => noT) (fun _ => noT) m
noncomputable def exsF (m : M) : RT :=
 @M.rec (fun _ => RT) (fun _ _ => some (.vals [])) (fun e r _ _ run ρ => andO (run (.ex e) ρ) fun d => andS (run (.exs r) ρ) fun ds => some (.vals (d :: ds))) (fun _ _ _ => noT) (fun _ _ _ => noT) (fun _ _ _ => noT) (fun _ _ _ => noT) (fun _ _ _ _ _ => noT) (fun _ _ _ _ _ _ _ => noT) (fun _ => noT) (fun _ => noT) m
noncomputable def stsF (m : M) : RT :=
 @M.rec (fun _ => RT) (fun _ ρ => some (.flow ρ .next)) (fun s r _ _ run ρ => flowK (run (.st s) ρ) fun ρ' f => onFl f (run (.sts r) ρ') fun d => some (.flow ρ' (.ret d))) (fun _ _ _ => noT) (fun _ _ _ => noT) (fun _ _ _ => noT) (fun _ _ _ => noT) (fun _ _ _ _ _ => noT) (fun _ _ _ _ _ _ _ => noT) (fun _ => noT) (fun _ => noT) m
noncomputable def fnR (run : Run) (f : Fn) (ds : List Dat) : Option Out := @Option.rec (List Dat) (fun _ => Option Out) none
 (fun ρ => flowK (run (.sts f.body) ρ) fun _ fl => onFl fl (some (.val .none)) fun d => some (.val d)) (bindD f ds)
noncomputable def loopR (i : Nat) (body : M) (ds : List Dat) : RT :=
 @List.rec Dat (fun _ => RT) (fun _ ρ => some (.flow ρ .next)) (fun d r _ run ρ => forceL (putN d i ρ) fun ρ => pureF (run (.sts body) ρ) fun ρ' fl => onFl fl (run (.loop i r body) ρ') fun d => some (.flow ρ' (.ret d))) ds
noncomputable def stepT (t : Tabs) (run : Run) (T : Task) : List Dat → Option Out :=
 @Task.rec (fun _ => Tabs → Run → List Dat → Option Out) exF (fun m _ => exsF m) (fun m _ => testF m) (fun m _ => stF m) (fun m _ => stsF m) (fun k ds t run _ => fnR run (t.fns k) ds) (fun k ds t run _ => fnR run (t.meths k) ds)
  (fun i ds body _ => loopR i body ds) T t run
noncomputable def runT (t : Tabs) (n : Nat) : Run := @Nat.rec (fun _ => Run) (fun _ _ => none) (fun _ ih => stepT t ih) n
/-! from the model's syntax to the evaluator's language -/
structure Cx where
 slots : List Str
 fns : List Str
 meths : List Str
 consts : List Str
 excs : List Str
noncomputable def findN (x : Str) (l : List Str) : Nat → Option Nat :=
 @List.rec Str (fun _ => Nat → Option Nat) (fun _ => none) (fun y _ ih n => @Bool.rec (fun _ => Option Nat) (ih (n + 1)) (some n) (Fast.sEq y x)) l
noncomputable def nameM (c : Cx) (x : Str) (p : Pos) : M := match findN x c.slots 0 with
 | some i => .var i x p
 | none => match findN x c.consts 0 with
  | some i => .gl i x p
  | none => .raw (.Name x p)
noncomputable def biOf (f : Str) : Option Bi := match findN f [Bi.abs.name, Bi.int.name, Bi.max.name, Bi.min.name, Bi.len.name, Bi.list.name, Bi.bytes.name] 0 with
 | some 0 => some .abs | some 1 => some .int | some 2 => some .max | some 3 => some .min | some 4 => some .len | some 5 => some .list | some 6 => some .bytes
 | _ => none
noncomputable def tyOf (f : Str) : Option Ty := match findN f [Ty.bool.name, Ty.bytes.name, Ty.int.name] 0 with
 | some 0 => some .bool | some 1 => some .bytes | some 2 => some .int
 | _ => none
noncomputable def consM (l : List M) : M := l.foldr (fun e r => .cons e r) .nil
noncomputable def callM (c : Cx) (e : Expr) (f : Str) (args : M) (np p : Pos) : M := match findN f c.fns 0 with
 | some k => .u (.call k f np p) args
 | none => match Fast.sEq f (Str.ofString "is_comparable") with
  | true => .u (.isc np p) args
  | false => match biOf f with
   | some b => .u (.bi b np p) args
   | none => .raw e
noncomputable def unsome : List (Option Expr) → List Expr
 | [] => []
 | o :: r => match o with
  | some e => e :: unsome r
  | none => []
noncomputable abbrev CE := Cx → Expr → M
noncomputable def allM (f : CE) (c : Cx) (l : List Expr) : M := consM (l.map (f c))
noncomputable def onName {α : Type} (d : α) (e : Expr) (k : Str → Pos → α) : α := match e with
 | .Name x p => k x p
 | _ => d
noncomputable def onOne {α β : Type} (d : α) (l : List β) (k : β → α) : α := match l with
 | x :: r => match r with
  | [] => k x
  | _ :: _ => d
 | [] => d
noncomputable def onCall {α : Type} (d : α) (e : Expr) (k : Expr → List Expr → Pos → α) : α := match e with
 | .Call g as ks p => match ks with
  | [] => k g as p
  | _ :: _ => d
 | _ => d
noncomputable def onLam (d : M) (e : Expr) (k : Arguments → Expr → Scope → Pos → M) : M := match e with
 | .Lambda g b sc p => k g b sc p
 | _ => d
noncomputable def onLamCall (c : Cx) (d : M) (e : Expr) (k : Nat → Str → Arguments → Scope → Pos → Pos → Pos → List Expr → M) : M :=
 onLam d e fun g b sc lp => onCall d b fun fn as cp => onName d fn fun h mp => match findN h c.fns 0 with
  | some i => k i h g sc lp mp cp as
  | none => d
noncomputable def onDict {α : Type} (d : α) (e : Expr) (k : List (Option Expr) → List Expr → Pos → α) : α := match e with
 | .Dict ks vs p => k ks vs p
 | _ => d
noncomputable def onConst (d : M) (e : Expr) (k : Const → Nat → Pos → M) : M := match e with
 | .Constant c i p => k c i p
 | _ => d
noncomputable def onRange (d : M) (e : Expr) (k : Pos → Nat → Nat → Pos → Pos → M) : M :=
 onCall d e fun fn as np => onName d fn fun _ rp => onOne d as fun a => onConst d a fun c nk cp => match c with
  | .int i => match i with
   | .ofNat n => k rp n nk cp np
   | .negSucc _ => d
  | _ => d
noncomputable def onSlice (d : M) (e : Expr) (k : Option Expr → Option Expr → Pos → M) : M := match e with
 | .Slice l h _ p => k l h p
 | _ => d
noncomputable def compSub (f : CE) (c : Cx) (v i : Expr) (p : Pos) : M :=
 onSlice (onDict (onName (.b (.idx p) (f c v) (f c i)) v fun x np => match Fast.sEq x (Str.ofString "BITS") with
   | true => .u (.gbits np p) (f c i)
   | false => match Fast.sEq x (Str.ofString "UNTYPED_DEFAULTS") with
    | true => .u (.gdflt np p) (f c i)
    | false => .b (.idx p) (f c v) (f c i)) v fun ks vs dp => .c (.dix dp p) (allM f c (unsome ks)) (allM f c vs) (f c i)) i
  fun l h sp => match l with
   | some l => .b (.cutFrom sp p) (f c v) (f c l)
   | none => match h with
    | some h => .b (.cutTo sp p) (f c v) (f c h)
    | none => .nil
noncomputable def compNamed (f : CE) (c : Cx) (e : Expr) (x : Str) (np : Pos) (as : List Expr) (p : Pos) : M := match as with
 | [] => callM c e x .nil np p
 | a :: r => onOne (onLamCall c (callM c e x (allM f c as) np p) a fun k h g sc lp mp cp as => .u (.lt k h g sc np p lp mp cp) (allM f c as)) r fun b =>
   onLamCall c (match Fast.sEq x (Str.ofString "isinstance") with
    | true => onName (.raw e) b fun t tp => match tyOf t with
     | some t => .u (.isi t np tp p) (f c a)
     | none => .raw e
    | false => callM c e x (allM f c as) np p) b fun k h g sc lp mp cp as => .b (.kc k h g sc np p lp mp cp) (f c a) (allM f c as)
noncomputable def compMeth (f : CE) (c : Cx) (o : Expr) (m : Str) (ap : Pos) (as : List Expr) (p : Pos) : M := match findN m c.meths 0 with
 | some k => .b (.meth k m ap p) (f c o) (allM f c as)
 | none => match Fast.sEq m (Str.ofString "base_of") with
  | true => .b (.base ap p) (f c o) (allM f c as)
  | false => match Fast.sEq m (Str.ofString "get") with
   | true => onDict .nil o fun ks vs dp => onOne .nil as fun k => .c (.dget dp ap p) (allM f c (unsome ks)) (allM f c vs) (f c k)
   | false => .b (.cnt ap p) (f c o) (allM f c as)
noncomputable def compGen (f : CE) (c : Cx) (e elt : Expr) (g : Comprehension) (sc : Scope) (p : Pos) : M := onName (.raw e) g.target fun x xp => match g.ifs with
 | [] => onRange (.b (.comp x sc xp p) (f c g.iter) (f { c with slots := c.slots ++ [x] } elt)) g.iter fun rp k nk cp np => .u (.crng k x sc xp rp cp np nk p) (f { c with slots := c.slots ++ [x] } elt)
 | q :: _ => .c (.compIf x sc xp p) (f c g.iter) (f { c with slots := c.slots ++ [x] } q) (f { c with slots := c.slots ++ [x] } elt)
noncomputable def compE1 (f : CE) (c : Cx) (e : Expr) : M := match e with
 | .Constant k i p => .lit k i p
 | .Name x p => nameM c x p
 | .Tuple es k p => .u (.tup k p) (allM f c es)
 | .List es p => .u (.lst p) (allM f c es)
 | .BinOp l op r p => .b (.bin op p) (f c l) (f c r)
 | .UnaryOp op a p => match op with
  | .Not => .u (.not p) (f c a)
  | .USub => .u (.neg p) (f c a)
  | _ => .raw e
 | .Compare l ops rs p => match ops with
  | [] => .raw e
  | op :: ops => match rs with
   | [] => .raw e
   | r :: rs => onOne (.b (.cmp op p) (f c l) (f c r)) ops fun op' => onOne (.raw e) rs fun r' => .c (.cmp2 op op' p) (f c l) (f c r) (f c r')
 | .BoolOp op es p => .u (.bools op p) (allM f c es)
 | .IfExp a b d p => .c (.ite p) (f c a) (f c b) (f c d)
 | .Attribute o a p => match Fast.sEq a (Str.ofString "world") with
  | true => .u (.world p) (f c o)
  | false => .raw e
 | .Subscript v i p => compSub f c v i p
 | .Call fn as ks p => match ks with
  | [] => match fn with
   | .Name x np => compNamed f c e x np as p
   | .Attribute o m ap => compMeth f c o m ap as p
   | _ => .raw e
  | _ :: _ => .raw e
 | .ListComp elt gs sc p => onOne (.raw e) gs fun g => compGen f c e elt g sc p
 | _ => .raw e
noncomputable def compE : Nat → CE := @Nat.rec (fun _ => CE) (fun _ e => .raw e) (fun _ ih => compE1 ih)
noncomputable def slotOf (c : Cx) (x : Str) : Nat := match findN x c.slots 0 with
 | some i => i
 | none => 1000
noncomputable abbrev CS := Cx → Stmt → M
noncomputable def allS (f : CS) (c : Cx) (l : List Stmt) : M := consM (l.map (f c))
noncomputable def compS1 (n : Nat) (f : CS) (c : Cx) (s : Stmt) : M := match s with
 | .Assign ts e p => onOne (.rawS s) ts fun t => match t with
  | .Name x xp => .u (.asg (slotOf c x) x xp p) (compE n c e)
  | .Tuple xs k xp => .b (.unp k xp p) (allM (compE n) c xs) (compE n c e)
  | _ => .rawS s
 | .Return o p => match o with
  | some e => .u (.ret p) (compE n c e)
  | none => .rawS s
 | .Expr e p => .u (.exs p) (compE n c e)
 | .Raise o _ p => match o with
  | some e => onCall (.rawS s) e fun fn as cp => onName (.rawS s) fn fun x np => match findN x c.excs 0 with
   | some k => .u (.rais k x np cp p) (allM (compE n) c as)
   | none => .rawS s
  | none => .rawS s
 | .If a b d p => .c (.ifs p) (compE n c a) (allS f c b) (allS f c d)
 | .For t it b _ p => onName (.rawS s) t fun x xp => onRange (.c (.for_ (slotOf c x) x xp p) (compE n c it) (allS f c b) .nil) it
   fun rp k nk cp np => .b (.rng (slotOf c x) x k xp rp cp np p nk) (allS f c b) .nil
 | _ => .rawS s
noncomputable def compS : Nat → CS := @Nat.rec (fun _ => CS) (fun _ s => .rawS s) (fun n ih => compS1 n ih)
noncomputable def onAsg (s : Stmt) (k : Expr → Expr → Pos → Option M) : Option M := match s with
 | .Assign ts e p => onOne none ts fun t => k t e p
 | _ => none
noncomputable def asIf (s : Stmt) (k : Expr → List Stmt → Pos → Option M) : Option M := match s with
 | .If a b _ p => k a b p
 | _ => none
noncomputable def asExpr (s : Stmt) (k : Expr → Pos → Option M) : Option M := match s with
 | .Expr e p => k e p
 | _ => none
noncomputable def asCmp (e : Expr) (k : Expr → Expr → Pos → Option M) : Option M := match e with
 | .Compare l ops rs p => onOne none ops fun op => match op with
  | .NotIn => onOne none rs fun r => k l r p
  | _ => none
 | _ => none
noncomputable def asSub (e : Expr) (k : Expr → Expr → Pos → Option M) : Option M := match e with
 | .Subscript v i p => k v i p
 | _ => none
noncomputable def asAttr (e : Expr) (k : Expr → Str → Pos → Option M) : Option M := match e with
 | .Attribute v i p => k v i p
 | _ => none
noncomputable def asList (e : Expr) (k : List Expr → Pos → Option M) : Option M := match e with
 | .List es p => k es p
 | _ => none
noncomputable def letsM (c : Cx) (s t : Stmt) : Option M := onAsg s fun x d ap => onName none x fun x xp => onDict none d fun ks vs dp => asIf t fun q w ip => asCmp q fun u v cp => asSub v fun nm k sp => onName none nm fun _ np =>
 some (.c (.lets (slotOf c x) x xp dp ap np sp cp ip) (allM (compE 60) c (unsome ks)) (allM (compE 60) c vs) (.cons (compE 60 c u) (.cons (compE 60 c k) (allS (compS 60) c w))))
noncomputable def lappM (c : Cx) (s t : Stmt) : Option M := onAsg s fun x d ap => onName none x fun x xp => asList d fun es lp => asExpr t fun q ep => onCall none q fun fn as cp => asAttr fn fun nm m tp => onName none nm fun _ np => onOne none as fun b =>
 match Fast.sEq m (Str.ofString "append") with
 | true => some (.b (.lapp (slotOf c x) x xp lp ap np tp cp ep) (allM (compE 60) c es) (compE 60 c b))
 | false => none
noncomputable def compGo (c : Cx) : List Stmt → Bool → M := fun l => @List.rec Stmt (fun _ => Bool → M) (fun _ => .nil) (fun s r ih sk => match sk with
  | true => ih false
  | false => match (match r with | t :: _ => (match letsM c s t with | some m => some m | none => lappM c s t) | [] => none) with
   | some m => .cons m (ih true)
   | none => .cons (compS 60 c s) (ih false)) l
noncomputable def compSs (c : Cx) (l : List Stmt) : M := compGo c l false
end
section
set_option backward.match.sparseCases false
open PySem PySem.W
noncomputable def bodyOf : List Stmt := PySem.Challenge.pw_xw0056_01.main.body
noncomputable def stAt (i : Nat) : Stmt := bodyOf.getD i (.Pass ⟨0, 0, 0, 0⟩)
noncomputable def dfltsOf : List Expr → List Dat
 | [] => []
 | .Constant c _ _ :: r => match constD c with
  | some d => d :: dfltsOf r
  | none => []
 | _ :: _ => []
noncomputable def fnIdx : List Nat := [55, 53, 58, 59, 60, 57, 54, 52, 75, 12, 13, 14, 15, 16, 17, 19, 20, 21, 22, 56, 61, 62, 65, 66, 67, 68, 76, 78, 79, 80, 81, 82, 83, 84, 85, 86, 87, 88, 107, 108, 109, 110, 111, 112, 113, 105]
noncomputable def clsBody : Stmt → List Stmt
 | .ClassDef _ _ _ b _ _ _ _ _ _ _ => b
 | _ => []
noncomputable def defName : Stmt → Str
 | .FunctionDef n _ _ _ _ _ _ _ _ _ => n
 | _ => ⟨#[]⟩
noncomputable def T1 (a : String) : Dat := .tup [.str (cS a)]
noncomputable def T2 (a b : String) : Dat := .tup [.str (cS a), .str (cS b)]
noncomputable def constOfS (i : Nat) : Str × Dat := match stAt i with
 | .Assign [.Name x _] e _ => match e with
  | .Constant c _ _ => (x, (constD c).getD .none)
  | .Tuple es _ _ => (x, .tup (dfltsOf es))
  | _ => (x, .none)
 | _ => (⟨#[]⟩, .none)
noncomputable def constsL : List (Str × Dat) := (([70, 71, 72, 73, 74, 92, 44, 41, 40, 42, 43, 46, 11, 9] : List Nat).map constOfS) ++ [(Str.ofString "MOST_TEXT", .int 1048576)]
noncomputable def cx0 : Cx := { slots := [], fns := fnIdx.map fun i => defName (stAt i), meths := [Str.ofString "coerce", Str.ofString "takes_type"], consts := constsL.map (·.1), excs := [Str.ofString "ConstFault", Str.ofString "TypeFault"] }
noncomputable def localsOf : List (Str × NameKind) → List Str
 | [] => []
 | (x, k) :: r => match k with
  | .local => x :: localsOf r
  | .cell => x :: localsOf r
  | _ => localsOf r
noncomputable def fnOfS (s : Stmt) : Fn := match s with
 | .FunctionDef name args body _ _ _ scope _ _ _ => ⟨name, args.args.length, localsOf scope.names, compSs { cx0 with slots := localsOf scope.names } body, dfltsOf args.defaults, holes ((localsOf scope.names).length - args.args.length)⟩
 | _ => ⟨⟨#[]⟩, 0, [], .nil, [], []⟩
noncomputable def nthF (l : List Fn) : Nat → Fn :=
 @List.rec Fn (fun _ => Nat → Fn) (fun _ => ⟨⟨#[]⟩, 0, [], .nil, [], []⟩) (fun d _ ih n => @Nat.rec (fun _ => Fn) d (fun k _ => ih k) n) l
noncomputable def fnsL : List Fn := fnIdx.map fun i => fnOfS (stAt i)
noncomputable def methsL : List Fn := [fnOfS ((clsBody (stAt 93)).getD 5 (.Pass ⟨0, 0, 0, 0⟩)), fnOfS ((clsBody (stAt 93)).getD 6 (.Pass ⟨0, 0, 0, 0⟩))]
noncomputable def tabs : Tabs where
 fns := nthF fnsL
 meths := nthF methsL
 consts := nth (constsL.map (·.2))
noncomputable def S (a : String) : Dat := .str (cS a)
noncomputable def TK := T2 "named" "main.K"
noncomputable def comparison (spot : Int) (T : Dat) : Dat := .tup [S "binary", T, .int spot, S "<", .tup [S "local", T2 "int" "int", .int spot, .int 0], .tup [S "local", T2 "int" "int", .int spot, .int 1]]
noncomputable def numbers (p : Int) : List Dat := [.tup [S "local", TK, .int p, .int 0], .tup [S "const", TK, .int p, .int 5], .tup [S "const", TK, .int p, .int 0], .tup [S "const", TK, .int p, .int (-100)],
  .tup [S "const", T2 "untyped" "int", .int p, .int 3], .tup [S "const", T2 "untyped" "int", .int p, .int 0], .tup [S "const", T2 "untyped" "int", .int p, .int (-1)], .tup [S "const", T2 "untyped" "int", .int p, .int 300]]
noncomputable def truths (p : Int) : List Dat := [.tup [S "local", T1 "bool", .int p, .int 1], .tup [S "const", T1 "bool", .int p, .bool false], .tup [S "const", T2 "untyped" "bool", .int p, .bool true], comparison p (T2 "untyped" "bool")]
noncomputable def textsM (p : Int) : List Dat := [.tup [S "local", T1 "string", .int p, .int 2], .tup [S "const", T1 "string", .int p, .bytes [98]], .tup [S "const", T2 "untyped" "string", .int p, .bytes [97]]]
noncomputable def leads (p : Int) : List Dat := [.tup [S "local", .tup [S "ptr", TK], .int p, .int 3], .tup [S "nil", T1 "nil", .int p]]
noncomputable def opsD : List Dat := [S "==", S "!=", S "<", S ">=", S "+", S "-", S "/", S "%", S "&^", S "&&", S "||"]
noncomputable def lawS : List Stmt := match stAt 114 with
 | .FunctionDef _ _ b _ _ _ _ _ _ _ => b
 | _ => []
noncomputable def lawNames : List Str := match stAt 114 with
 | .FunctionDef _ _ _ _ _ _ sc _ _ _ => localsOf sc.names
 | _ => []
noncomputable def turnBody : List Stmt := match lawS.getD 4 (.Pass ⟨0, 0, 0, 0⟩) with
 | .For _ _ b _ _ => b
 | _ => []
noncomputable def region : M := compSs { cx0 with slots := lawNames } (turnBody.drop 4)
noncomputable def lamPos : M → List Pos
 | .cons e r => lamPos e ++ lamPos r
 | .u o a => (match o with | .lt _ _ _ _ _ _ lp _ _ => [lp] | _ => []) ++ lamPos a
 | .b o a b => (match o with | .kc _ _ _ _ _ _ lp _ _ => [lp] | _ => []) ++ (lamPos a ++ lamPos b)
 | .c _ a b c => lamPos a ++ (lamPos b ++ lamPos c)
 | _ => []
noncomputable def namesOf : Stmt → List (Str × NameKind)
 | .FunctionDef _ _ _ _ _ _ sc _ _ _ => sc.names
 | _ => []
noncomputable def lamList : List (List (Str × NameKind) × Pos) := [(namesOf (stAt 84), (lamPos (fnOfS (stAt 84)).body).headD ⟨0, 0, 0, 0⟩), (namesOf (stAt 114), (lamPos region).headD ⟨0, 0, 0, 0⟩)]
end
section
open PySem PySem.W PySem.SeqAt
theorem via {P : Prop} (h : ∀ G : Prop, (P → G) → G) : P := h P id
theorem nn {α : Type} {b : α} {P : Prop} (h : none = some b) : P := by injection h
theorem ns {α : Type} {b : α} {P : Prop} (h : some b = none) : P := by injection h
theorem ft {P : Prop} (h : false = true) : P := by injection h
theorem tf {P : Prop} (h : true = false) : P := by injection h
theorem si {α : Type} {a b : α} (h : some a = some b) : a = b := Option.some.inj h
theorem o_aa {P1 P2 P3 : Prop} {G : Prop} (h : P1 ∧ P2 ∧ P3) (k : P1 → P2 → P3 → G) : G := by
 obtain ⟨p1, p2, p3⟩ := h
 exact k p1 p2 p3
theorem o_ax {T1 : Type} {P1 : Prop} {P2 : T1 → Prop} {G : Prop} (h : P1 ∧ ∃ x1, P2 x1) (k : P1 → ∀ x1, P2 x1 → G) : G := by
 obtain ⟨p1, x1, p2⟩ := h
 exact k p1 x1 p2
theorem o_xa {T1 : Type} {P1 P2 : T1 → Prop} {G : Prop} (h : ∃ x1, P1 x1 ∧ P2 x1) (k : ∀ x1, P1 x1 → P2 x1 → G) : G := by
 obtain ⟨x1, p1, p2⟩ := h
 exact k x1 p1 p2
theorem o_xx {T1 T2 : Type} {P1 : T1 → T2 → Prop} {G : Prop} (h : ∃ x1, ∃ x2, P1 x1 x2) (k : ∀ x1, ∀ x2, P1 x1 x2 → G) : G := by
 obtain ⟨x1, x2, p1⟩ := h
 exact k x1 x2 p1
theorem o_aaa {P1 P2 P3 P4 : Prop} {G : Prop} (h : P1 ∧ P2 ∧ P3 ∧ P4) (k : P1 → P2 → P3 → P4 → G) : G := by
 obtain ⟨p1, p2, p3, p4⟩ := h
 exact k p1 p2 p3 p4
theorem o_axa {T1 : Type} {P1 : Prop} {P2 P3 : T1 → Prop} {G : Prop} (h : P1 ∧ ∃ x1, P2 x1 ∧ P3 x1) (k : P1 → ∀ x1, P2 x1 → P3 x1 → G) : G := by
 obtain ⟨p1, x1, p2, p3⟩ := h
 exact k p1 x1 p2 p3
theorem o_xaa {T1 : Type} {P1 P2 P3 : T1 → Prop} {G : Prop} (h : ∃ x1, P1 x1 ∧ P2 x1 ∧ P3 x1) (k : ∀ x1, P1 x1 → P2 x1 → P3 x1 → G) : G := by
 obtain ⟨x1, p1, p2, p3⟩ := h
 exact k x1 p1 p2 p3
theorem o_xxa {T1 T2 : Type} {P1 P2 : T1 → T2 → Prop} {G : Prop} (h : ∃ x1, ∃ x2, P1 x1 x2 ∧ P2 x1 x2) (k : ∀ x1, ∀ x2, P1 x1 x2 → P2 x1 x2 → G) : G := by
 obtain ⟨x1, x2, p1, p2⟩ := h
 exact k x1 x2 p1 p2
theorem o_xxx {T1 T2 T3 : Type} {P1 : T1 → T2 → T3 → Prop} {G : Prop} (h : ∃ x1, ∃ x2, ∃ x3, P1 x1 x2 x3) (k : ∀ x1, ∀ x2, ∀ x3, P1 x1 x2 x3 → G) : G := by
 obtain ⟨x1, x2, x3, p1⟩ := h
 exact k x1 x2 x3 p1
theorem o_aaaa {P1 P2 P3 P4 P5 : Prop} {G : Prop} (h : P1 ∧ P2 ∧ P3 ∧ P4 ∧ P5) (k : P1 → P2 → P3 → P4 → P5 → G) : G := by
 obtain ⟨p1, p2, p3, p4, p5⟩ := h
 exact k p1 p2 p3 p4 p5
theorem o_axxa {T1 T2 : Type} {P1 : Prop} {P2 P3 : T1 → T2 → Prop} {G : Prop} (h : P1 ∧ ∃ x1, ∃ x2, P2 x1 x2 ∧ P3 x1 x2) (k : P1 → ∀ x1, ∀ x2, P2 x1 x2 → P3 x1 x2 → G) : G := by
 obtain ⟨p1, x1, x2, p2, p3⟩ := h
 exact k p1 x1 x2 p2 p3
theorem o_xaaa {T1 : Type} {P1 P2 P3 P4 : T1 → Prop} {G : Prop} (h : ∃ x1, P1 x1 ∧ P2 x1 ∧ P3 x1 ∧ P4 x1) (k : ∀ x1, P1 x1 → P2 x1 → P3 x1 → P4 x1 → G) : G := by
 obtain ⟨x1, p1, p2, p3, p4⟩ := h
 exact k x1 p1 p2 p3 p4
theorem o_xaax {T1 T2 : Type} {P1 P2 : T1 → Prop} {P3 : T1 → T2 → Prop} {G : Prop} (h : ∃ x1, P1 x1 ∧ P2 x1 ∧ ∃ x2, P3 x1 x2) (k : ∀ x1, P1 x1 → P2 x1 → ∀ x2, P3 x1 x2 → G) : G := by
 obtain ⟨x1, p1, p2, x2, p3⟩ := h
 exact k x1 p1 p2 x2 p3
theorem o_xxaa {T1 T2 : Type} {P1 P2 P3 : T1 → T2 → Prop} {G : Prop} (h : ∃ x1, ∃ x2, P1 x1 x2 ∧ P2 x1 x2 ∧ P3 x1 x2) (k : ∀ x1, ∀ x2, P1 x1 x2 → P2 x1 x2 → P3 x1 x2 → G) : G := by
 obtain ⟨x1, x2, p1, p2, p3⟩ := h
 exact k x1 x2 p1 p2 p3
theorem o_xxxa {T1 T2 T3 : Type} {P1 P2 : T1 → T2 → T3 → Prop} {G : Prop} (h : ∃ x1, ∃ x2, ∃ x3, P1 x1 x2 x3 ∧ P2 x1 x2 x3) (k : ∀ x1, ∀ x2, ∀ x3, P1 x1 x2 x3 → P2 x1 x2 x3 → G) : G := by
 obtain ⟨x1, x2, x3, p1, p2⟩ := h
 exact k x1 x2 x3 p1 p2
theorem o_xxxx {T1 T2 T3 T4 : Type} {P1 : T1 → T2 → T3 → T4 → Prop} {G : Prop} (h : ∃ x1, ∃ x2, ∃ x3, ∃ x4, P1 x1 x2 x3 x4) (k : ∀ x1, ∀ x2, ∀ x3, ∀ x4, P1 x1 x2 x3 x4 → G) : G := by
 obtain ⟨x1, x2, x3, x4, p1⟩ := h
 exact k x1 x2 x3 x4 p1
theorem o_xaaaa {T1 : Type} {P1 P2 P3 P4 P5 : T1 → Prop} {G : Prop} (h : ∃ x1, P1 x1 ∧ P2 x1 ∧ P3 x1 ∧ P4 x1 ∧ P5 x1) (k : ∀ x1, P1 x1 → P2 x1 → P3 x1 → P4 x1 → P5 x1 → G) : G := by
 obtain ⟨x1, p1, p2, p3, p4, p5⟩ := h
 exact k x1 p1 p2 p3 p4 p5
theorem o_xxaaa {T1 T2 : Type} {P1 P2 P3 P4 : T1 → T2 → Prop} {G : Prop} (h : ∃ x1, ∃ x2, P1 x1 x2 ∧ P2 x1 x2 ∧ P3 x1 x2 ∧ P4 x1 x2) (k : ∀ x1, ∀ x2, P1 x1 x2 → P2 x1 x2 → P3 x1 x2 → P4 x1 x2 → G) : G := by
 obtain ⟨x1, x2, p1, p2, p3, p4⟩ := h
 exact k x1 x2 p1 p2 p3 p4
theorem o_xxxaa {T1 T2 T3 : Type} {P1 P2 P3 : T1 → T2 → T3 → Prop} {G : Prop} (h : ∃ x1, ∃ x2, ∃ x3, P1 x1 x2 x3 ∧ P2 x1 x2 x3 ∧ P3 x1 x2 x3) (k : ∀ x1, ∀ x2, ∀ x3, P1 x1 x2 x3 → P2 x1 x2 x3 → P3 x1 x2 x3 → G) : G := by
 obtain ⟨x1, x2, x3, p1, p2, p3⟩ := h
 exact k x1 x2 x3 p1 p2 p3
theorem o_xxxxa {T1 T2 T3 T4 : Type} {P1 P2 : T1 → T2 → T3 → T4 → Prop} {G : Prop} (h : ∃ x1, ∃ x2, ∃ x3, ∃ x4, P1 x1 x2 x3 x4 ∧ P2 x1 x2 x3 x4) (k : ∀ x1, ∀ x2, ∀ x3, ∀ x4, P1 x1 x2 x3 x4 → P2 x1 x2 x3 x4 → G) : G := by
 obtain ⟨x1, x2, x3, x4, p1, p2⟩ := h
 exact k x1 x2 x3 x4 p1 p2
theorem o_xaaaaa {T1 : Type} {P1 P2 P3 P4 P5 P6 : T1 → Prop} {G : Prop} (h : ∃ x1, P1 x1 ∧ P2 x1 ∧ P3 x1 ∧ P4 x1 ∧ P5 x1 ∧ P6 x1) (k : ∀ x1, P1 x1 → P2 x1 → P3 x1 → P4 x1 → P5 x1 → P6 x1 → G) : G := by
 obtain ⟨x1, p1, p2, p3, p4, p5, p6⟩ := h
 exact k x1 p1 p2 p3 p4 p5 p6
theorem o_xxaaaa {T1 T2 : Type} {P1 P2 P3 P4 P5 : T1 → T2 → Prop} {G : Prop} (h : ∃ x1, ∃ x2, P1 x1 x2 ∧ P2 x1 x2 ∧ P3 x1 x2 ∧ P4 x1 x2 ∧ P5 x1 x2) (k : ∀ x1, ∀ x2, P1 x1 x2 → P2 x1 x2 → P3 x1 x2 → P4 x1 x2 → P5 x1 x2 → G) : G := by
 obtain ⟨x1, x2, p1, p2, p3, p4, p5⟩ := h
 exact k x1 x2 p1 p2 p3 p4 p5
theorem o_xxxaaa {T1 T2 T3 : Type} {P1 P2 P3 P4 : T1 → T2 → T3 → Prop} {G : Prop} (h : ∃ x1, ∃ x2, ∃ x3, P1 x1 x2 x3 ∧ P2 x1 x2 x3 ∧ P3 x1 x2 x3 ∧ P4 x1 x2 x3) (k : ∀ x1, ∀ x2, ∀ x3, P1 x1 x2 x3 → P2 x1 x2 x3 → P3 x1 x2 x3 → P4 x1 x2 x3 → G) : G := by
 obtain ⟨x1, x2, x3, p1, p2, p3, p4⟩ := h
 exact k x1 x2 x3 p1 p2 p3 p4
theorem o_xxxxaa {T1 T2 T3 T4 : Type} {P1 P2 P3 : T1 → T2 → T3 → T4 → Prop} {G : Prop} (h : ∃ x1, ∃ x2, ∃ x3, ∃ x4, P1 x1 x2 x3 x4 ∧ P2 x1 x2 x3 x4 ∧ P3 x1 x2 x3 x4) (k : ∀ x1, ∀ x2, ∀ x3, ∀ x4, P1 x1 x2 x3 x4 → P2 x1 x2 x3 x4 → P3 x1 x2 x3 x4 → G) : G := by
 obtain ⟨x1, x2, x3, x4, p1, p2, p3⟩ := h
 exact k x1 x2 x3 x4 p1 p2 p3
theorem o_xxxxxx {T1 T2 T3 T4 T5 T6 : Type} {P1 : T1 → T2 → T3 → T4 → T5 → T6 → Prop} {G : Prop} (h : ∃ x1, ∃ x2, ∃ x3, ∃ x4, ∃ x5, ∃ x6, P1 x1 x2 x3 x4 x5 x6) (k : ∀ x1, ∀ x2, ∀ x3, ∀ x4, ∀ x5, ∀ x6, P1 x1 x2 x3 x4 x5 x6 → G) : G := by
 obtain ⟨x1, x2, x3, x4, x5, x6, p1⟩ := h
 exact k x1 x2 x3 x4 x5 x6 p1
theorem o_xxaaaaa {T1 T2 : Type} {P1 P2 P3 P4 P5 P6 : T1 → T2 → Prop} {G : Prop} (h : ∃ x1, ∃ x2, P1 x1 x2 ∧ P2 x1 x2 ∧ P3 x1 x2 ∧ P4 x1 x2 ∧ P5 x1 x2 ∧ P6 x1 x2) (k : ∀ x1, ∀ x2, P1 x1 x2 → P2 x1 x2 → P3 x1 x2 → P4 x1 x2 → P5 x1 x2 → P6 x1 x2 → G) : G := by
 obtain ⟨x1, x2, p1, p2, p3, p4, p5, p6⟩ := h
 exact k x1 x2 p1 p2 p3 p4 p5 p6
theorem o_xxxaaaa {T1 T2 T3 : Type} {P1 P2 P3 P4 P5 : T1 → T2 → T3 → Prop} {G : Prop} (h : ∃ x1, ∃ x2, ∃ x3, P1 x1 x2 x3 ∧ P2 x1 x2 x3 ∧ P3 x1 x2 x3 ∧ P4 x1 x2 x3 ∧ P5 x1 x2 x3) (k : ∀ x1, ∀ x2, ∀ x3, P1 x1 x2 x3 → P2 x1 x2 x3 → P3 x1 x2 x3 → P4 x1 x2 x3 → P5 x1 x2 x3 → G) : G := by
 obtain ⟨x1, x2, x3, p1, p2, p3, p4, p5⟩ := h
 exact k x1 x2 x3 p1 p2 p3 p4 p5
theorem o_xxxxaaa {T1 T2 T3 T4 : Type} {P1 P2 P3 P4 : T1 → T2 → T3 → T4 → Prop} {G : Prop} (h : ∃ x1, ∃ x2, ∃ x3, ∃ x4, P1 x1 x2 x3 x4 ∧ P2 x1 x2 x3 x4 ∧ P3 x1 x2 x3 x4 ∧ P4 x1 x2 x3 x4) (k : ∀ x1, ∀ x2, ∀ x3, ∀ x4, P1 x1 x2 x3 x4 → P2 x1 x2 x3 x4 → P3 x1 x2 x3 x4 → P4 x1 x2 x3 x4 → G) : G := by
 obtain ⟨x1, x2, x3, x4, p1, p2, p3, p4⟩ := h
 exact k x1 x2 x3 x4 p1 p2 p3 p4
theorem o_xxaaaaaa {T1 T2 : Type} {P1 P2 P3 P4 P5 P6 P7 : T1 → T2 → Prop} {G : Prop} (h : ∃ x1, ∃ x2, P1 x1 x2 ∧ P2 x1 x2 ∧ P3 x1 x2 ∧ P4 x1 x2 ∧ P5 x1 x2 ∧ P6 x1 x2 ∧ P7 x1 x2) (k : ∀ x1, ∀ x2, P1 x1 x2 → P2 x1 x2 → P3 x1 x2 → P4 x1 x2 → P5 x1 x2 → P6 x1 x2 → P7 x1 x2 → G) : G := by
 obtain ⟨x1, x2, p1, p2, p3, p4, p5, p6, p7⟩ := h
 exact k x1 x2 p1 p2 p3 p4 p5 p6 p7
theorem o_xxxaaaaa {T1 T2 T3 : Type} {P1 P2 P3 P4 P5 P6 : T1 → T2 → T3 → Prop} {G : Prop} (h : ∃ x1, ∃ x2, ∃ x3, P1 x1 x2 x3 ∧ P2 x1 x2 x3 ∧ P3 x1 x2 x3 ∧ P4 x1 x2 x3 ∧ P5 x1 x2 x3 ∧ P6 x1 x2 x3) (k : ∀ x1, ∀ x2, ∀ x3, P1 x1 x2 x3 → P2 x1 x2 x3 → P3 x1 x2 x3 → P4 x1 x2 x3 → P5 x1 x2 x3 → P6 x1 x2 x3 → G) : G := by
 obtain ⟨x1, x2, x3, p1, p2, p3, p4, p5, p6⟩ := h
 exact k x1 x2 x3 p1 p2 p3 p4 p5 p6
theorem o_xxxxxaaa {T1 T2 T3 T4 T5 : Type} {P1 P2 P3 P4 : T1 → T2 → T3 → T4 → T5 → Prop} {G : Prop} (h : ∃ x1, ∃ x2, ∃ x3, ∃ x4, ∃ x5, P1 x1 x2 x3 x4 x5 ∧ P2 x1 x2 x3 x4 x5 ∧ P3 x1 x2 x3 x4 x5 ∧ P4 x1 x2 x3 x4 x5) (k : ∀ x1, ∀ x2, ∀ x3, ∀ x4, ∀ x5, P1 x1 x2 x3 x4 x5 → P2 x1 x2 x3 x4 x5 → P3 x1 x2 x3 x4 x5 → P4 x1 x2 x3 x4 x5 → G) : G := by
 obtain ⟨x1, x2, x3, x4, x5, p1, p2, p3, p4⟩ := h
 exact k x1 x2 x3 x4 x5 p1 p2 p3 p4
theorem o_xxxxxxxa {T1 T2 T3 T4 T5 T6 T7 : Type} {P1 P2 : T1 → T2 → T3 → T4 → T5 → T6 → T7 → Prop} {G : Prop} (h : ∃ x1, ∃ x2, ∃ x3, ∃ x4, ∃ x5, ∃ x6, ∃ x7, P1 x1 x2 x3 x4 x5 x6 x7 ∧ P2 x1 x2 x3 x4 x5 x6 x7) (k : ∀ x1, ∀ x2, ∀ x3, ∀ x4, ∀ x5, ∀ x6, ∀ x7, P1 x1 x2 x3 x4 x5 x6 x7 → P2 x1 x2 x3 x4 x5 x6 x7 → G) : G := by
 obtain ⟨x1, x2, x3, x4, x5, x6, x7, p1, p2⟩ := h
 exact k x1 x2 x3 x4 x5 x6 x7 p1 p2
theorem o_xxxaaaaaa {T1 T2 T3 : Type} {P1 P2 P3 P4 P5 P6 P7 : T1 → T2 → T3 → Prop} {G : Prop} (h : ∃ x1, ∃ x2, ∃ x3, P1 x1 x2 x3 ∧ P2 x1 x2 x3 ∧ P3 x1 x2 x3 ∧ P4 x1 x2 x3 ∧ P5 x1 x2 x3 ∧ P6 x1 x2 x3 ∧ P7 x1 x2 x3) (k : ∀ x1, ∀ x2, ∀ x3, P1 x1 x2 x3 → P2 x1 x2 x3 → P3 x1 x2 x3 → P4 x1 x2 x3 → P5 x1 x2 x3 → P6 x1 x2 x3 → P7 x1 x2 x3 → G) : G := by
 obtain ⟨x1, x2, x3, p1, p2, p3, p4, p5, p6, p7⟩ := h
 exact k x1 x2 x3 p1 p2 p3 p4 p5 p6 p7
theorem o_xxxxxaaaa {T1 T2 T3 T4 T5 : Type} {P1 P2 P3 P4 P5 : T1 → T2 → T3 → T4 → T5 → Prop} {G : Prop} (h : ∃ x1, ∃ x2, ∃ x3, ∃ x4, ∃ x5, P1 x1 x2 x3 x4 x5 ∧ P2 x1 x2 x3 x4 x5 ∧ P3 x1 x2 x3 x4 x5 ∧ P4 x1 x2 x3 x4 x5 ∧ P5 x1 x2 x3 x4 x5) (k : ∀ x1, ∀ x2, ∀ x3, ∀ x4, ∀ x5, P1 x1 x2 x3 x4 x5 → P2 x1 x2 x3 x4 x5 → P3 x1 x2 x3 x4 x5 → P4 x1 x2 x3 x4 x5 → P5 x1 x2 x3 x4 x5 → G) : G := by
 obtain ⟨x1, x2, x3, x4, x5, p1, p2, p3, p4, p5⟩ := h
 exact k x1 x2 x3 x4 x5 p1 p2 p3 p4 p5
theorem o_xxxxxxxxxxxxxxa {T1 T2 T3 T4 T5 T6 T7 T8 T9 T10 T11 T12 T13 T14 : Type} {P1 P2 : T1 → T2 → T3 → T4 → T5 → T6 → T7 → T8 → T9 → T10 → T11 → T12 → T13 → T14 → Prop} {G : Prop} (h : ∃ x1, ∃ x2, ∃ x3, ∃ x4, ∃ x5, ∃ x6, ∃ x7, ∃ x8, ∃ x9, ∃ x10, ∃ x11, ∃ x12, ∃ x13, ∃ x14, P1 x1 x2 x3 x4 x5 x6 x7 x8 x9 x10 x11 x12 x13 x14 ∧ P2 x1 x2 x3 x4 x5 x6 x7 x8 x9 x10 x11 x12 x13 x14) (k : ∀ x1, ∀ x2, ∀ x3, ∀ x4, ∀ x5, ∀ x6, ∀ x7, ∀ x8, ∀ x9, ∀ x10, ∀ x11, ∀ x12, ∀ x13, ∀ x14, P1 x1 x2 x3 x4 x5 x6 x7 x8 x9 x10 x11 x12 x13 x14 → P2 x1 x2 x3 x4 x5 x6 x7 x8 x9 x10 x11 x12 x13 x14 → G) : G := by
 obtain ⟨x1, x2, x3, x4, x5, x6, x7, x8, x9, x10, x11, x12, x13, x14, p1, p2⟩ := h
 exact k x1 x2 x3 x4 x5 x6 x7 x8 x9 x10 x11 x12 x13 x14 p1 p2
theorem ba {a b : Bool} (h : (a && b) = true) : a = true ∧ b = true := Bool.and_eq_true_iff.mp h
theorem b_Lnn {b1 b2 : Bool} {G : Prop} (h : (b1 && b2) = true) (k : b1 = true → b2 = true → G) : G := k (Bool.and_eq_true_iff.mp h).1 (Bool.and_eq_true_iff.mp h).2
theorem b_LLnnLnn {b1 b2 b3 b4 : Bool} {G : Prop} (h : ((b1 && b2) && (b3 && b4)) = true) (k : b1 = true → b2 = true → b3 = true → b4 = true → G) : G := b_Lnn h fun x y => b_Lnn x fun a b => b_Lnn y fun c d => k a b c d
theorem b_LLnnn {b1 b2 b3 : Bool} {G : Prop} (h : ((b1 && b2) && b3) = true) (k : b1 = true → b2 = true → b3 = true → G) : G := k ((ba (ba h).1).1) ((ba (ba h).1).2) ((ba h).2)
theorem b_LLLnnnn {b1 b2 b3 b4 : Bool} {G : Prop} (h : (((b1 && b2) && b3) && b4) = true) (k : b1 = true → b2 = true → b3 = true → b4 = true → G) : G := k ((ba (ba (ba h).1).1).1) ((ba (ba (ba h).1).1).2) ((ba (ba h).1).2) ((ba h).2)
theorem b_LLLLnnnnn {b1 b2 b3 b4 b5 : Bool} {G : Prop} (h : ((((b1 && b2) && b3) && b4) && b5) = true) (k : b1 = true → b2 = true → b3 = true → b4 = true → b5 = true → G) : G := k ((ba (ba (ba (ba h).1).1).1).1) ((ba (ba (ba (ba h).1).1).1).2) ((ba (ba (ba h).1).1).2) ((ba (ba h).1).2) ((ba h).2)
theorem b_LLLLnLnnnnn {b1 b2 b3 b4 b5 b6 : Bool} {G : Prop} (h : ((((b1 && (b2 && b3)) && b4) && b5) && b6) = true) (k : b1 = true → b2 = true → b3 = true → b4 = true → b5 = true → b6 = true → G) : G := k ((ba (ba (ba (ba h).1).1).1).1) ((ba (ba (ba (ba (ba h).1).1).1).2).1) ((ba (ba (ba (ba (ba h).1).1).1).2).2) ((ba (ba (ba h).1).1).2) ((ba (ba h).1).2) ((ba h).2)
theorem b_LLLnnLLLnnnnn {b1 b2 b3 b4 b5 b6 b7 : Bool} {G : Prop} (h : (((b1 && b2) && (((b3 && b4) && b5) && b6)) && b7) = true) (k : b1 = true → b2 = true → b3 = true → b4 = true → b5 = true → b6 = true → b7 = true → G) : G := k ((ba (ba (ba h).1).1).1) ((ba (ba (ba h).1).1).2) ((ba (ba (ba (ba (ba h).1).2).1).1).1) ((ba (ba (ba (ba (ba h).1).2).1).1).2) ((ba (ba (ba (ba h).1).2).1).2) ((ba (ba (ba h).1).2).2) ((ba h).2)
theorem b_LLLnnLLLLnnnnnn {b1 b2 b3 b4 b5 b6 b7 b8 : Bool} {G : Prop} (h : (((b1 && b2) && ((((b3 && b4) && b5) && b6) && b7)) && b8) = true) (k : b1 = true → b2 = true → b3 = true → b4 = true → b5 = true → b6 = true → b7 = true → b8 = true → G) : G := k ((ba (ba (ba h).1).1).1) ((ba (ba (ba h).1).1).2) ((ba (ba (ba (ba (ba (ba h).1).2).1).1).1).1) ((ba (ba (ba (ba (ba (ba h).1).2).1).1).1).2) ((ba (ba (ba (ba (ba h).1).2).1).1).2) ((ba (ba (ba (ba h).1).2).1).2) ((ba (ba (ba h).1).2).2) ((ba h).2)
noncomputable def okS (x : Str) : Prop := x.cps.size ≤ 64 ∧ ∀ c ∈ x.cps.toList, c < 1114111
theorem codeL_nil : codeL [] = 0 := rfl
theorem codeL_cons (c : Nat) (l : List Nat) : codeL (c :: l) = (c + 1) + 1114112 * codeL l := rfl
theorem codeL_inj : ∀ {a b : List Nat}, (∀ c ∈ a, c < 1114111) → (∀ c ∈ b, c < 1114111) → codeL a = codeL b → a = b
 | [], [], _, _, _ => rfl
 | [], c :: b, _, hb, e => by
  rw [codeL_nil, codeL_cons] at e; (simp_all +arith)
 | c :: a, [], _, _, e => by
  rw [codeL_nil, codeL_cons] at e; (simp_all +arith)
 | c :: a, d :: b, ha, hb, e => by
  rw [codeL_cons, codeL_cons] at e
  have h1 := ha c (.head _)
  have h2 := hb d (.head _)
  have h3 : c = d := by lia
  subst h3
  have h4 : codeL a = codeL b := by lia
  rw [codeL_inj (fun x hx => ha x (.tail _ hx)) (fun x hx => hb x (.tail _ hx)) h4]
theorem codeS_inj {x y : Str} (hx : okS x) (hy : okS y) (e : codeS x = codeS y) : x = y := by
 have := codeL_inj hx.2 hy.2 e
 cases x; cases y
 simp only [Str.mk.injEq]
 exact Array.toList_inj.mp this
theorem codeB_cons (c : UInt8) (l : List UInt8) : codeB (c :: l) = (c.toNat + 1) + 1114112 * codeB l := rfl
theorem codeB_inj : ∀ {a b : List UInt8}, codeB a = codeB b → a = b
 | [], [], _ => rfl
 | [], c :: b, e => by
  rw [codeB_cons] at e
  have : codeB ([] : List UInt8) = 0 := rfl
  (simp_all +arith)
 | c :: a, [], e => by
  rw [codeB_cons] at e
  have : codeB ([] : List UInt8) = 0 := rfl
  (simp_all +arith)
 | c :: a, d :: b, e => by
  rw [codeB_cons, codeB_cons] at e
  have h1 := c.toNat_lt
  have h2 := d.toNat_lt
  have h3 : c.toNat = d.toNat := by lia
  have h4 : codeB a = codeB b := by lia
  rw [codeB_inj h4, UInt8.toNat_inj.mp h3]
section
variable (Ω : Nat → Value)
mutual
inductive DatH (h : Heap) : Value → Dat → Prop
 | none : DatH h .none .none
 | bool (b : Bool) : DatH h (.bool b) (.bool b)
 | int (i : Int) (t : Tok) : DatH h (.int i t) (.int i)
 | str (x : Str) (t : Tok) : okS x → DatH h (.str x t) (.str (codeS x))
 | txt (x : Str) (t : Tok) (n : Nat) : x.cps.size ≤ n → DatH h (.str x t) (.txt n)
 | bytes (b : Array UInt8) (t : Tok) : DatH h (.bytes b t) (.bytes b.toList)
 | tup {a : Addr} {vs : List Value} {ds : List Dat} : h.IsTuple a vs.toArray → DatsH h vs ds → DatH h (.ref a) (.tup ds)
 | list {a : Addr} {vs : List Value} {ds : List Dat} : h.IsList a vs.toArray → DatsH h vs ds → DatH h (.ref a) (.list ds)
 | obj (k : Nat) {v : Value} : v = Ω k → DatH h v (.obj k)
inductive DatsH (h : Heap) : List Value → List Dat → Prop
 | nil : DatsH h [] []
 | cons {v : Value} {vs : List Value} {d : Dat} {ds : List Dat} : DatH h v d → DatsH h vs ds → DatsH h (v :: vs) (d :: ds)
end
noncomputable def isIter (v : Value) : Bool := v == .type "tuple_iterator" || v == .type "range_iterator" || v == .type "list_iterator"
structure Up (h h' : Heap) : Prop where
 slots : h.UpToSlots h'
 iters : ∀ b o, h.get? b = some o → isIter o.cls = true ∧ (∃ vs, o.data = .fields vs) → h'.get? b = some o
theorem Up.refl (h : Heap) : Up h h := ⟨Heap.UpToSlots.refl h, fun _ _ e _ => e⟩
theorem Up.trans {a b c : Heap} (x : Up a b) (y : Up b c) : Up a c := ⟨x.slots.trans y.slots, fun p o e i => y.iters p o (x.iters p o e i) i⟩
theorem Up.of_all {h h' : Heap} (k : ∀ b o, h.get? b = some o → h'.get? b = some o) : Up h h' := ⟨Heap.UpToSlots.of_keeps k, fun b o e _ => k b o e⟩
theorem up_isTuple {h h' : Heap} {a : Addr} {items : Array Value} (k : Up h h') (x : h.IsTuple a items) : h'.IsTuple a items := by
 obtain ⟨o, ho, hc, n, hd⟩ := x
 obtain ⟨sl, hs⟩ := k.slots a o ho fun vs q => by rw [hd] at q; injection q
 exact ⟨_, hs, hc, n, hd⟩
theorem up_isList {h h' : Heap} {a : Addr} {items : Array Value} (k : Up h h') (x : h.IsList a items) : h'.IsList a items := by
 obtain ⟨o, ho, hc, n, hd⟩ := x
 obtain ⟨sl, hs⟩ := k.slots a o ho fun vs q => by rw [hd] at q; injection q
 exact ⟨_, hs, hc, n, hd⟩
variable {Ω}
theorem DatsH.i0 {h : Heap} {vs : List Value} (D : DatsH Ω h vs []) : vs = [] := by cases D; rfl
theorem DatsH.n0 {h : Heap} {ds : List Dat} (D : DatsH Ω h [] ds) : ds = [] := by cases D; rfl
theorem DatsH.ic {h : Heap} {vs : List Value} {d : Dat} {ds : List Dat} (D : DatsH Ω h vs (d :: ds)) : ∃ v r, vs = v :: r ∧ DatH Ω h v d ∧ DatsH Ω h r ds := by
 cases D with | cons a r => exact ⟨_, _, rfl, a, r⟩
theorem DatsH.i1 {h : Heap} {vs : List Value} {d : Dat} (D : DatsH Ω h vs [d]) : ∃ v, vs = [v] ∧ DatH Ω h v d := by
 obtain ⟨v, r, q, a, D⟩ := D.ic
 exact ⟨v, by rw [q, D.i0], a⟩
theorem DatsH.i2 {h : Heap} {vs : List Value} {d e : Dat} (D : DatsH Ω h vs [d, e]) : ∃ v w, vs = [v, w] ∧ DatH Ω h v d ∧ DatH Ω h w e := by
 obtain ⟨v, r, q, a, D⟩ := D.ic
 obtain ⟨w, q', b⟩ := D.i1
 exact ⟨v, w, by rw [q, q'], a, b⟩
theorem DatH.ii {h : Heap} {v : Value} {i : Int} (D : DatH Ω h v (.int i)) : ∃ t, v = .int i t := by cases D; exact ⟨_, rfl⟩
theorem DatH.ib {h : Heap} {v : Value} {b : Bool} (D : DatH Ω h v (.bool b)) : v = .bool b := by cases D; rfl
theorem DatH.io {h : Heap} {v : Value} {k : Nat} (D : DatH Ω h v (.obj k)) : v = Ω k := by cases D with | obj _ e => exact e
theorem DatH.it {h : Heap} {v : Value} {ds : List Dat} (D : DatH Ω h v (.tup ds)) : ∃ a vs, v = .ref a ∧ h.IsTuple a vs.toArray ∧ DatsH Ω h vs ds := by
 cases D with | tup x r => exact ⟨_, _, rfl, x, r⟩
theorem DatH.il {h : Heap} {v : Value} {ds : List Dat} (D : DatH Ω h v (.list ds)) : ∃ a vs, v = .ref a ∧ h.IsList a vs.toArray ∧ DatsH Ω h vs ds := by
 cases D with | list x r => exact ⟨_, _, rfl, x, r⟩
theorem DatH.ix {h : Heap} {v : Value} {n : Nat} (D : DatH Ω h v (.txt n)) : ∃ x t, v = .str x t ∧ x.cps.size ≤ n := by
 cases D with | txt x t _ e => exact ⟨x, t, rfl, e⟩
theorem DatH.iy {h : Heap} {v : Value} {l : List UInt8} (D : DatH Ω h v (.bytes l)) : ∃ b t, v = .bytes b t ∧ l = b.toList := by
 cases D with | bytes b t => exact ⟨b, t, rfl, rfl⟩
theorem DatH.map {h h' : Heap} (kt : ∀ {a vs}, h.IsTuple a vs → h'.IsTuple a vs) (kl : ∀ {a vs}, h.IsList a vs → h'.IsList a vs) {v : Value} {d : Dat} (D : DatH Ω h v d) : DatH Ω h' v d :=
 DatH.rec (motive_1 := fun v d _ => DatH Ω h' v d) (motive_2 := fun vs ds _ => DatsH Ω h' vs ds) .none .bool .int .str .txt .bytes (fun x _ r => .tup (kt x) r) (fun x _ r => .list (kl x) r) .obj .nil (fun _ _ a r => .cons a r) D
theorem DatsH.map {h h' : Heap} (kt : ∀ {a vs}, h.IsTuple a vs → h'.IsTuple a vs) (kl : ∀ {a vs}, h.IsList a vs → h'.IsList a vs) {vs : List Value} {ds : List Dat} (D : DatsH Ω h vs ds) : DatsH Ω h' vs ds := by
 induction ds generalizing vs with
 | nil => rw [D.i0]; exact .nil
 | cons d ds ih =>
  obtain ⟨v, r, q, a, D⟩ := D.ic
  rw [q]
  exact .cons (a.map kt kl) (ih D)
theorem DatH.up {h h' : Heap} (k : Up h h') {v : Value} {d : Dat} (D : DatH Ω h v d) : DatH Ω h' v d := D.map (up_isTuple k) (up_isList k)
theorem DatsH.up {h h' : Heap} (k : Up h h') {vs : List Value} {ds : List Dat} (D : DatsH Ω h vs ds) : DatsH Ω h' vs ds := D.map (up_isTuple k) (up_isList k)
theorem DatsH.length {h : Heap} {vs : List Value} {ds : List Dat} (D : DatsH Ω h vs ds) : vs.length = ds.length := by
 induction ds generalizing vs with
 | nil => rw [D.i0]; rfl
 | cons d ds ih =>
  obtain ⟨v, r, q, a, D⟩ := D.ic
  rw [q]
  exact congrArg Nat.succ (ih D)
theorem DatsH.append {h : Heap} {vs : List Value} {ds : List Dat} {us : List Value} {es : List Dat} (D : DatsH Ω h vs ds) (y : DatsH Ω h us es) : DatsH Ω h (vs ++ us) (ds ++ es) := by
 induction ds generalizing vs with
 | nil => rw [D.i0]; exact y
 | cons d ds ih =>
  obtain ⟨v, r, q, a, D⟩ := D.ic
  rw [q]
  exact .cons a (ih D)
theorem DatsH.get {h : Heap} {vs : List Value} {ds : List Dat} (D : DatsH Ω h vs ds) {i : Nat} {d : Dat} (e : ds[i]? = some d) : ∃ v, vs[i]? = some v ∧ DatH Ω h v d := by
 induction ds generalizing vs i with
 | nil => exact nn e
 | cons d' ds ih =>
  obtain ⟨v, r, q, a, D⟩ := D.ic
  rw [q]
  induction i using Nat.casesAuxOn with
  | zero => exact ⟨v, rfl, (si e : d' = d) ▸ a⟩
  | succ i => exact ih D e
theorem DatsH.take {h : Heap} {vs : List Value} {ds : List Dat} (n : Nat) (D : DatsH Ω h vs ds) : DatsH Ω h (vs.take n) (ds.take n) := by
 induction ds generalizing vs n with
 | nil => rw [D.i0, List.take_nil, List.take_nil]; exact .nil
 | cons d ds ih =>
  obtain ⟨v, r, q, a, D⟩ := D.ic
  rw [q]
  induction n using Nat.casesAuxOn with
  | zero => exact .nil
  | succ n => exact .cons a (ih n D)
theorem DatsH.drop {h : Heap} {vs : List Value} {ds : List Dat} (n : Nat) (D : DatsH Ω h vs ds) : DatsH Ω h (vs.drop n) (ds.drop n) := by
 induction ds generalizing vs n with
 | nil => rw [D.i0, List.drop_nil, List.drop_nil]; exact .nil
 | cons d ds ih =>
  induction n using Nat.casesAuxOn with
  | zero => exact D
  | succ n =>
   obtain ⟨v, r, q, a, D⟩ := D.ic
   rw [q]
   exact ih n D
noncomputable def OmRef (Ω : Nat → Value) : Prop := ∀ k, ∃ a, Ω k = .ref a
theorem eqL_some {f : Dat → Dat → Option Bool} : ∀ {a b : List Dat} {q : Bool}, eqL f a b = some q →
  (∀ (j : Nat) (h1 : j < a.length) (h2 : j < b.length), ∃ r, f a[j] b[j] = some r) ∧
   ∀ e : Nat → Bool, (∀ (j : Nat) (h1 : j < a.length) (h2 : j < b.length), f a[j] b[j] = some (e j)) → q = ((List.range (min a.length b.length)).all e && a.length == b.length)
 | [], [], q, h => by
  have : q = true := by simpa [eqL] using h.symm
  subst this
  exact ⟨fun j h1 => absurd h1 (Nat.not_lt_zero _), fun e _ => by simp⟩
 | [], y :: t, q, h => by
  have : q = false := by simpa [eqL] using h.symm
  subst this
  exact ⟨fun j h1 => absurd h1 (Nat.not_lt_zero _), fun e _ => by simp⟩
 | x :: r, [], q, h => by
  have : q = false := by simpa [eqL] using h.symm
  subst this
  exact ⟨fun j _ h2 => absurd h2 (Nat.not_lt_zero _), fun e _ => by simp⟩
 | x :: r, y :: t, q, h => by
  have h' : and2 (f x y) (eqL f r t) = some q := h
  induction hx : f x y with
  | none => rw [hx] at h'; exact nn h'
  | some p =>
   induction hr : eqL f r t with
   | none => rw [hx, hr] at h'; exact nn h'
   | some q' =>
    rw [hx, hr] at h'
    have hq : q = (p && q') := by induction p <;> cases h' <;> rfl
    obtain ⟨i1, i2⟩ := eqL_some hr
    refine ⟨fun j h1 h2 => ?_, fun e he => ?_⟩
    ·induction j using Nat.casesAuxOn with
     | zero => exact ⟨p, hx⟩
     | succ j => exact i1 j (Nat.lt_of_succ_lt_succ h1) (Nat.lt_of_succ_lt_succ h2)
    ·have e0 : p = e 0 := Option.some.inj (hx.symm.trans (he 0 (Nat.zero_lt_succ _) (Nat.zero_lt_succ _)))
     have e1 := i2 (fun j => e (j + 1)) fun j h1 h2 => he (j + 1) (Nat.succ_lt_succ h1) (Nat.succ_lt_succ h2)
     rw [hq, e1, e0]
     simp only [List.length_cons, Nat.succ_min_succ, List.range_succ_eq_map, List.all_cons, List.all_map]
     rw [Bool.and_assoc]
     congr 1
     simp [Function.comp_def]
noncomputable def eqF : Nat → Dat → Dat → Option Bool := @Nat.rec (fun _ => Dat → Dat → Option Bool) (fun _ _ => none) (fun _ ih => eq1 ih)
end
end
section
open PySem PySem.W PySem.SeqAt
section
variable {A : Around} {s : Shared} {Ω : Nat → Value}
noncomputable def Cmp3 (A : Around) (s : Shared) (v v' : Value) (b : Bool) : Prop := RcAt A s v v' b ∧ RcNeAt A s v v' (!b) ∧ EqAt A s v v' b
theorem rc_bytes (a b : Array UInt8) (t u : Tok) : RcAt A s (.bytes a t) (.bytes b u) (a.toList == b.toList) := fun _ _ _ _ h => eq_bytes h
theorem rcne_bytes (a b : Array UInt8) (t u : Tok) : RcNeAt A s (.bytes a t) (.bytes b u) (!(a.toList == b.toList)) := fun _ _ _ _ h => ne_bytes h
theorem eq_at_bytes (a b : Array UInt8) (t u : Tok) : EqAt A s (.bytes a t) (.bytes b u) (a.toList == b.toList) := fun prog w E Q h => by
 unfold eqBool
 refine wpAny_holding ?_
 refine wpAny_ite_split (fun hab => ?_) (fun _ => ?_)
 ·have e : a = b := by have := eq_of_beq hab; injection this
  subst e
  exact wpAny_bind (wpAny_rule (wpAny_pure (by simpa using h)))
 ·exact wpAny_bind (rc_bytes a b t u prog w E _ (wpAny_truthy_bool h))
theorem eqB_beq (a b : Int) : Z.eqB a b = (a == b) := by
 rw [Bool.eq_iff_iff, Z.eqB_iff, beq_iff_eq]
theorem str_code {x y : Str} (hx : okS x) (hy : okS y) : Nat.beq (codeS x) (codeS y) = (x == y) := by
 rw [Bool.eq_iff_iff, beq_iff_eq]
 exact ⟨fun h => codeS_inj hx hy (Nat.eq_of_beq_eq_true h), fun h => by rw [h]; exact Nat.beq_refl _⟩
theorem bytes_code {x y : List UInt8} : Nat.beq (codeB x) (codeB y) = (x == y) := by
 rw [Bool.eq_iff_iff, beq_iff_eq]
 exact ⟨fun h => codeB_inj (Nat.eq_of_beq_eq_true h), fun h => by rw [h]; exact Nat.beq_refl _⟩
theorem bool_eq (a b : Bool) : bEq2 a b = (a == b) := by induction a <;> cases b <;> rfl
theorem bool_num (a : Bool) : b01 a = if a then 1 else 0 := by induction a <;> rfl
theorem eqF_succ (n : Nat) (d d' : Dat) : eqF (n + 1) d d' = eq1 (eqF n) d d' := rfl
theorem DatsH.getBoth {h : Heap} {vs : List Value} {ds : List Dat} (D : DatsH Ω h vs ds) (j : Nat) (h1 : j < vs.length) (h2 : j < ds.length) : DatH Ω h vs[j] ds[j] := by
 obtain ⟨v, e, a⟩ := D.get (List.getElem?_eq_getElem h2)
 rw [List.getElem?_eq_getElem h1] at e
 rw [si e]
 exact a
theorem tuple_same {h : Heap} {a : Addr} {vs us : List Value} (x : h.IsTuple a vs.toArray) (y : h.IsTuple a us.toArray) : vs = us := by
 refine o_xaax x fun o ho _ n hd => ?_
 clear x
 refine o_xaax y fun o' ho' _ n' hd' => ?_
 clear y
 rw [ho] at ho'
 obtain rfl := si ho'
 rw [hd] at hd'
 simp only [Data.seq.injEq] at hd'
 simpa using hd'.1
theorem no_both {h : Heap} {a : Addr} {i j : Array Value} (x : h.IsList a i) (y : h.IsTuple a j) : False := by
 refine o_xaa x fun o ho hc _ => ?_
 clear x
 refine o_xaa y fun o' ho' hc' _ => ?_
 clear y
 rw [ho] at ho'
 obtain rfl := si ho'
 rw [hc] at hc'
 simp at hc'
theorem list_same {h : Heap} {a : Addr} {vs us : List Value} (x : h.IsList a vs.toArray) (y : h.IsList a us.toArray) : vs = us := by
 refine o_xaax x fun o ho _ n hd => ?_
 clear x
 refine o_xaax y fun o' ho' _ n' hd' => ?_
 clear y
 rw [ho] at ho'
 obtain rfl := si ho'
 rw [hd] at hd'
 simp only [Data.seq.injEq] at hd'
 simpa using hd'.1
theorem eqF_same {h : Heap} : ∀ (n : Nat) {d d' : Dat} {v : Value} {b : Bool}, DatH Ω h v d → DatH Ω h v d' → eqF n d d' = some b → b = true
 | 0, _, _, _, _, _, _, e => by exact nn e
 | n + 1, d, d', v, b, h1, h2, e => by
  rw [eqF_succ] at e
  have deep : ∀ {vs : List Value} {ds es : List Dat} {q : Bool}, DatsH Ω h vs ds → DatsH Ω h vs es → eqL (eqF n) ds es = some q → q = true := by
   intro vs ds es q hv hw he
   obtain ⟨i1, i2⟩ := eqL_some he
   have lv := hv.length
   have lw := hw.length
   have := i2 (fun _ => true) fun j h1 h2 => by
    obtain ⟨r, hr⟩ := i1 j h1 h2
    rw [hr, eqF_same n (hv.getBoth j (lv ▸ h1) h1) (hw.getBoth j (lw ▸ h2) h2) hr]
   rw [this]
   simp [← lv, ← lw]
  induction h1 using DatH.casesOn with
  | none => cases h2 with
   | none => obtain rfl := si e; rfl
   | obj k ek => exact nn e
  | bool p => cases h2 with
   | bool => (have e' : some (bEq2 p p) = some b := e; obtain rfl := si e'; induction p <;> rfl)
   | obj k ek => exact nn e
  | int p t => cases h2 with
   | int => (have e' : some (Z.eqB p p) = some b := e; obtain rfl := si e'; rw [eqB_beq]; simp)
   | obj k ek => exact nn e
  | str x t o => cases h2 with
   | str => (have e' : some (Nat.beq (codeS x) (codeS x)) = some b := e; obtain rfl := si e'; exact Nat.beq_refl _)
   | txt => exact nn e
   | obj k ek => exact nn e
  | txt x t k o => cases h2 <;> exact nn e
  | bytes p t => cases h2 with
   | bytes => (have e' : some (Nat.beq (codeB p.toList) (codeB p.toList)) = some b := e; obtain rfl := si e'; exact Nat.beq_refl _)
   | obj k ek => exact nn e
  | tup x r => cases h2 with
   | tup x' r' =>
    have := tuple_same x x'
    subst this
    exact deep r r' e
   | list x' r' => exact (no_both x' x).elim
   | obj k ek => exact nn e
  | list x r => cases h2 with
   | tup x' r' => exact (no_both x x').elim
   | list x' r' =>
    have := list_same x x'
    subst this
    exact deep r r' e
   | obj k ek => exact nn e
  | obj k ek => exact nn e
theorem eq_of_rc {a b : Addr} {k : Bool} (hr : a = b → k = true) (R : RcAt A s (.ref a) (.ref b) k) : EqAt A s (.ref a) (.ref b) k := by
 by_cases h : a = b
 ·rw [hr h, h]; exact .same _
 ·exact .of_refs h R
set_option maxHeartbeats 4000000 in
theorem cmp_at : ∀ (n : Nat) {A : Around} {d d' : Dat} {v v' : Value} {b : Bool}, DatH Ω s.heap v d → DatH Ω s.heap v' d' → eqF n d d' = some b → A.units + n < cLine → Cmp3 A s v v' b
 | 0, _, _, _, _, _, _, _, _, e, _ => by exact nn e
 | n + 1, A, d, d', v, v', b, h1, h2, e, hu => by
  rw [eqF_succ] at e
  have hu0 : A.units < cLine := by lia
  have deep : ∀ {vs us : List Value} {ds es : List Dat} {q : Bool}, DatsH Ω s.heap vs ds → DatsH Ω s.heap us es → eqL (eqF n) ds es = some q →
    ∃ f : Nat → Bool, (∀ j (h1 : j < vs.toArray.size) (h2 : j < us.toArray.size), EqAt A.in1 s vs.toArray[j] us.toArray[j] (f j)) ∧ q = ((List.range (min vs.toArray.size us.toArray.size)).all f && vs.toArray.size == us.toArray.size) := by
   intro vs us ds es q hv hw he
   obtain ⟨i1, i2⟩ := eqL_some he
   have lv := hv.length
   have lw := hw.length
   let f : Nat → Bool := fun j => if h : j < ds.length ∧ j < es.length then (eqF n ds[j] es[j]).getD false else false
   have hf : ∀ (j : Nat) (h1 : j < ds.length) (h2 : j < es.length), eqF n ds[j] es[j] = some (f j) := fun j h1 h2 => by
    obtain ⟨r, hr⟩ := i1 j h1 h2
    simp only [f, h1, h2, and_self, dif_pos, hr, Option.getD_some]
   refine ⟨f, fun j h1 h2 => ?_, ?_⟩
   ·have h1' : j < vs.length := by simpa using h1
    have h2' : j < us.length := by simpa using h2
    have := (cmp_at n (A := A.in1) (hv.getBoth j h1' (lv ▸ h1')) (hw.getBoth j h2' (lw ▸ h2')) (hf j (lv ▸ h1') (lw ▸ h2')) (by show A.units + 1 + n < cLine; (simp +arith at *; assumption))).2.2
    simpa using this
   ·rw [i2 f hf]
    simp only [List.size_toArray, lv, lw]
  induction h1 using DatH.casesOn with
  | none => induction h2 using DatH.casesOn with
   | none => (have e' : some (true) = some b := e; obtain rfl := si e'; exact ⟨.none_none, .none_none, .same _⟩)
   | bool p2 => (have e' : some (false) = some b := e; obtain rfl := si e'; exact ⟨.none_bool _, .none_bool _, .none_bool _⟩)
   | int p2 t2 => (have e' : some (false) = some b := e; obtain rfl := si e'; exact ⟨.none_int _ _, .none_int _ _, .none_int _ _⟩)
   | str p2 t2 o2 => (have e' : some (false) = some b := e; obtain rfl := si e'; exact ⟨.none_str _ _, .none_str _ _, .none_str _ _⟩)
   | txt p2 t2 n2 o2 => exact nn e
   | bytes p2 t2 => exact nn e
   | tup x2 r2 => (have e' : some (false) = some b := e; obtain rfl := si e'; exact ⟨.none_tuple x2 hu0, .none_tuple x2 hu0, .none_tuple x2 hu0⟩)
   | list x2 r2 => (have e' : some (false) = some b := e; obtain rfl := si e'; exact ⟨.none_list x2 hu0, .none_list x2 hu0, .none_list x2 hu0⟩)
   | obj k2 ek2 => exact nn e
  | bool p1 => induction h2 using DatH.casesOn with
   | none => (have e' : some (false) = some b := e; obtain rfl := si e'; exact ⟨.bool_none _, .bool_none _, .bool_none _⟩)
   | bool p2 => (have e' : some (bEq2 p1 p2) = some b := e; obtain rfl := si e'; exact by rw [bool_eq]; exact ⟨.bool_bool _ _, .bool_bool _ _, .bool_bool _ _⟩)
   | int p2 t2 => (have e' : some (Z.eqB (b01 p1) p2) = some b := e; obtain rfl := si e'; exact by rw [eqB_beq, bool_num]; exact ⟨.bool_int _ _ _, .bool_int _ _ _, .bool_int _ _ _⟩)
   | str p2 t2 o2 => (have e' : some (false) = some b := e; obtain rfl := si e'; exact ⟨.bool_str _ _ _, .bool_str _ _ _, .bool_str _ _ _⟩)
   | txt p2 t2 n2 o2 => exact nn e
   | bytes p2 t2 => exact nn e
   | tup x2 r2 => (have e' : some (false) = some b := e; obtain rfl := si e'; exact ⟨.bool_tuple _ x2 hu0, .bool_tuple _ x2 hu0, .bool_tuple _ x2 hu0⟩)
   | list x2 r2 => (have e' : some (false) = some b := e; obtain rfl := si e'; exact ⟨.bool_list _ x2 hu0, .bool_list _ x2 hu0, .bool_list _ x2 hu0⟩)
   | obj k2 ek2 => exact nn e
  | int p1 t1 => induction h2 using DatH.casesOn with
   | none => (have e' : some (false) = some b := e; obtain rfl := si e'; exact ⟨.int_none _ _, .int_none _ _, .int_none _ _⟩)
   | bool p2 => (have e' : some (Z.eqB p1 (b01 p2)) = some b := e; obtain rfl := si e'; exact by rw [eqB_beq, bool_num]; exact ⟨.int_bool _ _ _, .int_bool _ _ _, .int_bool _ _ _⟩)
   | int p2 t2 => (have e' : some (Z.eqB p1 p2) = some b := e; obtain rfl := si e'; exact by rw [eqB_beq]; exact ⟨.int_int _ _ _ _, .int_int _ _ _ _, .int_int _ _ _ _⟩)
   | str p2 t2 o2 => (have e' : some (false) = some b := e; obtain rfl := si e'; exact ⟨.int_str _ _ _ _, .int_str _ _ _ _, .int_str _ _ _ _⟩)
   | txt p2 t2 n2 o2 => exact nn e
   | bytes p2 t2 => exact nn e
   | tup x2 r2 => (have e' : some (false) = some b := e; obtain rfl := si e'; exact ⟨.int_tuple _ _ x2 hu0, .int_tuple _ _ x2 hu0, .int_tuple _ _ x2 hu0⟩)
   | list x2 r2 => (have e' : some (false) = some b := e; obtain rfl := si e'; exact ⟨.int_list _ _ x2 hu0, .int_list _ _ x2 hu0, .int_list _ _ x2 hu0⟩)
   | obj k2 ek2 => exact nn e
  | str p1 t1 o1 => induction h2 using DatH.casesOn with
   | none => (have e' : some (false) = some b := e; obtain rfl := si e'; exact ⟨.str_none _ _, .str_none _ _, .str_none _ _⟩)
   | bool p2 => (have e' : some (false) = some b := e; obtain rfl := si e'; exact ⟨.str_bool _ _ _, .str_bool _ _ _, .str_bool _ _ _⟩)
   | int p2 t2 => (have e' : some (false) = some b := e; obtain rfl := si e'; exact ⟨.str_int _ _ _ _, .str_int _ _ _ _, .str_int _ _ _ _⟩)
   | str p2 t2 o2 => (have e' : some (Nat.beq (codeS p1) (codeS p2)) = some b := e; obtain rfl := si e'; exact by rw [str_code o1 o2]; exact ⟨.str_str _ _ _ _, .str_str _ _ _ _, .str_str _ _ _ _⟩)
   | txt p2 t2 n2 o2 => exact nn e
   | bytes p2 t2 => exact nn e
   | tup x2 r2 => (have e' : some (false) = some b := e; obtain rfl := si e'; exact ⟨.str_tuple _ _ x2 hu0, .str_tuple _ _ x2 hu0, .str_tuple _ _ x2 hu0⟩)
   | list x2 r2 => (have e' : some (false) = some b := e; obtain rfl := si e'; exact ⟨.str_list _ _ x2 hu0, .str_list _ _ x2 hu0, .str_list _ _ x2 hu0⟩)
   | obj k2 ek2 => exact nn e
  | txt p1 t1 n1 o1 => induction h2 using DatH.casesOn with
   | none => exact nn e
   | bool p2 => exact nn e
   | int p2 t2 => exact nn e
   | str p2 t2 o2 => exact nn e
   | txt p2 t2 n2 o2 => exact nn e
   | bytes p2 t2 => exact nn e
   | tup x2 r2 => exact nn e
   | list x2 r2 => exact nn e
   | obj k2 ek2 => exact nn e
  | bytes p1 t1 => induction h2 using DatH.casesOn with
   | none => exact nn e
   | bool p2 => exact nn e
   | int p2 t2 => exact nn e
   | str p2 t2 o2 => exact nn e
   | txt p2 t2 n2 o2 => exact nn e
   | bytes p2 t2 => (have e' : some (Nat.beq (codeB p1.toList) (codeB p2.toList)) = some b := e; obtain rfl := si e'; exact by rw [bytes_code]; exact ⟨rc_bytes _ _ _ _, rcne_bytes _ _ _ _, eq_at_bytes _ _ _ _⟩)
   | tup x2 r2 => exact nn e
   | list x2 r2 => exact nn e
   | obj k2 ek2 => exact nn e
  | tup x1 r1 => induction h2 using DatH.casesOn with
   | none => (have e' : some (false) = some b := e; obtain rfl := si e'; exact ⟨.tuple_none x1 hu0, .tuple_none x1 hu0, .tuple_none x1 hu0⟩)
   | bool p2 => (have e' : some (false) = some b := e; obtain rfl := si e'; exact ⟨.tuple_bool _ x1 hu0, .tuple_bool _ x1 hu0, .tuple_bool _ x1 hu0⟩)
   | int p2 t2 => (have e' : some (false) = some b := e; obtain rfl := si e'; exact ⟨.tuple_int _ _ x1 hu0, .tuple_int _ _ x1 hu0, .tuple_int _ _ x1 hu0⟩)
   | str p2 t2 o2 => (have e' : some (false) = some b := e; obtain rfl := si e'; exact ⟨.tuple_str _ _ x1 hu0, .tuple_str _ _ x1 hu0, .tuple_str _ _ x1 hu0⟩)
   | txt p2 t2 n2 o2 => exact nn e
   | bytes p2 t2 => exact nn e
   | tup x2 r2 =>
    refine o_xa (deep r1 r2 e) fun f hf hq => ?_
    rw [hq]
    have R := RcAt.tuples (e := f) x1 x2 hu0 hf
    have R' := RcNeAt.tuples (e := f) x1 x2 hu0 hf
    refine ⟨R, R', eq_of_rc (fun hab => ?_) R⟩
    subst hab
    have := tuple_same x1 x2
    subst this
    rw [← hq]
    exact eqF_same (n + 1) (.tup x1 r1) (.tup x2 r2) (by rw [eqF_succ]; exact e)
   | list x2 r2 => (have e' : some (false) = some b := e; obtain rfl := si e'; exact ⟨.tuple_list x1 x2 hu0, .tuple_list x1 x2 hu0, .tuple_list x1 x2 hu0⟩)
   | obj k2 ek2 => exact nn e
  | @list a1 vs ds1 x1 r1 => induction h2 using DatH.casesOn with
   | none => (have e' : some (false) = some b := e; obtain rfl := si e'; exact ⟨.list_none x1 hu0, .list_none x1 hu0, .list_none x1 hu0⟩)
   | bool p2 => (have e' : some (false) = some b := e; obtain rfl := si e'; exact ⟨.list_bool _ x1 hu0, .list_bool _ x1 hu0, .list_bool _ x1 hu0⟩)
   | int p2 t2 => (have e' : some (false) = some b := e; obtain rfl := si e'; exact ⟨.list_int _ _ x1 hu0, .list_int _ _ x1 hu0, .list_int _ _ x1 hu0⟩)
   | str p2 t2 o2 => (have e' : some (false) = some b := e; obtain rfl := si e'; exact ⟨.list_str _ _ x1 hu0, .list_str _ _ x1 hu0, .list_str _ _ x1 hu0⟩)
   | txt p2 t2 n2 o2 => exact nn e
   | bytes p2 t2 => exact nn e
   | tup x2 r2 => (have e' : some (false) = some b := e; obtain rfl := si e'; exact ⟨.list_tuple x1 x2 hu0, .list_tuple x1 x2 hu0, .list_tuple x1 x2 hu0⟩)
   | @list a2 us ds2 x2 r2 =>
    refine o_xa (deep r1 r2 e) fun f hf hq => ?_
    have fin : RcAt A s (.ref a1) (.ref a2) b ∧ RcNeAt A s (.ref a1) (.ref a2) (!b) := by
     by_cases hs : vs.toArray.size = us.toArray.size
     ·have e2 : b = (List.range vs.toArray.size).all f := by rw [hq, ← hs]; simp
      rw [e2]
      exact ⟨RcAt.lists (e := f) x1 x2 hs hu0 hf, RcNeAt.lists (e := f) x1 x2 hs hu0 hf⟩
     ·have e2 : b = false := by rw [hq, beq_eq_false_iff_ne.mpr hs, Bool.and_false]
      rw [e2]
      exact ⟨RcAt.lists_lengths x1 x2 (by simpa using hs) hu0, RcNeAt.lists_lengths x1 x2 (by simpa using hs) hu0⟩
    refine ⟨fin.1, fin.2, eq_of_rc (fun hab => ?_) fin.1⟩
    subst hab
    exact eqF_same (n + 1) (.list x1 r1) (.list x2 r2) (by rw [eqF_succ]; exact e)
   | obj k2 ek2 => exact nn e
  | obj k1 ek1 => induction h2 using DatH.casesOn with
   | none => exact nn e
   | bool p2 => exact nn e
   | int p2 t2 => exact nn e
   | str p2 t2 o2 => exact nn e
   | txt p2 t2 n2 o2 => exact nn e
   | bytes p2 t2 => exact nn e
   | tup x2 r2 => exact nn e
   | list x2 r2 => exact nn e
   | obj k2 ek2 => exact nn e
end
end
section
open PySem PySem.W PySem.SeqAt
section
variable {Ω : Nat → Value}
noncomputable def Soft (h h' : Heap) : Prop := ∀ b o items n, h.get? b = some o → o.data = .seq items n → ∃ sl, h'.get? b = some { o with slots := sl }
theorem Soft.of_up {h h' : Heap} (k : Up h h') : Soft h h' := fun b o _ _ hb hd => k.slots b o hb fun vs q => by rw [hd] at q; injection q
theorem Soft.tup {h h' : Heap} {a : Addr} {items : Array Value} (k : Soft h h') (x : h.IsTuple a items) : h'.IsTuple a items := by
 refine o_xaax x fun o ho hc n hd => ?_
 clear x
 obtain ⟨sl, hs⟩ := k a o _ _ ho hd
 exact ⟨_, hs, hc, n, hd⟩
theorem Soft.lst {h h' : Heap} {a : Addr} {items : Array Value} (k : Soft h h') (x : h.IsList a items) : h'.IsList a items := by
 refine o_xaax x fun o ho hc n hd => ?_
 clear x
 obtain ⟨sl, hs⟩ := k a o _ _ ho hd
 exact ⟨_, hs, hc, n, hd⟩
theorem DatH.soft {h h' : Heap} (k : Soft h h') {v : Value} {d : Dat} (D : DatH Ω h v d) : DatH Ω h' v d := D.map k.tup k.lst
theorem DatsH.soft {h h' : Heap} (k : Soft h h') {vs : List Value} {ds : List Dat} (D : DatsH Ω h vs ds) : DatsH Ω h' vs ds := D.map k.tup k.lst
theorem nth_get : ∀ {ρ : List Dat} {i : Nat}, nth ρ i ≠ .hole → ρ[i]? = some (nth ρ i)
 | [], i, h => absurd rfl h
 | d :: r, 0, _ => rfl
 | d :: r, i + 1, h => by
  have : nth (d :: r) (i + 1) = nth r i := rfl
  rw [this] at h ⊢
  simpa using nth_get h
theorem putN_get : ∀ (ρ : List Dat) (d : Dat) (i j : Nat), (putN d i ρ)[j]? = if j = i ∧ i < ρ.length then some d else ρ[j]?
 | [], d, 0, j => by show ([] : List Dat)[j]? = _; simp
 | [], d, i + 1, j => by show ([] : List Dat)[j]? = _; simp
 | x :: r, d, 0, 0 => by show (d :: r)[0]? = _; simp
 | x :: r, d, 0, j + 1 => by show (d :: r)[j + 1]? = _; simp
 | x :: r, d, i + 1, 0 => by simp [putN]
 | x :: r, d, i + 1, j + 1 => by
  have : putN d (i + 1) (x :: r) = x :: putN d i r := rfl
  rw [this]
  simp only [List.getElem?_cons_succ, List.length_cons, Nat.add_lt_add_iff_right, Nat.add_right_cancel_iff]
  exact putN_get r d i j
theorem putN_length : ∀ (i : Nat) (d : Dat) (ρ : List Dat), (putN d i ρ).length = ρ.length
 | 0, d, [] => rfl
 | 0, d, x :: r => rfl
 | i + 1, d, [] => rfl
 | i + 1, d, x :: r => by
  have : putN d (i + 1) (x :: r) = x :: putN d i r := rfl
  rw [this, List.length_cons, putN_length i d r, List.length_cons]
structure Frm (Ω : Nat → Value) (env : Env) (xs : List Str) (ρ : List Dat) (h : Heap) : Prop where
 ex : ∃ m, h.Ns env.locals m ∧ ∀ (i : Nat) (x : Str) (d : Dat), xs[i]? = some x → ρ[i]? = some d → d = .hole ∨
  ((env.kindOf x = some .local → ∃ v, m x = some v ∧ DatH Ω h v d) ∧
   (env.kindOf x = some .cell ∨ env.kindOf x = some .free → ∃ c v, env.cells.lookup x = some c ∧ h.IsCell c (some v) ∧ DatH Ω h v d))
 cells : ∀ x c, env.cells.lookup x = some c → ∃ o, h.IsCell c o
 has : ∀ x, env.kindOf x = some .cell → ∃ c, env.cells.lookup x = some c
 one : ∀ x y c, env.cells.lookup x = some c → env.cells.lookup y = some c → x = y
 len : ρ.length = xs.length
theorem up_cell {h h' : Heap} {c : Addr} {v : Option Value} (k : Up h h') (x : h.IsCell c v) : h'.IsCell c v := by
 refine o_xa x fun o ho hd => ?_
 clear x
 obtain ⟨sl, hs⟩ := k.slots c o ho fun vs q => by rw [hd] at q; injection q
 exact ⟨_, hs, hd⟩
theorem Frm.up {env : Env} {xs : List Str} {ρ : List Dat} {h h' : Heap} (k : Up h h') (F : Frm Ω env xs ρ h) : Frm Ω env xs ρ h' := by
 refine via fun Gv kv => ?_
 obtain ⟨⟨m, hn, hv⟩, hc, hh, h1, hln⟩ := F
 refine kv ?_
 clear kv Gv
 refine ⟨⟨m, k.slots.ns hn, fun i x d hx hd => ?_⟩, fun x c e => let ⟨o, q⟩ := hc x c e; ⟨o, up_cell k q⟩, hh, h1, hln⟩
 rcases hv i x d hx hd with e | ⟨a, b⟩
 ·exact .inl e
 ·exact .inr ⟨fun e => let ⟨v, e1, e2⟩ := a e; ⟨v, e1, e2.up k⟩, fun e => let ⟨c, v, e1, e2, e3⟩ := b e; ⟨c, v, e1, up_cell k e2, e3.up k⟩⟩
noncomputable def Own (env : Env) (h h' : Heap) : Prop := ∀ b o, h.get? b = some o → b ≠ env.locals → (∀ y, env.kindOf y = some .cell → env.cells.lookup y ≠ some b) → h'.get? b = some o
theorem ns_cell {h : Heap} {a : Addr} {m : Str → Option Value} {v : Option Value} (x : h.Ns a m) (y : h.IsCell a v) : False := by
 refine o_xxxaa x fun o es ep ho hd _ => ?_
 clear x
 refine o_xa y fun o' ho' hd' => ?_
 clear y
 rw [ho] at ho'
 cases ho'
 rw [hd] at hd'
 injection hd'
variable {M : Model} {A : Around} {E : Value → Shared → Prop} {s : Shared} {env : Env} {xs : List Str} {ρ : List Dat}
theorem wp_load {i : Nat} {x : Str} {p : Pos} {d : Dat} {Q : Value → Shared → Prop} (F : Frm Ω env xs ρ s.heap) (hx : xs[i]? = some x) (hd : ρ[i]? = some d) (hne : d ≠ .hole)
  (hk : env.scope.kind = .function) (hl : env.kindOf x = some .local ∨ env.kindOf x = some .cell ∨ env.kindOf x = some .free)
  (h1 : (x == ("__debug__" : Str)) = false) (h2 : (x == ("__classdict__" : Str)) = false) (h : ∀ v, DatH Ω s.heap v d → Q v s) : wpAny M A (eval (.Name x p) env) Q E s := by
 refine via fun Gv kv => ?_
 obtain ⟨⟨m, hn, hv⟩, -, -, -, -⟩ := F
 refine kv ?_
 clear kv Gv
 rcases hv i x d hx hd with e | ⟨a, b⟩
 ·exact absurd e hne
 refine wpAny_Name ?_ h1
 rcases hl with hl | hl | hl
 ·refine o_xa (a hl) fun v e1 e2 => ?_
  exact wpAny_loadName_local hk hl hn e1 (h v e2)
 ·refine o_xxaa (b (.inl hl)) fun c v e1 e2 e3 => ?_
  exact wpAny_loadName_cell hk hl e1 e2 (h v e3)
 ·refine o_xxaa (b (.inr hl)) fun c v e1 e2 e3 => ?_
  exact wpAny_loadName_free hk hl e1 e2 (h v e3) h2
theorem soft_of_own {h h' : Heap} {m : Str → Option Value} (hn : h.Ns env.locals m) (hc : ∀ x c, env.cells.lookup x = some c → ∃ o, h.IsCell c o) (k : Own env h h') : Soft h h' := fun b o items n hb hd => by
 refine ⟨o.slots, k b o hb (fun q => ?_) fun y hy q => ?_⟩
 ·subst q
  refine o_xxxaa hn fun o' es ep ho' hd' _ => ?_
  clear hn
  rw [hb] at ho'
  obtain rfl := si ho'
  rw [hd] at hd'
  injection hd'
 ·refine o_xxa (hc y b q) fun v o' ho' hd' => ?_
  rw [hb] at ho'
  obtain rfl := si ho'
  rw [hd] at hd'
  injection hd'
theorem wp_store {i : Nat} {x : Str} {v : Value} {d : Dat} {Q : Unit → Shared → Prop} (F : Frm Ω env xs ρ s.heap) (hnd : xs.Nodup) (hx : xs[i]? = some x)
  (hk : env.scope.kind = .function) (hl : env.kindOf x = some .local ∨ env.kindOf x = some .cell) (D : DatH Ω s.heap v d)
  (h : ∀ h' tk, Frm Ω env xs (putN d i ρ) h' → Own env s.heap h' → Q () { s with heap := h', toks := tk }) : wpAny M A (storeName env x v) Q E s := by
 refine via fun Gv kv => ?_
 obtain ⟨⟨m, hn, hv⟩, hc, hh, h1, hln⟩ := F
 refine kv ?_
 clear kv Gv
 have hij : ∀ (j : Nat) (y : Str), xs[j]? = some y → j ≠ i → y ≠ x := fun j y hj hji e => by
  subst e
  have hi' := (List.getElem?_eq_some_iff.mp hx)
  have hj' := (List.getElem?_eq_some_iff.mp hj)
  obtain ⟨a1, a2⟩ := hi'
  obtain ⟨b1, b2⟩ := hj'
  exact hji ((List.getElem_inj hnd).mp (b2.trans a2.symm))
 have gets : ∀ (j : Nat) (y : Str) (d' : Dat), xs[j]? = some y → (putN d i ρ)[j]? = some d' → (y = x ∧ d' = d) ∨ (y ≠ x ∧ ρ[j]? = some d') := fun j y d' hj hd' => by
  rw [putN_get] at hd'
  by_cases hji : j = i
  ·subst hji
   rw [hx] at hj
   cases hj
   by_cases hlen : j < ρ.length
   ·rw [if_pos ⟨rfl, hlen⟩] at hd'
    cases hd'
    exact .inl ⟨rfl, rfl⟩
   ·rw [if_neg (fun q => hlen q.2)] at hd'
    exact absurd (List.getElem?_eq_some_iff.mp hd').1 hlen
  ·rw [if_neg (fun q => hji q.1)] at hd'
   exact .inr ⟨hij j y hj hji, hd'⟩
 rcases hl with hl | hl
 ·refine wpAny_storeName_local hl hn (fun h' hn' hs' => h _ _ ?_ ?_) (by rw [hk]; rfl)
  ·have own : Own env s.heap h' := fun b o hb hne _ => (hs'.2 b hne).trans hb
   have soft := soft_of_own hn hc own
   have cellk : ∀ c o, s.heap.IsCell c o → h'.IsCell c o := fun c o q => q.sameBut hs' fun e => ns_cell hn (e ▸ q)
   refine ⟨⟨_, hn', fun j y d' hj hd' => ?_⟩, fun y c e => let ⟨o, q⟩ := hc y c e; ⟨o, cellk c o q⟩, hh, h1, (putN_length _ _ _).trans hln⟩
   rcases gets j y d' hj hd' with ⟨rfl, rfl⟩ | ⟨hy, hd''⟩
   ·refine .inr ⟨fun _ => ⟨v, if_pos rfl, D.soft soft⟩, fun q => ?_⟩
    rw [hl] at q
    rcases q with q | q <;> cases q
   ·rcases hv j y d' hj hd'' with e | ⟨a, b⟩
    ·exact .inl e
    ·exact .inr ⟨fun e => let ⟨u, e1, e2⟩ := a e; ⟨u, by show (if y = x then some v else m y) = some u; rw [if_neg hy]; exact e1, e2.soft soft⟩, fun e => let ⟨c, u, e1, e2, e3⟩ := b e; ⟨c, u, e1, cellk c _ e2, e3.soft soft⟩⟩
  ·exact fun b o hb hne _ => (hs'.2 b hne).trans hb
 ·obtain ⟨c, hcx⟩ := hh x hl
  obtain ⟨o, hco⟩ := hc x c hcx
  refine wpAny_storeName_cell hk hl hcx hco fun h' hc' hs' => h _ _ ?_ ?_
  ·have own : Own env s.heap h' := fun b o hb _ hne => (hs'.2 b fun q => hne x hl (q ▸ hcx)).trans hb
   have soft := soft_of_own hn hc own
   have cellk : ∀ c' o, c' ≠ c → s.heap.IsCell c' o → h'.IsCell c' o := fun c' o hne q => q.sameBut hs' hne
   refine ⟨⟨m, hn.sameBut hs' fun e => ns_cell hn (e ▸ hco), fun j y d' hj hd' => ?_⟩, fun y c' e => ?_, hh, h1, (putN_length _ _ _).trans hln⟩
   ·rcases gets j y d' hj hd' with ⟨rfl, rfl⟩ | ⟨hy, hd''⟩
    ·refine .inr ⟨fun q => ?_, fun _ => ⟨c, v, hcx, hc', D.soft soft⟩⟩
     rw [hl] at q
     cases q
    ·rcases hv j y d' hj hd'' with e | ⟨a, b⟩
     ·exact .inl e
     ·exact .inr ⟨fun e => let ⟨u, e1, e2⟩ := a e; ⟨u, e1, e2.soft soft⟩, fun e => let ⟨c', u, e1, e2, e3⟩ := b e; ⟨c', u, e1, cellk c' _ (fun q => hy (h1 y x c (q ▸ e1) hcx)) e2, e3.soft soft⟩⟩
   ·by_cases hcc : c' = c
    ·subst hcc; exact ⟨_, hc'⟩
    ·obtain ⟨o', q⟩ := hc y c' e
     exact ⟨o', cellk c' o' hcc q⟩
  ·exact fun b o hb _ hne => (hs'.2 b fun q => hne x hl (q ▸ hcx)).trans hb
end
end
section
open PySem PySem.W PySem.SeqAt Builtin
open PyProof.Rows (lt_int gt_int le_int ge_int lt_bool gt_bool is_none_gen b2i)
/-! texts of bytes in their order -/
theorem slot_bytes_lt : Slot "bytes" (cmpInfo .Lt).2.1 "bytes.__lt__" :=
 .of (owner := "bytes") (n := "__lt__") (by rw [typeLookup_type, builtinLookup_eq_fast]; kernel_rfl) (by decide +kernel) (by decide +kernel) (by decide +kernel)
  (by first | exact .inl (by decide +kernel) | exact .inr (by decide +kernel)) (by rw [isSubtype_type]; kernel_rfl)
theorem entry_bytes_lt : entryFor table "bytes.__lt__" = some Builtin.«bytes.__lt__» := entryFor_of_tree (by kernel_rfl)
theorem args_bytes_lt (a b : Value) : argsOk "bytes.__lt__" ⟨[a, b], []⟩ := by
 unfold argsOk; rw [signature?_of (id := "bytes.__lt__") (n := ['_', '_', 't', 'l', '_', '_']) (o := ['s', 'e', 't', 'y', 'b']) (by kernel_rfl) FB.owner_bytes]; kernel_rfl
theorem slot_bytes_gt : Slot "bytes" (cmpInfo .Gt).2.1 "bytes.__gt__" :=
 .of (owner := "bytes") (n := "__gt__") (by rw [typeLookup_type, builtinLookup_eq_fast]; kernel_rfl) (by decide +kernel) (by decide +kernel) (by decide +kernel)
  (by first | exact .inl (by decide +kernel) | exact .inr (by decide +kernel)) (by rw [isSubtype_type]; kernel_rfl)
theorem entry_bytes_gt : entryFor table "bytes.__gt__" = some Builtin.«bytes.__gt__» := entryFor_of_tree (by kernel_rfl)
theorem args_bytes_gt (a b : Value) : argsOk "bytes.__gt__" ⟨[a, b], []⟩ := by
 unfold argsOk; rw [signature?_of (id := "bytes.__gt__") (n := ['_', '_', 't', 'g', '_', '_']) (o := ['s', 'e', 't', 'y', 'b']) (by kernel_rfl) FB.owner_bytes]; kernel_rfl
theorem slot_bytes_ge : Slot "bytes" (cmpInfo .GtE).2.1 "bytes.__ge__" :=
 .of (owner := "bytes") (n := "__ge__") (by rw [typeLookup_type, builtinLookup_eq_fast]; kernel_rfl) (by decide +kernel) (by decide +kernel) (by decide +kernel)
  (by first | exact .inl (by decide +kernel) | exact .inr (by decide +kernel)) (by rw [isSubtype_type]; kernel_rfl)
theorem entry_bytes_ge : entryFor table "bytes.__ge__" = some Builtin.«bytes.__ge__» := entryFor_of_tree (by kernel_rfl)
theorem args_bytes_ge (a b : Value) : argsOk "bytes.__ge__" ⟨[a, b], []⟩ := by
 unfold argsOk; rw [signature?_of (id := "bytes.__ge__") (n := ['_', '_', 'e', 'g', '_', '_']) (o := ['s', 'e', 't', 'y', 'b']) (by kernel_rfl) FB.owner_bytes]; kernel_rfl
theorem lexLt_order : ∀ a b : List UInt8, lexLt a b = (Bytes.order a b == .lt)
 | [], [] | [], _ :: _ | _ :: _, [] => rfl
 | x :: a, y :: b => by
  simp only [lexLt, Bytes.order]
  by_cases h : x = y
  ·subst h
   simp [lexLt_order a b]
  ·have h1 : Nat.beq x.toNat y.toNat = false := by
    induction hb : Nat.beq x.toNat y.toNat with
    | false => rfl
    | true => exact absurd (UInt8.toNat_inj.mp (Nat.eq_of_beq_eq_true hb)) h
   rw [h1]
   by_cases h2 : x < y
   ·have : Nat.blt x.toNat y.toNat = true := by rw [Nat.blt_eq]; exact UInt8.lt_iff_toNat_lt.mp h2
    simp [h2, this]
   ·have h3 : y < x := by
     rcases UInt8.lt_or_lt_of_ne h with q | q
     ·exact absurd q h2
     ·exact q
    have : Nat.blt x.toNat y.toNat = false := by
     induction hb : Nat.blt x.toNat y.toNat with
     | false => rfl
     | true => exact absurd (UInt8.lt_iff_toNat_lt.mpr (by rwa [Nat.blt_eq] at hb)) h2
    simp [h2, h3, this]
theorem order_swap : ∀ a b : List UInt8, (Bytes.order a b == .gt) = (Bytes.order b a == .lt)
 | [], [] | [], _ :: _ | _ :: _, [] => rfl
 | x :: a, y :: b => by
  simp only [Bytes.order]
  by_cases h : x = y
  ·subst h
   simp [order_swap a b]
  ·by_cases h2 : x < y
   ·have h3 : ¬ y < x := fun q => UInt8.lt_irrefl _ (UInt8.lt_trans h2 q)
    simp [h2, h3]
   ·have h3 : y < x := by
     rcases UInt8.lt_or_lt_of_ne h with q | q
     ·exact absurd q h2
     ·exact q
    simp [h2, h3]
section
variable {prog : Program} {w : World} {A : Around} {E : Value → Shared → Prop} {s : Shared} {Q : Value → Shared → Prop} {b c : Array UInt8} {t u : Tok}
theorem gives_bytes_lt (b c : Array UInt8) (t u : Tok) : Gives («bytes.__lt__» ⟨[.bytes b t, .bytes c u], []⟩) (.val (.bool (lexLt b.toList c.toList))) := by
 refine .of_wp fun M A E s Q hq => ?_
 show wpAny M A (isInstance (.bytes c u) (.type "bytes") >>= fun r => _) _ E s
 refine wpAny_bind (wpAny_isInstance (typeIs_bytes s c u) F.sub_bytes_bytes ?_)
 exact wpAny_pure ⟨_, rfl, by rw [lexLt_order] at hq; exact hq⟩
theorem gives_bytes_gt (b c : Array UInt8) (t u : Tok) : Gives («bytes.__gt__» ⟨[.bytes b t, .bytes c u], []⟩) (.val (.bool (lexLt c.toList b.toList))) := by
 refine .of_wp fun M A E s Q hq => ?_
 show wpAny M A (isInstance (.bytes c u) (.type "bytes") >>= fun r => _) _ E s
 refine wpAny_bind (wpAny_isInstance (typeIs_bytes s c u) F.sub_bytes_bytes ?_)
 exact wpAny_pure ⟨_, rfl, by rw [lexLt_order, ← order_swap] at hq; exact hq⟩
theorem gives_bytes_ge (b c : Array UInt8) (t u : Tok) : Gives («bytes.__ge__» ⟨[.bytes b t, .bytes c u], []⟩) (.val (.bool (!lexLt b.toList c.toList))) := by
 refine .of_wp fun M A E s Q hq => ?_
 show wpAny M A (isInstance (.bytes c u) (.type "bytes") >>= fun r => _) _ E s
 refine wpAny_bind (wpAny_isInstance (typeIs_bytes s c u) F.sub_bytes_bytes ?_)
 exact wpAny_pure ⟨_, rfl, by rw [lexLt_order] at hq; exact hq⟩
theorem lt_bytes (h : Q (.bool (lexLt b.toList c.toList)) s) : wpAny (model prog w) A (compareOp .Lt (.bytes b t) (.bytes c u)) Q E s :=
 compareOp_gives (op := .Lt) (typeIs_bytes s b t) (typeIs_bytes s c u) slot_bytes_lt entry_bytes_lt (args_bytes_lt _ _) (gives_bytes_lt b c t u) (fun e => nomatch e) h
theorem gt_bytes (h : Q (.bool (lexLt c.toList b.toList)) s) : wpAny (model prog w) A (compareOp .Gt (.bytes b t) (.bytes c u)) Q E s :=
 compareOp_gives (op := .Gt) (typeIs_bytes s b t) (typeIs_bytes s c u) slot_bytes_gt entry_bytes_gt (args_bytes_gt _ _) (gives_bytes_gt b c t u) (fun e => nomatch e) h
theorem ge_bytes (h : Q (.bool (!lexLt b.toList c.toList)) s) : wpAny (model prog w) A (compareOp .GtE (.bytes b t) (.bytes c u)) Q E s :=
 compareOp_gives (op := .GtE) (typeIs_bytes s b t) (typeIs_bytes s c u) slot_bytes_ge entry_bytes_ge (args_bytes_ge _ _) (gives_bytes_ge b c t u) (fun e => nomatch e) h
end
section
variable {Ω : Nat → Value} {h : Heap}
theorem eqF_uniq : ∀ (n : Nat) {v : Value} {d e x : Dat} {p q : Bool}, DatH Ω h v d → DatH Ω h v e → eqF n d x = some p → eqF n e x = some q → p = q
 | 0, _, _, _, _, _, _, _, _, e, _ => by exact nn e
 | n + 1, v, d, e, x, p, q, h1, h2, e1, e2 => by
  rw [eqF_succ] at e1 e2
  have deep : ∀ {ds es : List Dat} {vs : List Value} {xs : List Dat} {p q : Bool}, DatsH Ω h vs ds → DatsH Ω h vs es → eqL (eqF n) ds xs = some p → eqL (eqF n) es xs = some q → p = q := by
   intro ds
   induction ds with
   | nil =>
    intro es vs xs p q a b e1 e2
    cases a
    cases b
    rw [e1] at e2
    obtain rfl := si e2
    rfl
   | cons d ds ih =>
    intro es vs xs p q a b e1 e2
    cases a with
    | cons a ar => cases b with
     | cons b br =>
      induction xs using List.casesOn with
      | nil => cases e1; obtain rfl := si e2; rfl
      | cons x xr =>
       have e1' : and2 (eqF n d x) (eqL (eqF n) ds xr) = some p := e1
       have e2' : and2 (eqF n _ x) (eqL (eqF n) _ xr) = some q := e2
       revert e1' e2'
       induction ha : eqF n d x with
       | none => intro e; exact nn e
       | some p1 => induction hb : eqL (eqF n) ds xr with
        | none => intro e; exact nn e
        | some p2 => induction hc : eqF n _ x with
         | none => intro _ e; exact nn e
         | some q1 => induction hd : eqL (eqF n) _ xr with
          | none => intro _ e; exact nn e
          | some q2 =>
           have r1 := eqF_uniq n a b ha hc
           have r2 := ih ar br hb hd
           subst r1
           subst r2
           intro e1 e2
           rw [e1] at e2
           obtain rfl := si e2
           rfl
  induction h1 using DatH.casesOn with
  | none => cases h2 with
   | none => rw [e1] at e2; obtain rfl := si e2; rfl
   | obj k ek => exact nn e2
  | bool b => cases h2 with
   | bool => rw [e1] at e2; obtain rfl := si e2; rfl
   | obj k ek => exact nn e2
  | int i t => cases h2 with
   | int => rw [e1] at e2; obtain rfl := si e2; rfl
   | obj k ek => exact nn e2
  | str y t o => cases h2 with
   | str => rw [e1] at e2; obtain rfl := si e2; rfl
   | txt => exact nn e2
   | obj k ek => exact nn e2
  | txt y t m o => exact nn e1
  | bytes b t => cases h2 with
   | bytes => rw [e1] at e2; obtain rfl := si e2; rfl
   | obj k ek => exact nn e2
  | tup y r => cases h2 with
   | tup y' r' =>
    have := tuple_same y y'
    subst this
    induction x using Dat.casesOn with
    | tup xs => exact deep r r' e1 e2
    | _ => (first | (rw [e1] at e2; exact nn e2; rfl) | (have e1' : _ = some p := e1; have e2' : _ = some q := e2; exact Option.some.inj (e1'.symm.trans e2')))
   | list y' r' => exact (no_both y' y).elim
   | obj k ek => exact nn e2
  | list y r => cases h2 with
   | tup y' r' => exact (no_both y y').elim
   | list y' r' =>
    have := list_same y y'
    subst this
    induction x using Dat.casesOn with
    | list xs => exact deep r r' e1 e2
    | _ => (first | (rw [e1] at e2; exact nn e2; rfl) | (have e1' : _ = some p := e1; have e2' : _ = some q := e2; exact Option.some.inj (e1'.symm.trans e2')))
   | obj k ek => exact nn e2
  | obj k ek => exact nn e1
end
end
section
open PySem PySem.W PySem.SeqAt Builtin
open PyProof.Rows (lt_int gt_int le_int ge_int lt_bool gt_bool is_none_gen b2i)
section
variable {prog : Program} {w : World} {A : Around} {E : Value → Shared → Prop} {s : Shared} {Q : Value → Shared → Prop} {Ω : Nat → Value}
open Classical in
noncomputable def eVal (Ω : Nat → Value) (h : Heap) (d : Dat) (y : Value) : Bool := if q : ∃ b d', DatH Ω h y d' ∧ eqD d' d = some b then choose q else false
theorem eVal_eq {h : Heap} {d d' : Dat} {y : Value} {b : Bool} (D : DatH Ω h y d') (e : eqD d' d = some b) : eVal Ω h d y = b := by
 have q : ∃ b d', DatH Ω h y d' ∧ eqD d' d = some b := ⟨b, d', D, e⟩
 unfold eVal
 rw [dif_pos q]
 refine o_xa (Classical.choose_spec q) fun d2 D2 e2 => ?_
 exact eqF_uniq 8 D2 D e2 e
theorem any_sound {A : Around} {d : Dat} {v : Value} (hu : A.units + 10 < cLine) (D : DatH Ω s.heap v d) {vs : List Value} {ds : List Dat} {q : Bool} (Ds : DatsH Ω s.heap vs ds) (e : anyEq d ds = some q) :
  vs.any (eVal Ω s.heap d) = q ∧ ∀ y ∈ vs, EqAt A.in1 s y v (eVal Ω s.heap d y) := by
 induction ds generalizing vs q with
 | nil =>
  rw [Ds.i0, ← show false = q from si e]
  exact ⟨rfl, fun y hy => absurd hy List.not_mem_nil⟩
 | cons du dr ih =>
  obtain ⟨u, r, qv, a, Dr⟩ := Ds.ic
  rw [qv]
  have e' : or2 (eqD du d) (anyEq d dr) = some q := e
  induction h1 : eqD du d with
  | none => rw [h1] at e'; exact nn e'
  | some p =>
   induction h2 : anyEq d dr with
   | none => rw [h1, h2] at e'; exact nn e'
   | some p' =>
    rw [h1, h2] at e'
    have hq : q = (p || p') := by induction p <;> exact (si e').symm
    obtain ⟨i1, i2⟩ := ih Dr h2
    have ev := eVal_eq a h1
    refine ⟨by rw [List.any_cons, ev, i1, hq], fun y hy => ?_⟩
    rcases List.mem_cons.mp hy with q | hy
    ·rw [q, ev]
     exact (cmp_at 8 (A := A.in1) a D h1 (by show A.units + 1 + 8 < cLine; (exact Nat.le_of_lt ‹_›))).2.2
    ·exact i2 y hy
theorem cmp_sound {op : CmpOp} {d d' : Dat} {v v' : Value} {b : Bool} (Hr : OmRef Ω) (hu : A.units + 10 < cLine) (D : DatH Ω s.heap v d) (D' : DatH Ω s.heap v' d')
  (e : cmpD op d d' = some b) (h : Q (.bool b) s) : wpAny (model prog w) A (compareOp op v v') Q E s := by
 induction op with
 | Eq => exact (cmp_at 8 D D' e (by lia)).1 prog w E Q h
 | NotEq =>
  have e' : not? (eqD d d') = some b := e
  induction hq : eqD d d' with
  | none => rw [hq] at e'; exact nn e'
  | some q =>
   have R := (cmp_at 8 (A := A) D D' hq (by omega)).2.1
   rw [hq] at e'
   have hb : b = !q := by induction q <;> cases e' <;> rfl
   exact R prog w E Q (hb ▸ h)
 | In =>
  induction D' using DatH.casesOn with
  | tup x r =>
   obtain ⟨i1, i2⟩ := any_sound hu D r e
   exact in_tupleAt (eVal Ω s.heap d) x (fun y hy => i2 y (by simpa using hy)) (by rw [List.any_toArray, i1]; exact h)
  | list x r =>
   obtain ⟨i1, i2⟩ := any_sound hu D r e
   exact in_listAt (eVal Ω s.heap d) x (fun y hy => i2 y (by simpa using hy)) (by rw [List.any_toArray, i1]; exact h)
  | _ => exact nn e
 | NotIn =>
  have e' : not? (inD d d') = some b := e
  induction hq : inD d d' with
  | none => rw [hq] at e'; exact nn e'
  | some q =>
   rw [hq] at e'
   have hb : b = !q := by induction q <;> cases e' <;> rfl
   subst hb
   induction D' using DatH.casesOn with
   | tup x r =>
    obtain ⟨i1, i2⟩ := any_sound hu D r hq
    exact notIn_tupleAt (eVal Ω s.heap d) x (fun y hy => i2 y (by simpa using hy)) (by rw [List.any_toArray, i1]; exact h)
   | list x r =>
    obtain ⟨i1, i2⟩ := any_sound hu D r hq
    exact notIn_listAt (eVal Ω s.heap d) x (fun y hy => i2 y (by simpa using hy)) (by rw [List.any_toArray, i1]; exact h)
   | _ => exact nn hq
 | Lt =>
  induction D using DatH.casesOn with
  | int x t => induction D' using DatH.casesOn with
   | int y u =>
    have e' : some (Z.ltB x y) = some b := e
    obtain rfl := si e'
    exact lt_int (by rw [show decide (x < y) = Z.ltB x y by rw [Bool.eq_iff_iff, decide_eq_true_iff, Z.ltB_iff]]; exact h)
   | _ => exact nn e
  | bool x => induction D' using DatH.casesOn with
   | bool y =>
    exact lt_bool (by
     have e' : decide (b2i x < b2i y) = b := by induction x <;> cases y <;> exact Option.some.inj e
     rw [e']
     exact h)
   | _ => exact nn e
  | bytes x t => induction D' using DatH.casesOn with
   | bytes y u =>
    have e' : some (lexLt x.toList y.toList) = some b := e
    obtain rfl := si e'
    exact lt_bytes h
   | _ => exact nn e
  | _ => exact nn e
 | LtE =>
  induction D using DatH.casesOn with
  | int x t => induction D' using DatH.casesOn with
   | int y u =>
    have e' : some (Z.leB x y) = some b := e
    obtain rfl := si e'
    exact le_int (by rw [show decide (x ≤ y) = Z.leB x y by rw [Bool.eq_iff_iff, decide_eq_true_iff, Z.leB_iff]]; exact h)
   | _ => exact nn e
  | _ => exact nn e
 | Gt =>
  induction D' using DatH.casesOn with
  | int x t => induction D using DatH.casesOn with
   | int y u =>
    have e' : some (Z.ltB x y) = some b := e
    obtain rfl := si e'
    exact gt_int (by rw [show decide (x < y) = Z.ltB x y by rw [Bool.eq_iff_iff, decide_eq_true_iff, Z.ltB_iff]]; exact h)
   | _ => exact nn e
  | bool x => induction D using DatH.casesOn with
   | bool y =>
    exact gt_bool (by
     have e' : decide (b2i y > b2i x) = b := by induction x <;> cases y <;> exact Option.some.inj e
     rw [e']
     exact h)
   | _ => exact nn e
  | bytes x t => induction D using DatH.casesOn with
   | bytes y u =>
    have e' : some (lexLt x.toList y.toList) = some b := e
    obtain rfl := si e'
    exact gt_bytes h
   | _ => exact nn e
  | _ => exact nn e
 | GtE =>
  induction D using DatH.casesOn with
  | int x t => induction D' using DatH.casesOn with
   | int y u =>
    have e' : some (Z.leB y x) = some b := e
    obtain rfl := si e'
    exact ge_int (by rw [show decide (y ≤ x) = Z.leB y x by rw [Bool.eq_iff_iff, decide_eq_true_iff, Z.leB_iff]]; exact h)
   | _ => exact nn e
  | bytes x t => induction D' using DatH.casesOn with
   | bytes y u =>
    have e' : some (match lexLt x.toList y.toList with | true => false | false => true) = some b := e
    exact ge_bytes (by induction hq : lexLt x.toList y.toList <;> rw [hq] at e' <;> cases e' <;> exact h)
   | _ => exact nn e
  | _ => exact nn e
 | Is =>
  induction D' using DatH.casesOn with
  | none =>
   have e' : isNone d = some b := e
   refine is_none_gen ?_
   induction D using DatH.casesOn with
   | obj k hk =>
    obtain rfl := si e'
    obtain ⟨a, ha⟩ := Hr k
    rw [hk, ha]
    exact h
   | _ => obtain rfl := si e'; exact h
  | _ => exact nn e
 | IsNot => exact nn e
end
end
section
open PySem PySem.W PySem.SeqAt Builtin
open PyProof.Rows (add_int sub_int' floordiv_int mod_int' and_int pow_int_small IsTup)
noncomputable def All (h h' : Heap) : Prop := ∀ b o, h.get? b = some o → h'.get? b = some o
theorem All.refl (h : Heap) : All h h := fun _ _ e => e
theorem All.push (h : Heap) (o : Obj) : All h (h.push o) := fun _ _ e => Heap.get?_push_of_some o e
theorem appD_eq : ∀ a b : List Dat, appD a b = a ++ b
 | [], b => rfl
 | d :: a, b => by
  have : appD (d :: a) b = d :: appD a b := rfl
  rw [this, appD_eq a b]; rfl
theorem smallI_iff {x : Int} (h : smallI x = true) : -1073741824 < x ∧ x < 1073741824 := by
 induction x with
 | ofNat n =>
  have h' : n < 1073741824 := by have : Nat.blt n 1073741824 = true := h; rwa [Nat.blt_eq] at this
  constructor
  ·show (-1073741824 : Int) < (n : Int); lia
  ·show (n : Int) < 1073741824; lia
 | negSucc n =>
  have h' : n < 1073741823 := by have : Nat.blt n 1073741823 = true := h; rwa [Nat.blt_eq] at this
  omega
theorem land_eq (x y : Int) : landZ x y = Builtin.bitAnd x y := by
 have l1 : ∀ a b : Nat, a &&& b ≤ a := fun a b => Nat.and_le_left
 have n1 : ∀ a : Nat, (Builtin.bitNot (Int.negSucc a)).toNat = a := fun a => by unfold Builtin.bitNot; (simp_all +arith)
 induction x with
 | ofNat a => induction y with
  | ofNat b => rfl
  | negSucc b =>
   show Int.ofNat (a - (a &&& b)) = (Int.ofNat a) - (((Int.ofNat a).toNat &&& (Builtin.bitNot (Int.negSucc b)).toNat : Nat) : Int)
   rw [n1]
   have := l1 a b
   show ((a - (a &&& b) : Nat) : Int) = (a : Int) - ((a &&& b : Nat) : Int)
   omega
 | negSucc a => induction y with
  | ofNat b =>
   show Int.ofNat (b - (b &&& a)) = (Int.ofNat b) - (((Int.ofNat b).toNat &&& (Builtin.bitNot (Int.negSucc a)).toNat : Nat) : Int)
   rw [n1]
   have := l1 b a
   show ((b - (b &&& a) : Nat) : Int) = (b : Int) - ((b &&& a : Nat) : Int)
   omega
  | negSucc b =>
   show Int.negSucc (a ||| b) = Builtin.bitNot (((Builtin.bitNot (Int.negSucc a)).toNat ||| (Builtin.bitNot (Int.negSucc b)).toNat : Nat) : Int)
   rw [n1, n1]
   unfold Builtin.bitNot
   lia
inductive BinC (op : Operator) : Dat → Dat → Dat → Prop
 | int {d : Dat} (x y : Int) : binI op x y = some d → BinC op d (.int x) (.int y)
 | tup (x y : List Dat) : few x.length y.length = true → op = .Add → BinC op (.tup (appD x y)) (.tup x) (.tup y)
 | list (x y : List Dat) : few x.length y.length = true → op = .Add → BinC op (.list (appD x y)) (.list x) (.list y)
 | bytes (x y : List UInt8) : few x.length y.length = true → op = .Add → BinC op (.bytes (x ++ y)) (.bytes x) (.bytes y)
 | txt {a b : Dat} (n m : Nat) : lenB a = some n → lenB b = some m → n + m ≤ 4096 → op = .Add → BinC op (.txt (n + m)) a b
set_option tactic.hygienic true in
theorem addT_c {a b d : Dat} (e : addT a b = some d) : BinC .Add d a b := by
 unfold addT at e
 split at e
 ·rename_i n hn
  split at e
  ·rename_i m hm
   split at e
   ·rename_i hle
    obtain rfl := si e
    exact .txt n m hn hm (Nat.le_of_ble_eq_true hle) rfl
   ·exact nn e
  ·exact nn e
 ·exact nn e
set_option tactic.hygienic true in
theorem binD_c {op : Operator} {a b d : Dat} (e : binD op a b = some d) : BinC op d a b := by
 unfold binD at e
 split at e
 ·split at e
  ·exact .int _ _ e
  ·exact nn e
 ·split at e
  ·split at e
   ·split at e
    ·rename_i hf; obtain rfl := si e; exact .tup _ _ hf rfl
    ·exact nn e
   ·exact nn e
  ·exact nn e
 ·split at e
  ·split at e
   ·split at e
    ·rename_i hf; obtain rfl := si e; exact .list _ _ hf rfl
    ·exact nn e
   ·exact nn e
  ·exact nn e
 ·split at e
  ·split at e
   ·split at e
    ·rename_i hf; obtain rfl := si e; exact .bytes _ _ hf rfl
    ·exact nn e
   ·exact nn e
  ·exact nn e
 ·split at e
  ·exact addT_c e
  ·exact nn e
section
variable {prog : Program} {w : World} {A : Around} {E : Value → Shared → Prop} {s : Shared} {Q : Value → Shared → Prop} {Ω : Nat → Value}
theorem tup_add {t b : Addr} {vs ws : List Value} (ht : s.heap.IsTuple t vs.toArray) (hb : s.heap.IsTuple b ws.toArray)
  (h0 : vs = [] → Q (.ref b) s) (h1 : ws = [] → Q (.ref t) s)
  (h2 : ∀ o : Obj, o.cls = .type "tuple" → o.data = .seq (vs ++ ws).toArray 0 → Q (.ref s.heap.objs.size) { s with heap := s.heap.push o }) (hsz : vs.length + ws.length ≤ sizeLine) :
  wpAny (model prog w) A (binaryOp .Add (.ref t) (.ref b)) Q E s := by
 refine via fun Gv kv => ?_
 refine o_xaax (id ht) fun r0' ho hc n hd => ?_
 obtain ⟨cls, dd, data, sl⟩ := r0'
 refine o_xaax (id hb) fun r0' ho2 hc2 n2 hd2 => ?_
 obtain ⟨cls2, dd2, data2, sl2⟩ := r0'
 refine kv ?_
 clear kv Gv
 simp only at hc hd hc2 hd2
 subst hc hd hc2 hd2
 have e : vs.toArray ++ ws.toArray = (vs ++ ws).toArray := by simp
 by_cases hv : vs = []
 ·exact concat_meets ⟨_, ho, rfl⟩ ⟨_, ho2, rfl⟩ noFill_tuple_add seq_tuple_add PySem.F.slot_tuple_add PySem.F.entry_tuple_add (PySem.F.args_tuple_add_2 _ _)
   (PyProof.Rows.tuple_addW0 t b vs.toArray ws.toArray n n2 dd dd2 sl sl2 (by simp [hv])) ⟨ho, ho2, h0 hv⟩
 ·by_cases hw : ws = []
  ·exact concat_meets ⟨_, ho, rfl⟩ ⟨_, ho2, rfl⟩ noFill_tuple_add seq_tuple_add PySem.F.slot_tuple_add PySem.F.entry_tuple_add (PySem.F.args_tuple_add_2 _ _)
    (PyProof.Rows.tuple_addW1 t b vs.toArray ws.toArray n n2 dd dd2 sl sl2 (by simpa using hv) (by simp [hw])) ⟨ho, ho2, h1 hw⟩
  ·refine concat_meets ⟨_, ho, rfl⟩ ⟨_, ho2, rfl⟩ noFill_tuple_add seq_tuple_add PySem.F.slot_tuple_add PySem.F.entry_tuple_add (PySem.F.args_tuple_add_2 _ _)
    (PyProof.Rows.tuple_addW2 t b vs.toArray ws.toArray n n2 dd dd2 sl sl2 (by simpa using hv) (by simpa using hw) (by rw [List.size_toArray, List.size_toArray]; exact hsz)) ⟨ho, ho2, ?_⟩
   rw [e]
   exact h2 _ rfl rfl
theorem lst_add {l b : Addr} {vs ws : List Value} (hl : s.heap.IsList l vs.toArray) (hb : s.heap.IsList b ws.toArray)
  (h : ∀ o : Obj, o.cls = .type "list" → o.data = .seq (vs ++ ws).toArray 0 → Q (.ref s.heap.objs.size) { s with heap := s.heap.push o }) (hsz : vs.length + ws.length ≤ sizeLine) :
  wpAny (model prog w) A (binaryOp .Add (.ref l) (.ref b)) Q E s := by
 refine via fun Gv kv => ?_
 refine o_xaax (id hl) fun r0' ho hc n hd => ?_
 obtain ⟨cls, dd, data, sl⟩ := r0'
 refine o_xaax (id hb) fun r0' ho2 hc2 n2 hd2 => ?_
 obtain ⟨cls2, dd2, data2, sl2⟩ := r0'
 refine kv ?_
 clear kv Gv
 simp only at hc hd hc2 hd2
 subst hc hd hc2 hd2
 have e : vs.toArray ++ ws.toArray = (vs ++ ws).toArray := by simp
 refine concat_meets ⟨_, ho, rfl⟩ ⟨_, ho2, rfl⟩ noFill_list_add seq_list_add PySem.F.slot_list_add PySem.F.entry_list_add (PySem.F.args_list_add_2 _ _) (PyProof.Rows.list_addW l b vs.toArray ws.toArray n n2 dd dd2 sl sl2 (by simpa using hsz)) ⟨ho, ho2, ?_⟩
 rw [e]
 exact h _ rfl rfl
theorem few_le {x y : Nat} (h : few x y = true) : x + y ≤ 4096 := Nat.le_of_ble_eq_true h
theorem push_tuple {h : Heap} {o : Obj} {vs : List Value} (hc : o.cls = .type "tuple") (hd : o.data = .seq vs.toArray 0) : (h.push o).IsTuple h.objs.size vs.toArray :=
 ⟨o, Heap.get?_push_size _ (Obj.isFreed_of_seq hd), hc, 0, hd⟩
theorem push_list {h : Heap} {o : Obj} {vs : List Value} (hc : o.cls = .type "list") (hd : o.data = .seq vs.toArray 0) : (h.push o).IsList h.objs.size vs.toArray :=
 ⟨o, Heap.get?_push_size _ (Obj.isFreed_of_seq hd), hc, 0, hd⟩
theorem binI_sound {op : Operator} {x y : Int} {t u : Tok} {d : Dat} (e : binI op x y = some d) (h : ∀ z t' k, d = .int z → Q (.int z t') { s with toks := k }) :
  wpAny (model prog w) A (binaryOp op (.int x t) (.int y u)) Q E s := by
 induction op with
 | Add => exact add_int (h _ _ _ (Option.some.inj e).symm)
 | Sub => exact sub_int' (h _ _ _ (Option.some.inj e).symm)
 | Mult =>
  have e' : (match smallI x with | true => some (Dat.int (x * y)) | false => none) = some d := e
  induction hs : smallI x with
  | false => rw [hs] at e'; exact nn e'
  | true =>
   rw [hs] at e'
   have := smallI_iff hs
   exact PySem.P.mul_int (h _ _ _ (Option.some.inj e').symm) (hm := IntMulOk.of_left (intBits_le_64 (by omega) (by omega)))
 | FloorDiv =>
  have e' : (match Z.eqB y 0 with | true => none | false => match smallI y with | true => some (Dat.int (Int.fdiv x y)) | false => none) = some d := e
  induction h0 : Z.eqB y 0 with
  | true => rw [h0] at e'; exact nn e'
  | false =>
   rw [h0] at e'
   induction hs : smallI y with
   | false => rw [hs] at e'; exact nn e'
   | true =>
    rw [hs] at e'
    have := smallI_iff hs
    exact floordiv_int (fun q => by rw [q] at h0; exact tf h0) (h _ _ _ (Option.some.inj e').symm) (hp := .inl (PyProof.noPylong_small (by omega)))
 | Mod =>
  have e' : (match Z.eqB y 0 with | true => none | false => some (Dat.int (Int.fmod x y))) = some d := e
  induction h0 : Z.eqB y 0 with
  | true => rw [h0] at e'; exact nn e'
  | false =>
   rw [h0] at e'
   exact mod_int' (fun q => by rw [q] at h0; exact tf h0) (h _ _ _ (Option.some.inj e').symm)
 | BitAnd => exact and_int (h _ _ _ (by rw [← land_eq]; exact (Option.some.inj e).symm))
 | Pow =>
  induction x with
  | negSucc a => exact nn e
  | ofNat a =>
   induction y with
   | negSucc n =>
    have e' : (match Nat.beq a 2 with | true => none | false => none) = some d := e
    induction h2 : Nat.beq a 2 <;> rw [h2] at e' <;> exact nn e'
   | ofNat n =>
    have e' : (match Nat.beq a 2 with | true => (match Nat.ble n 1024 with | true => some (Dat.int (.ofNat (Nat.pow 2 n))) | false => none) | false => none) = some d := e
    induction h2 : Nat.beq a 2 with
    | false => rw [h2] at e'; exact nn e'
    | true =>
     rw [h2] at e'
     have ha := Nat.eq_of_beq_eq_true h2
     subst ha
     induction hn : Nat.ble n 1024 with
     | false => rw [hn] at e'; exact nn e'
     | true =>
      rw [hn] at e'
      have hle := Nat.le_of_ble_eq_true hn
      refine pow_int_small (by show (0 : Int) ≤ (n : Int); (simp_all +arith)) (by show (n : Int) ≤ 1000000; lia) (by decide) (h _ _ _ ?_)
      rw [← Option.some.inj e']
      show Dat.int (Int.ofNat (2 ^ n)) = Dat.int ((2 : Nat) ^ n : Int)
      congr 1
 | _ => exact nn e
theorem len_text {h : Heap} {v : Value} {d : Dat} {k : Nat} (D : DatH Ω h v d) (e : lenB d = some k) : ∃ x tk, v = .str x tk ∧ x.cps.size ≤ k := by
 induction d using Dat.casesOn with
 | str c => obtain rfl := si e; cases D with | str x t o => exact ⟨x, t, rfl, o.1⟩
 | txt m => obtain rfl := si e; exact D.ix
 | _ => exact nn e
theorem bin_sound {op : Operator} {a b d : Dat} {v v' : Value} (D : DatH Ω s.heap v a) (D' : DatH Ω s.heap v' b) (e : binD op a b = some d)
  (h : ∀ r h' tk, DatH Ω h' r d → All s.heap h' → Q r { s with heap := h', toks := tk }) : wpAny (model prog w) A (binaryOp op v v') Q E s := by
 induction binD_c e using BinC.casesOn with
 | int x y e =>
  obtain ⟨t, rfl⟩ := D.ii
  obtain ⟨u, rfl⟩ := D'.ii
  refine binI_sound e fun z t' k hz => ?_
  subst hz
  exact h _ _ _ (.int z t') (All.refl _)
 | tup x y hf ho =>
  subst ho
  refine o_xxaa D.it fun a vs q x r => ?_
  subst q
  refine o_xxaa D'.it fun a' vs' q y r' => ?_
  subst q
  ··rw [appD_eq] at h
    have hl := few_le hf
    rw [← r.length, ← r'.length] at hl
    refine tup_add x y (fun q => ?_) (fun q => ?_) (fun o hc hd => ?_) (by show _ ≤ 2 ^ 24; (exact Nat.le_trans ‹_› (by decide)))
    ·subst q
     obtain rfl := r.n0
     exact h _ _ _ (.tup y r') (All.refl _)
    ·subst q
     obtain rfl := r'.n0
     rw [List.append_nil] at h
     exact h _ _ _ (.tup x r) (All.refl _)
    ·have k := All.push s.heap o
     have up := Up.of_all k
     exact h _ _ _ (.tup (push_tuple hc hd) ((r.up up).append (r'.up up))) k
 | list x y hf ho =>
  subst ho
  refine o_xxaa D.il fun a vs q x r => ?_
  subst q
  refine o_xxaa D'.il fun a' vs' q y r' => ?_
  subst q
  ··rw [appD_eq] at h
    have hl := few_le hf
    rw [← r.length, ← r'.length] at hl
    refine lst_add x y (fun o hc hd => ?_) (by show _ ≤ 2 ^ 24; omega)
    have k := All.push s.heap o
    have up := Up.of_all k
    exact h _ _ _ (.list (push_list hc hd) ((r.up up).append (r'.up up))) k
 | bytes x y hf ho =>
  subst ho
  refine o_xxa D.iy fun x t q e => ?_
  subst q e
  refine o_xxa D'.iy fun y u q e => ?_
  subst q e
  ··have hl := few_le hf
    simp only [Array.length_toList] at hl
    refine KBy.add_bytes (by (exact Nat.le_trans ‹_› (by decide))) fun t' k => h _ _ _ ?_ (All.refl _)
    have := DatH.bytes (Ω := Ω) (h := s.heap) (x ++ y) t'
    rwa [Array.toList_append] at this
 | txt n m hn hm hle ho =>
  subst ho
  refine o_xxa (len_text D hn) fun x t q2' hx => ?_
  subst q2'
  refine o_xxa (len_text D' hm) fun y u q2' hy => ?_
  subst q2'
  have hxy : (x ++ y).cps.size = x.cps.size + y.cps.size := by show (x.cps ++ y.cps).size = _; simp
  refine PySem.P.add_str ?_
  split
  ·exact h _ _ _ (.txt y u _ (by lia)) (All.refl _)
  ·split
   ·exact h _ _ _ (.txt x t _ (by lia)) (All.refl _)
   ·exact ⟨by show (x ++ y).cps.size ≤ 2 ^ 24; lia, h _ _ _ (.txt _ _ _ (by lia)) (All.refl _)⟩
end
end
section
open PySem PySem.W PySem.SeqAt Builtin
open PyProof.Rows (subscriptTail tail_any getItem_tuple IsTup neg_int slot_tuple_getitem)
theorem nth?_eq : ∀ (l : List Dat) (n : Nat), nth? l n = l[n]?
 | [], n => by show none = _; simp
 | d :: l, 0 => rfl
 | d :: l, n + 1 => by
  have : nth? (d :: l) (n + 1) = nth? l n := rfl
  rw [this, nth?_eq l n]; simp
theorem takeD_eq : ∀ (n : Nat) (l : List Dat), takeD n l = l.take n
 | 0, l => by show [] = _; simp
 | n + 1, [] => rfl
 | n + 1, d :: l => by
  have : takeD (n + 1) (d :: l) = d :: takeD n l := rfl
  rw [this, takeD_eq n l]; simp
theorem dropD_eq : ∀ (n : Nat) (l : List Dat), dropD n l = l.drop n
 | 0, l => by show l = _; simp
 | n + 1, [] => rfl
 | n + 1, d :: l => by
  have : dropD (n + 1) (d :: l) = dropD n l := rfl
  rw [this, dropD_eq n l]; simp
section
variable {prog : Program} {w : World} {A : Around} {E : Value → Shared → Prop} {s : Shared} {Q : Value → Shared → Prop} {Ω : Nat → Value}
theorem subscripted_op (slice : Expr) (o i : Value) : ∃ ops, subscripted slice false o i = operate ops (getItem o i) := by
 induction slice using Expr.casesOn with
 | Slice l u st p => induction st with
  | none => exact ⟨_, rfl⟩
  | some st => exact ⟨_, rfl⟩
 | _ => exact ⟨_, rfl⟩
theorem sub_tail {value slice : Expr} {o i : Value} {T id : String} (hT : s.TypeIs o T) (hl : typeLookup (.type T) "__getitem__" = pure (some (.builtin id)))
  (hg : wpAny (model prog w) A (getItem o i) Q E s) : wpAny (model prog w) A (subscriptTail value slice o i) Q E s := by
 obtain ⟨ops, h⟩ := subscripted_op slice o i
 exact tail_any hT hl hg h
theorem nthD_index {ds : List Dat} {k : Int} {d : Dat} (e : nthD ds k = some d) : ∃ j, seqIndex? k ds.length = some j ∧ ds[j]? = some d ∧ -4097 ≤ k ∧ k < 4096 := by
 induction k with
 | ofNat n =>
  have e' : (match Nat.blt n 4096 with | true => nth? ds n | false => none) = some d := e
  induction hb : Nat.blt n 4096 with
  | false => rw [hb] at e'; exact nn e'
  | true =>
   rw [hb] at e'
   have hn : n < 4096 := by rwa [Nat.blt_eq] at hb
   have e2 : ds[n]? = some d := by rw [← nth?_eq]; exact e'
   have hl := (List.getElem?_eq_some_iff.mp e2).1
   refine ⟨n, ?_, e2, by show -4097 ≤ (n : Int); (simp_all +arith), by show (n : Int) < 4096; lia⟩
   show seqIndex? (n : Int) ds.length = some n
   unfold seqIndex?
   have h0 : ¬ (n : Int) < 0 := by (simp [*])
   simp [h0, hl]
 | negSucc n =>
  have e' : (match Nat.blt n 4096 with | true => (match Nat.blt n ds.length with | true => nth? ds (ds.length - (n + 1)) | false => none) | false => none) = some d := e
  induction hb : Nat.blt n 4096 with
  | false => rw [hb] at e'; exact nn e'
  | true =>
   rw [hb] at e'
   have hn : n < 4096 := by rwa [Nat.blt_eq] at hb
   induction hc : Nat.blt n ds.length with
   | false => simp only [hc] at e'; exact nn e'
   | true =>
    simp only [hc] at e'
    have hl : n < ds.length := by rwa [Nat.blt_eq] at hc
    refine ⟨ds.length - (n + 1), ?_, by rw [← nth?_eq]; exact e', by lia, by omega⟩
    unfold seqIndex?
    have h0 : Int.negSucc n < 0 := by (simp_all +arith)
    have h1 : (0 : Int) ≤ Int.negSucc n + ds.length := by lia
    have h2 : Int.negSucc n + (ds.length : Int) < ds.length := by lia
    have h3 : (Int.negSucc n + (ds.length : Int)).toNat = ds.length - (n + 1) := by lia
    simp [h0, h1, h2, h3]
theorem codeS_head {x : Str} (hx : okS x) (h0 : Nat.beq (codeS x) 0 = false) : ∃ c, x.cps[0]? = some c ∧ codeS ⟨#[c]⟩ = Nat.mod (codeS x) 1114112 ∧ okS ⟨#[c]⟩ := by
 obtain ⟨⟨l⟩⟩ := x
 induction l using List.casesOn with
 | nil => exact tf h0
 | cons c r =>
  have hc : c < 1114111 := hx.2 c (by simp)
  refine ⟨c, by simp, ?_, ⟨by simp, fun y hy => by simp at hy; subst hy; exact hc⟩⟩
  show codeL [c] = (codeL (c :: r)) % 1114112
  rw [codeL_cons, codeL_cons, codeL_nil]
  lia
set_option tactic.hygienic true in
theorem sub_sound {value slice : Expr} {a i d : Dat} {v v' : Value} (D : DatH Ω s.heap v a) (D' : DatH Ω s.heap v' i) (e : subD a i = some d)
  (h : ∀ r h' tk, DatH Ω h' r d → All s.heap h' → Q r { s with heap := h', toks := tk }) : wpAny (model prog w) A (subscriptTail value slice v v') Q E s := by
 induction D using DatH.casesOn with
 | tup x r => induction D' using DatH.casesOn with
  | int k u =>
   refine o_xaaa (nthD_index (e : nthD _ k = some d)) fun j h1 h2 h3 h4 => ?_
   refine o_xa (r.get h2) fun y h5 h6 => ?_
   have ht : IsTup s.heap _ _ := x
   rw [← r.length] at h1
   exact sub_tail ht.typeIs slot_tuple_getitem.lookup (getItem_tuple ht (by lia) (by lia) (by simpa using h1) (by simpa using h5) (h _ _ _ h6 (All.refl _)))
  | _ => exact nn e
 | list x r => induction D' using DatH.casesOn with
  | int k u =>
   refine o_xaaa (nthD_index (e : nthD _ k = some d)) fun j h1 h2 h3 h4 => ?_
   refine o_xa (r.get h2) fun y h5 h6 => ?_
   rw [← r.length] at h1
   refine sub_tail x.typeIs slot_list_getitem.lookup ?_
   unfold seqIndex? at h1
   by_cases hk : k < 0
   ·simp only [hk, if_true] at h1
    split at h1
    ·rename_i hb
     simp only [Bool.and_eq_true, decide_eq_true_eq] at hb
     obtain rfl := si h1
     exact wpAny_getItem_list_neg x hk (by simp; lia) (by lia) (by simpa using h5) (h _ _ _ h6 (All.refl _))
    ·exact nn h1
   ·simp only [hk, if_false] at h1
    split at h1
    ·obtain rfl := si h1
     exact wpAny_getItem_list x (by lia) (by lia) (by simpa using h5) (h _ _ _ h6 (All.refl _))
    ·exact nn h1
  | _ => exact nn e
 | str x t o => induction D' using DatH.casesOn with
  | int k u =>
   induction k with
   | negSucc n => exact nn e
   | ofNat n => induction n using Nat.casesAuxOn with
    | succ n => exact nn e
    | zero =>
     have e' : (match Nat.beq (codeS x) 0 with | true => none | false => some (Dat.str (Nat.mod (codeS x) 1114112))) = some d := e
     induction hb : Nat.beq (codeS x) 0 with
     | true => rw [hb] at e'; exact nn e'
     | false =>
      rw [hb] at e'
      obtain rfl := si e'
      refine o_xaa (codeS_head o hb) fun c h1 h2 h3 => ?_
      refine sub_tail (typeIs_str s x t) F.slot_str_getitem.lookup (PySem.P.getItem_str (c := c) (by decide) ?_ (h _ _ _ ?_ (All.refl _)))
      ·have hl : 0 < x.length := by
        have := (Array.getElem?_eq_some_iff.mp h1).1
        exact this
       show (seqIndex? 0 x.length).bind _ = some c
       unfold seqIndex?
       simp [hl, h1]
      ·rw [← h2]
       exact .str _ _ h3
  | _ => exact nn e
 | _ => exact nn e
theorem neg_sound {v : Value} {i : Int} (D : DatH Ω s.heap v (.int i)) (h : ∀ r h' tk, DatH Ω h' r (.int (-i)) → All s.heap h' → Q r { s with heap := h', toks := tk }) : wpAny (model prog w) A (unaryOp .USub v) Q E s := by
 obtain ⟨t, rfl⟩ := D.ii
 exact neg_int (h _ _ _ (.int _ _) (All.refl _))
end
end
section
open PySem PySem.W PySem.SeqAt Builtin
open PyProof.Rows (subscriptTail tail_any getItem_tuple IsTup slot_tuple_getitem entry_tuple_getitem args_tuple_getitem tupleItemsOf_ slicePart_none slicePart_int getItem_tuple_from)
theorem cutOk_iff {n m : Nat} (h : cutOk n m = true) : 1 ≤ n ∧ n < m ∧ m ≤ 4096 := by
 induction n using Nat.casesAuxOn with
 | zero => exact ft h
 | succ n =>
  have h' : (match Nat.blt (n + 1) m with | true => Nat.ble m 4096 | false => false) = true := h
  induction hb : Nat.blt (n + 1) m with
  | false => rw [hb] at h'; exact ft h'
  | true =>
   rw [hb] at h'
   rw [Nat.blt_eq] at hb
   exact ⟨by (simp_all +arith), hb, Nat.le_of_ble_eq_true h'⟩
section
variable {prog : Program} {w : World} {A : Around} {E : Value → Shared → Prop} {s : Shared} {Q : Value → Shared → Prop} {Ω : Nat → Value}
theorem adjust_to (a n : Nat) (ha : a ≤ n) : Builtin.Slice.sliceAdjust none (some (a : Int)) 1 (n : Int) = (0, (a : Int)) := by
 unfold Builtin.Slice.sliceAdjust
 have h1 : ¬ ((1 : Int) < 0) := by decide
 have h2 : ¬ ((a : Int) < 0) := by (simp [*])
 simp only [h1, h2, if_false]
 congr 1
 lia
theorem places_to (a : Nat) : Builtin.Slice.slicePlaces 0 (a : Int) 1 = a := by
 unfold Builtin.Slice.slicePlaces
 have h1 : (1 : Int) > 0 := by decide
 simp only [h1, if_true, Int.ediv_one]
 split <;> (simp_all +arith)
theorem sliceApplied_to {sl : Addr} {a n : Nat} {u : Tok} {Q : Int × Int × Nat → Shared → Prop} (hs : s.heap.IsSliceOf sl .none (.int a u) .none) (ha : a ≤ n) (h : Q (0, 1, a) s) :
  wpAny (model prog w) A (Builtin.Slice.sliceApplied (.ref sl) (pure (n : Int))) Q E s := by
 refine o_xaa (id hs) fun os hos hcs hds => ?_
 unfold Builtin.Slice.sliceApplied Builtin.Slice.sliceFields
 refine wpAny_bind (wpAny_bind (wpAny_field hos hds (x := .none) rfl (wpAny_bind (wpAny_field hos hds (x := .int a u) rfl (wpAny_bind (wpAny_field hos hds (x := .none) rfl (wpAny_pure ?_)))))))
 refine wpAny_bind (slicePart_none ?_)
 show wpAny _ _ (if ((1 : Int) == 0) = true then _ else _) _ _ s
 rw [if_neg (by decide)]
 refine wpAny_bind (slicePart_none (wpAny_bind (slicePart_int (wpAny_bind (wpAny_pure ?_)))))
 show wpAny _ _ (match Builtin.Slice.sliceAdjust none (some (a : Int)) 1 (n : Int) with | (lo, hi) => pure (lo, (1 : Int), Builtin.Slice.slicePlaces lo hi 1)) _ _ s
 rw [adjust_to a n ha]
 show wpAny _ _ (pure ((0 : Int), (1 : Int), Builtin.Slice.slicePlaces 0 (a : Int) 1)) _ _ s
 rw [places_to a]
 exact wpAny_pure h
theorem pick_to (xs : Array Value) (a : Nat) (ha : a ≤ xs.size) : ((List.range a).filterMap fun (k : Nat) => xs[((0 : Int) + (k : Int) * 1).toNat]?).toArray = (xs.toList.take a).toArray := by
 congr 1
 have e : (fun (k : Nat) => xs[((0 : Int) + (k : Int) * 1).toNat]?) = fun k => xs.toList[k]? := by
  funext k
  have : ((0 : Int) + (k : Int) * 1).toNat = k := by (simp_all +arith)
  rw [this]
  simp
 rw [e]
 have hl : a ≤ xs.toList.length := by simpa using ha
 generalize xs.toList = l at hl
 clear e ha
 induction a with
 | zero => simp
 | succ a ih =>
  rw [List.range_succ, List.filterMap_append, ih (by (exact Nat.le_of_lt ‹_›))]
  have : l[a]? = some l[a] := List.getElem?_eq_getElem (by assumption)
  rw [List.take_add_one]
  congr 1
theorem getItem_tuple_to {t sl : Addr} {items : Array Value} {a : Nat} {u : Tok} (ht : IsTup s.heap t items) (hs : s.heap.IsSliceOf sl .none (.int a u) .none) (ha : a < items.size)
  (h : Q (.ref s.heap.objs.size) { s with heap := s.heap.push { cls := .type "tuple", data := .seq (items.toList.take a).toArray } }) (hsz : items.size ≤ sizeLine) :
  wpAny (model prog w) A (getItem (.ref t) (.ref sl)) Q E s := by
 have htake : sizeOk (.seq (items.toList.take a).toArray) := by
  show (items.toList.take a).toArray.size ≤ sizeLine
  rw [List.size_toArray, List.length_take, Array.length_toList]
  lia
 refine o_xaa (id hs) fun os hos hcs hds => ?_
 have hTs : s.TypeIs (.ref sl) "slice" := ⟨os, hos, hcs⟩
 unfold getItem
 try with_reducible refine wpAny_holding ?_
 first | refine wpAny_bind (wpAny_pure ?_) | skip
 refine wpAny_bind (wpAny_sequenceKey ht.typeIs (by decide) ?_)
 refine wpAny_bind (wpAny_callSpecial?_slot (name := Str.ofString "__getitem__") ht.typeIs slot_tuple_getitem
  (wpAny_call_entry slot_tuple_getitem ht.typeIs entry_tuple_getitem ?_ (args_tuple_getitem _ _)))
 show wpAny _ _ (Builtin.Tuple.tupleItemsOf (.ref t) >>= _) _ _ s
 refine wpAny_bind (tupleItemsOf_ ht ?_)
 refine wpAny_bind (wpAny_typeOf hTs ?_)
 rw [if_pos (by decide)]
 refine wpAny_bind (sliceApplied_to hs (Nat.le_of_lt ha) ?_)
 have hno : ¬ (((0 : Int) == 0 && (1 : Int) == 1 && a == items.size) = true) := by
  have : (a == items.size) = false := by rw [beq_eq_false_iff_ne]; lia
  rw [this]; simp
 show wpAny _ _ (if ((0 : Int) == 0 && (1 : Int) == 1 && a == items.size) = true then _ else _) _ _ s
 rw [if_neg hno, pick_to items a (Nat.le_of_lt ha)]
 first
  | exact wpAny_bind (m := Builtin.Tuple.tupleExact _) (wpAny_newObj_type (wpAny_pure ⟨_, rfl, wpAny_pure h⟩) htake)
  | exact wpAny_bind (m := Builtin.Tuple.tupleExact _) (wpAny_newObj_type (wpAny_bind (wpAny_pure (wpAny_pure ⟨_, rfl, wpAny_pure h⟩))) htake)
  | exact wpAny_bind (wpAny_bind (m := Builtin.Tuple.tupleExact _) (wpAny_newObj_type (wpAny_pure (wpAny_pure ⟨_, rfl, wpAny_pure h⟩)) htake))
  | exact wpAny_bind (wpAny_bind (m := Builtin.Tuple.tupleExact _) (wpAny_newObj_type (wpAny_pure ⟨_, rfl, wpAny_pure h⟩) htake))
theorem cut_to {value slice : Expr} {v v' : Value} {ds : List Dat} {n : Nat} (D : DatH Ω s.heap v (.tup ds)) (D' : DatH Ω s.heap v' (.int (.ofNat n))) (g : cutOk n ds.length = true)
  (h : ∀ r h' tk, DatH Ω h' r (.tup (takeD n ds)) → All s.heap h' → Q r { s with heap := h', toks := tk }) :
  wpAny (model prog w) A (subscriptTail value slice v (.ref s.heap.objs.size)) Q E { s with heap := s.heap.push { cls := .type "slice", data := .fields #[.none, v', .none] } } := by
 refine o_aa (cutOk_iff g) fun g1 g2 g3 => ?_
 refine o_xxaa D.it fun a vs q x r => ?_
 subst q
 obtain ⟨u, rfl⟩ := D'.ii
 ··have k1 := All.push s.heap { cls := .type "slice", data := .fields #[.none, .int (.ofNat n) u, .none] }
   have ht : IsTup (s.heap.push { cls := .type "slice", data := .fields #[.none, .int (.ofNat n) u, .none] }) a vs.toArray := IsTup.keeps x k1
   have hl : vs.toArray.size = ds.length := by rw [List.size_toArray, r.length]
   refine sub_tail (s := { s with heap := s.heap.push { cls := .type "slice", data := .fields #[.none, .int (.ofNat n) u, .none] } }) ht.typeIs slot_tuple_getitem.lookup
    (getItem_tuple_to ht (Heap.IsSliceOf.new ..) (by (simp +arith only [*])) ?_ (by rw [hl]; show _ ≤ 2 ^ 24; (exact Nat.le_trans ‹_› (by decide))))
   refine h _ _ _ ?_ fun b o hb => Heap.get?_push_of_some _ (k1 b o hb)
   rw [takeD_eq]
   have k2 : All s.heap ((s.heap.push { cls := .type "slice", data := .fields #[.none, .int (.ofNat n) u, .none] }).push { cls := .type "tuple", data := .seq (vs.take n).toArray }) := fun b o hb => Heap.get?_push_of_some _ (k1 b o hb)
   exact .tup (push_tuple rfl rfl) ((r.take n).up (Up.of_all k2))
theorem cut_from {value slice : Expr} {v v' : Value} {ds : List Dat} {n : Nat} (D : DatH Ω s.heap v (.tup ds)) (D' : DatH Ω s.heap v' (.int (.ofNat n))) (g : cutOk n ds.length = true)
  (h : ∀ r h' tk, DatH Ω h' r (.tup (dropD n ds)) → All s.heap h' → Q r { s with heap := h', toks := tk }) :
  wpAny (model prog w) A (subscriptTail value slice v (.ref s.heap.objs.size)) Q E { s with heap := s.heap.push { cls := .type "slice", data := .fields #[v', .none, .none] } } := by
 refine o_aa (cutOk_iff g) fun g1 g2 g3 => ?_
 refine o_xxaa D.it fun a vs q x r => ?_
 subst q
 obtain ⟨u, rfl⟩ := D'.ii
 ··have k1 := All.push s.heap { cls := .type "slice", data := .fields #[.int (.ofNat n) u, .none, .none] }
   have ht : IsTup (s.heap.push { cls := .type "slice", data := .fields #[.int (.ofNat n) u, .none, .none] }) a vs.toArray := IsTup.keeps x k1
   have hl : vs.toArray.size = ds.length := by rw [List.size_toArray, r.length]
   refine sub_tail (s := { s with heap := s.heap.push { cls := .type "slice", data := .fields #[.int (.ofNat n) u, .none, .none] } }) ht.typeIs slot_tuple_getitem.lookup
    (getItem_tuple_from ht (Heap.IsSliceOf.new ..) g1 (by lia) ?_ (by rw [hl]; show _ ≤ 2 ^ 24; (exact Nat.le_trans ‹_› (by decide))))
   refine h _ _ _ ?_ fun b o hb => Heap.get?_push_of_some _ (k1 b o hb)
   rw [dropD_eq]
   have k2 : All s.heap ((s.heap.push { cls := .type "slice", data := .fields #[.int (.ofNat n) u, .none, .none] }).push { cls := .type "tuple", data := .seq (vs.drop n).toArray }) := fun b o hb => Heap.get?_push_of_some _ (k1 b o hb)
   exact .tup (push_tuple rfl rfl) ((r.drop n).up (Up.of_all k2))
end
end
section
set_option backward.match.sparseCases false
open PySem PySem.W PySem.SeqAt Builtin
open PyProof.Rows (subscriptTail Subscript_ Tuple_ List_)
structure LamTab where
 P : Addr
 pos : Pos
 qual : Str
 sc : List (Str × NameKind)
noncomputable abbrev OG := OsState × Array GenState
noncomputable abbrev og (s : Shared) : OG := (s.os, s.gens)
variable {κ κ' : OG}
structure Fixed where
 prog : Program
 w : World
 B0 : Heap
 Ω : Nat → Value
 X : Heap → Addr → Nat → Dat → Prop
 consts : Nat → Dat
 lams : List LamTab
 exc : Nat → Addr
 og : OG
noncomputable abbrev Fixed.M (S : Fixed) : Model := model S.prog S.w
noncomputable def tabO (ps : Array Value) : Obj := { cls := .none, data := .fields ps }
noncomputable def LamOk (h : Heap) (l : LamTab) : Prop := ∃ ps, h.get? l.P = some (tabO ps) ∧ (ps = #[] ∨ ∃ c, ps = #[rawInt l.pos.line, rawInt l.pos.col, .ref c] ∧ h.CodeRec (.ref c) l.qual)
noncomputable def LamLike (o : Obj) : Prop := ∃ vs, o.data = .fields vs ∧ (o.cls = .none ∨ ∃ q t, vs[1]? = some (.str q t))
theorem LamOk.of {h h' : Heap} {l : LamTab} (k : ∀ b o, h.get? b = some o → LamLike o → h'.get? b = some o) (x : LamOk h l) : LamOk h' l := by
 refine o_xa x fun ps h1 h2 => ?_
 clear x
 refine ⟨ps, k _ _ h1 ⟨ps, rfl, .inl rfl⟩, ?_⟩
 rcases h2 with h2 | ⟨c, e, c', o, vs, t, e1, e2, e3, e4⟩
 ·exact .inl h2
 ·exact .inr ⟨c, e, c', o, vs, t, e1, k _ _ e2 ⟨vs, e3, .inr ⟨_, _, e4⟩⟩, e3, e4⟩
structure Stays (S : Fixed) (h : Heap) (κ : OG) : Prop where
 base : S.B0.StaysIn h
 lam : ∀ l ∈ S.lams, LamOk h l
 og : κ = S.og
theorem Stays.all {S : Fixed} {h h' : Heap} (x : Stays S h κ) (k : All h h') : Stays S h' κ := ⟨fun b o e => k b o (x.base b o e), fun l hl => (x.lam l hl).of fun b o e _ => k b o e, x.og⟩
theorem Stays.of {S : Fixed} {h h' : Heap} (x : Stays S h κ) (kb : S.B0.StaysIn h') (k : ∀ b o, h.get? b = some o → LamLike o → h'.get? b = some o) : Stays S h' κ := ⟨kb, fun l hl => (x.lam l hl).of k, x.og⟩
structure Keep (S : Fixed) (h h' : Heap) (κ : OG) : Prop where
 up : Up h h'
 stays : Stays S h' κ
theorem Keep.trans {S : Fixed} {a b c : Heap} (x : Keep S a b κ) (y : Keep S b c κ') : Keep S a c κ' := ⟨x.up.trans y.up, y.stays⟩
structure Cond (S : Fixed) (n : Nat) (A : Around) (env : Env) (xs : List Str) (ρ : List Dat) (h : Heap) (κ : OG) : Prop where
 room : A.depth + 3 * n + 10 < recursionLimit
 units : A.units + 24 * n + 100 < cLine
 handled : A.handled = none
 frames : ∃ l, A.frames = some l ∧ h.FunFrames S.B0 l
 stays : Stays S h κ
 frm : Frm S.Ω env xs ρ h
 kind : env.scope.kind = .function
 glob : env.globals = mainGlobals
 blt : env.builtins = builtinsNs
 lamc : ∀ l ∈ S.lams, l.sc = env.scope.names → ∃ c, env.code = .ref c ∧ CodeHd S.B0 c l.P ∧ l.qual = env.qual ++ "<lambda>"
theorem frames_up {h h' base : Heap} (k : Up h h') {l : List Env} (x : h.FunFrames base l) : h'.FunFrames base l := x.of_keeps fun b o hb hn => let ⟨_, hs⟩ := k.slots b o hb hn; ⟨_, hs, rfl⟩
section
variable {S : Fixed} {n m : Nat} {A : Around} {env : Env} {xs : List Str} {ρ : List Dat} {h h' : Heap}
theorem Cond.keep (C : Cond S n A env xs ρ h κ) (k : Keep S h h' κ') : Cond S n A env xs ρ h' κ' :=
 ⟨C.room, C.units, C.handled, let ⟨l, a, b⟩ := C.frames; ⟨l, a, frames_up k.up b⟩, k.stays, C.frm.up k.up, C.kind, C.glob, C.blt, C.lamc⟩
theorem Cond.less (C : Cond S n A env xs ρ h κ) (k : m ≤ n) : Cond S m A env xs ρ h κ :=
 ⟨by have := C.room; lia, by have := C.units; lia, C.handled, C.frames, C.stays, C.frm, C.kind, C.glob, C.blt, C.lamc⟩
theorem Cond.same (C : Cond S n A env xs ρ h κ) : Keep S h h κ := ⟨Up.refl h, C.stays⟩
theorem Cond.all (C : Cond S n A env xs ρ h κ) (k : All h h') : Keep S h h' κ := ⟨Up.of_all k, C.stays.all k⟩
end
section
variable (S : Fixed)
noncomputable def PostE (out : Out) (h : Heap) (Q : Value → Shared → Prop) (E : Value → Shared → Prop) : Prop := match out with
 | .val d => ∀ v s', DatH S.Ω s'.heap v d → Keep S h s'.heap (og s') → Q v s'
 | .err c p => ∀ e s', S.X s'.heap e c p → Keep S h s'.heap (og s') → E (.ref e) s'
 | _ => False
noncomputable def PostL (out : Out) (h : Heap) (Q : List Value → Shared → Prop) (E : Value → Shared → Prop) : Prop := match out with
 | .vals ds => ∀ vs s', DatsH S.Ω s'.heap vs ds → Keep S h s'.heap (og s') → Q vs s'
 | .err c p => ∀ e s', S.X s'.heap e c p → Keep S h s'.heap (og s') → E (.ref e) s'
 | _ => False
noncomputable def PostT (out : Out) (h : Heap) (Q : Bool → Shared → Prop) (E : Value → Shared → Prop) : Prop := match out with
 | .test b => ∀ s', Keep S h s'.heap (og s') → Q b s'
 | .err c p => ∀ e s', S.X s'.heap e c p → Keep S h s'.heap (og s') → E (.ref e) s'
 | _ => False
end
section
variable {S : Fixed} {out : Out} {h h' : Heap} {E : Value → Shared → Prop}
theorem PostE.keep {Q : Value → Shared → Prop} (k : Keep S h h' κ) (P : PostE S out h Q E) : PostE S out h' Q E := by
 induction out <;> first | exact fun v s' D K => P v s' D (k.trans K) | exact P
theorem PostL.keep {Q : List Value → Shared → Prop} (k : Keep S h h' κ) (P : PostL S out h Q E) : PostL S out h' Q E := by
 induction out <;> first | exact fun v s' D K => P v s' D (k.trans K) | exact P
theorem PostT.keep {Q : Bool → Shared → Prop} (k : Keep S h h' κ) (P : PostT S out h Q E) : PostT S out h' Q E := by
 induction out <;> first | exact fun s' K => P s' (k.trans K) | exact fun v s' D K => P v s' D (k.trans K) | exact P
end
/-! the evaluator's own steps read -/
theorem forceL_eq : ∀ (l : List Dat) (k : List Dat → Option Out), forceL l k = k l
 | [], _ => rfl
 | d :: r, k => by
  have : forceL (d :: r) k = forceL r fun r => k (d :: r) := rfl
  rw [this, forceL_eq r]
theorem forceB_eq (b : Bool) (k : Bool → Option Out) : forceB b k = k b := by induction b <;> rfl
theorem forceD_eq {d : Dat} {k : Dat → Option Out} {o : Out} (h : forceD d k = some o) : d ≠ .hole ∧ k d = some o := by
 induction d using Dat.casesOn with
 | hole => exact nn h
 | none => exact ⟨by intro q; (injection q), h⟩
 | bool b => exact ⟨by intro q; (injection q), by induction b <;> exact h⟩
 | int i => exact ⟨by intro q; (injection q), by induction i <;> exact h⟩
 | str c => exact ⟨by intro q; (injection q), h⟩
 | txt c => exact ⟨by intro q; (injection q), h⟩
 | bytes c => exact ⟨by intro q; (injection q), h⟩
 | tup l =>
  have h' : (forceL l fun l => k (.tup l)) = some o := h
  rw [forceL_eq] at h'
  exact ⟨by intro q; (injection q), h'⟩
 | list l =>
  have h' : (forceL l fun l => k (.list l)) = some o := h
  rw [forceL_eq] at h'
  exact ⟨by intro q; (injection q), h'⟩
 | obj c => exact ⟨by intro q; (injection q), h⟩
theorem andO_inv {o : Option Out} {k : Dat → Option Out} {out : Out} (h : andO o k = some out) : (∃ d, o = some (.val d) ∧ d ≠ .hole ∧ k d = some out) ∨ ∃ c p, o = some (.err c p) ∧ out = .err c p := by
 induction o with
 | none => exact nn h
 | some o => induction o with
  | val d => exact .inl ⟨d, rfl, forceD_eq (show forceD d k = some out from h)⟩
  | err c p => exact .inr ⟨c, p, rfl, (Option.some.inj h).symm⟩
  | vals ds => exact nn h
  | test b => exact nn h
  | flow ρ f => exact nn h
theorem andT_inv {o : Option Out} {k : Bool → Option Out} {out : Out} (h : andT o k = some out) : (∃ b, o = some (.test b) ∧ k b = some out) ∨ ∃ c p, o = some (.err c p) ∧ out = .err c p := by
 induction o with
 | none => exact nn h
 | some o => induction o with
  | test b => exact .inl ⟨b, rfl, by rw [← forceB_eq b k]; exact h⟩
  | err c p => exact .inr ⟨c, p, rfl, (Option.some.inj h).symm⟩
  | vals ds => exact nn h
  | val b => exact nn h
  | flow ρ f => exact nn h
theorem andS_inv {o : Option Out} {k : List Dat → Option Out} {out : Out} (h : andS o k = some out) : (∃ ds, o = some (.vals ds) ∧ k ds = some out) ∨ ∃ c p, o = some (.err c p) ∧ out = .err c p := by
 induction o with
 | none => exact nn h
 | some o => induction o with
  | vals ds => exact .inl ⟨ds, rfl, h⟩
  | err c p => exact .inr ⟨c, p, rfl, (Option.some.inj h).symm⟩
  | val ds => exact nn h
  | test b => exact nn h
  | flow ρ f => exact nn h
section
variable {S : Fixed} {out : Out} {h : Heap} {E : Value → Shared → Prop} {A : Around} {s : Shared}
theorem step_ex {o : Option Out} {k : Dat → Option Out} {t : Sem Value} {R : Value → Shared → Prop} (hrun : andO o k = some out)
  (ih : ∀ out', o = some out' → ∀ R' : Value → Shared → Prop, PostE S out' s.heap R' E → wpAny S.M A t R' E s)
  (perr : ∀ c p, out = .err c p → ∀ e s', S.X s'.heap e c p → Keep S s.heap s'.heap (og s') → E (.ref e) s')
  (nxt : ∀ d v s₁, d ≠ .hole → k d = some out → DatH S.Ω s₁.heap v d → Keep S s.heap s₁.heap (og s₁) → R v s₁) : wpAny S.M A t R E s := by
 rcases andO_inv hrun with ⟨d, h1, h2, h3⟩ | ⟨c, p, h1, h2⟩
 ·exact ih _ h1 R fun v s' D K => nxt d v s' h2 h3 D K
 ·exact ih _ h1 R fun e s' D K => perr c p h2 e s' D K
theorem step_te {o : Option Out} {k : Bool → Option Out} {t : Sem Bool} {R : Bool → Shared → Prop} (hrun : andT o k = some out)
  (ih : ∀ out', o = some out' → ∀ R' : Bool → Shared → Prop, PostT S out' s.heap R' E → wpAny S.M A t R' E s)
  (perr : ∀ c p, out = .err c p → ∀ e s', S.X s'.heap e c p → Keep S s.heap s'.heap (og s') → E (.ref e) s')
  (nxt : ∀ b s₁, k b = some out → Keep S s.heap s₁.heap (og s₁) → R b s₁) : wpAny S.M A t R E s := by
 rcases andT_inv hrun with ⟨d, h1, h3⟩ | ⟨c, p, h1, h2⟩
 ·exact ih _ h1 R fun s' K => nxt d s' h3 K
 ·exact ih _ h1 R fun e s' D K => perr c p h2 e s' D K
theorem step_xs {o : Option Out} {k : List Dat → Option Out} {t : Sem (List Value)} {R : List Value → Shared → Prop} (hrun : andS o k = some out)
  (ih : ∀ out', o = some out' → ∀ R' : List Value → Shared → Prop, PostL S out' s.heap R' E → wpAny S.M A t R' E s)
  (perr : ∀ c p, out = .err c p → ∀ e s', S.X s'.heap e c p → Keep S s.heap s'.heap (og s') → E (.ref e) s')
  (nxt : ∀ ds vs s₁, k ds = some out → DatsH S.Ω s₁.heap vs ds → Keep S s.heap s₁.heap (og s₁) → R vs s₁) : wpAny S.M A t R E s := by
 rcases andS_inv hrun with ⟨d, h1, h3⟩ | ⟨c, p, h1, h2⟩
 ·exact ih _ h1 R fun v s' D K => nxt d v s' h3 D K
 ·exact ih _ h1 R fun e s' D K => perr c p h2 e s' D K
theorem PostE.perr {Q : Value → Shared → Prop} (P : PostE S out h Q E) : ∀ c p, out = .err c p → ∀ e s', S.X s'.heap e c p → Keep S h s'.heap (og s') → E (.ref e) s' := fun c p q => by subst q; exact P
theorem PostL.perr {Q : List Value → Shared → Prop} (P : PostL S out h Q E) : ∀ c p, out = .err c p → ∀ e s', S.X s'.heap e c p → Keep S h s'.heap (og s') → E (.ref e) s' := fun c p q => by subst q; exact P
theorem PostT.perr {Q : Bool → Shared → Prop} (P : PostT S out h Q E) : ∀ c p, out = .err c p → ∀ e s', S.X s'.heap e c p → Keep S h s'.heap (og s') → E (.ref e) s' := fun c p q => by subst q; exact P
end
theorem code_hide {M : Model} {A : Around} {c : Code} {R : Result → Shared → Prop} {s : Shared} (h : ∀ R' : Result → Shared → Prop, (∀ x s', R x s' → R' x s') → codeAny M A c R' s) : codeAny M A c R s := h R fun _ _ q => q
theorem wp_hide {α : Type} {M : Model} {A : Around} {c : Sem α} {Q : α → Shared → Prop} {E : Value → Shared → Prop} {s : Shared} (h : ∀ Q' : α → Shared → Prop, (∀ x s', Q x s' → Q' x s') → ∀ E', (∀ x s', E x s' → E' x s') → wpAny M A c Q' E' s) : wpAny M A c Q E s := h Q (fun _ _ q => q) E fun _ _ q => q
end
section
set_option backward.match.sparseCases false
open PySem PySem.W PySem.SeqAt Builtin
open PyProof.Rows (subscriptTail Subscript_ Tuple_ List_ Compare_chain isTrue_chain chain_link chain_last test_link test_last neg_int)
variable {κ κ' : OG}
/-! what the texts of a body must be like -/
noncomputable def lenM : M → Nat
 | .cons _ r => lenM r + 1
 | _ => 0
noncomputable def okSB (x : Str) : Bool := Nat.ble x.cps.size 64 && x.cps.toList.all fun c => Nat.blt c 1114111
noncomputable def okC : Const → Bool
 | .str x => okSB x
 | _ => true
noncomputable def isLocal (k : Option NameKind) : Bool := match k with
 | some .local => true
 | some .cell => true
 | some .free => true
 | _ => false
noncomputable def isGlobal (k : Option NameKind) : Bool := match k with
 | some .globalImplicit => true
 | _ => false
noncomputable def at? (xs : List Str) (i : Nat) (x : Str) : Bool := match xs[i]? with
 | some y => Fast.sEq y x
 | none => false
noncomputable def plainName (x : Str) : Bool := !(x == ("__debug__" : Str)) && !(x == ("__classdict__" : Str))
noncomputable abbrev Sc := List (Str × NameKind)
noncomputable def okVar (sc : Sc) (xs : List Str) (i : Nat) (x : Str) : Bool := at? xs i x && isLocal (sc.lookup x) && plainName x
noncomputable def okGlob (sc : Sc) (x : Str) : Bool := isGlobal (sc.lookup x) && plainName x
noncomputable def okT : M → Bool
 | .c o _ _ _ => match o with
  | .ite _ => false
  | _ => true
 | _ => true
noncomputable def okTs : M → Bool
 | .cons e r => okT e && okTs r
 | _ => true
noncomputable def notRaw : M → Bool
 | .raw _ => false
 | _ => true
noncomputable def some1 : M → Bool
 | .cons _ _ => true
 | _ => false
noncomputable def allPlain : M → Bool
 | .cons e r => notRaw e && allPlain r
 | _ => true
noncomputable def litKeys : M → Bool
 | .cons v r => match v with
  | .lit c _ _ => match c with
   | .str x => okSB x && litKeys r
   | _ => false
  | _ => false
 | .nil => true
 | _ => false
noncomputable def keysOf : M → List Str
 | .cons v r => match v with
  | .lit c _ _ => match c with
   | .str x => x :: keysOf r
   | _ => []
  | _ => []
 | _ => []
noncomputable def okDisp (a b : M) : Bool := litKeys a && decide (lenM a = lenM b) && Nat.ble 1 (lenM a) && Nat.ble (lenM a) 15 && decide (keysOf a).Nodup
noncomputable def posEq (p q : Pos) : Bool := Nat.beq p.line q.line && Nat.beq p.col q.col
noncomputable def scEq (a b : Sc) : Bool := match a with
 | [] => match b with | [] => true | _ :: _ => false
 | (x, k) :: r => match b with
  | [] => false
  | (y, l) :: t => Fast.sEq x y && (k == l) && scEq r t
noncomputable def okLam (sc : Sc) (g : Arguments) (sc' : Scope) (lp : Pos) : Bool := lamList.any (fun q => scEq q.1 sc && posEq q.2 lp) && (sc'.kind == .function) && !sc'.isCoroutine && !sc'.isGenerator &&
 g.posonlyargs.isEmpty && g.args.isEmpty && g.vararg.isNone && g.kwonlyargs.isEmpty && g.kw_defaults.isEmpty && g.kwarg.isNone && g.defaults.isEmpty &&
 sc'.names.all (fun p => !(p.2 == .cell) && !(p.2 == .local) && (!(p.2 == .free) || (sc.lookup p.1 == some .cell))) && decide (sc'.names.map (·.1)).Nodup && !(lamList.any fun q => scEq q.1 sc'.names)
noncomputable def relab (sc sc' : Sc) : Sc := sc'.map fun p => if p.2 == .free && sc.lookup p.1 == some .cell then (p.1, .cell) else p
noncomputable def okComp (sc : Sc) (xs : List Str) (x : Str) (sc' : Scope) : Bool := (sc'.kind == .function) && sc'.names.all (fun p => !(p.2 == .cell) && (!(p.2 == .free) || (sc.lookup p.1 == some .cell)) && (!(p.2 == .local) || sc'.names.lookup p.1 == some .local)) &&
 (sc'.names.lookup x == some .local) && !(xs.contains x) && (relab sc sc'.names).all (fun p => !(p.2 == .local) || !(xs.contains p.1)) && (relab sc sc'.names).all (fun p => !(p.2 == .free)) && lamList.all (fun q => !(q.1.lookup x == some .local)) && ((relab sc sc'.names).lookup x == some .local) && decide (sc'.names.map (·.1)).Nodup
noncomputable def isVar : M → Bool
 | .var _ _ _ => true
 | _ => false
noncomputable def isLst : M → Bool
 | .u o _ => match o with
  | .lst _ => true
  | _ => false
 | _ => false
noncomputable def okU (sc : Sc) (o : O1) (a : M) : Bool := match o with
 | .world _ => isVar a
 | .tup _ _ => Nat.ble (lenM a) 64
 | .lst _ => Nat.ble (lenM a) 64
 | .not _ => okT a
 | .bools _ _ => okTs a
 | .isi T _ _ _ => okGlob sc (Str.ofString "isinstance") && okGlob sc T.name && notRaw a
 | .bi f _ _ => okGlob sc f.name && some1 a && allPlain a
 | .isc _ _ => okGlob sc (Str.ofString "is_comparable") && some1 a
 | .call k x _ _ => okGlob sc x && at? cx0.fns k x && some1 a
 | .lt k x g sc' _ _ lp _ _ => okGlob sc (Str.ofString "_law_tried") && at? cx0.fns k x && okGlob sc'.names x && okLam sc g sc' lp && some1 a
 | .gbits _ _ => okGlob sc (Str.ofString "BITS")
 | .gdflt _ _ => okGlob sc (Str.ofString "UNTYPED_DEFAULTS")
 | .rais k x _ _ _ => okGlob sc x && at? cx0.excs k x && some1 a && allPlain a
 | .crng n _ _ _ _ _ _ _ _ => okGlob sc (Str.ofString "range") && Nat.ble n 4095
 | _ => true
noncomputable def okM (sc : Sc) (xs : List Str) : M → Bool
 | .nil => true
 | .cons e r => okM sc xs e && okM sc xs r
 | .lit c _ _ => okC c
 | .var i x _ => okVar sc xs i x
 | .gl i x _ => okGlob sc x && at? cx0.consts i x
 | .u o a => match o with
  | .lt _ _ _ sc' _ _ _ _ _ => okM sc'.names xs a && okU sc o a
  | .crng _ x sc' _ _ _ _ _ _ => okM (relab sc sc'.names) (xs ++ [x]) a && okComp sc xs x sc' && okU sc o a
  | _ => okM sc xs a && okU sc o a
 | .b o a b => match o with
  | .comp x sc' _ _ => okM sc xs a && okM (relab sc sc'.names) (xs ++ [x]) b && okComp sc xs x sc' && notRaw a
  | .kc k x g sc' _ _ lp _ _ => okM sc xs a && okM sc'.names xs b && (okGlob sc (Str.ofString "known_const") && at? cx0.fns k x && okGlob sc'.names x && okLam sc g sc' lp && some1 b) && notRaw a
  | .meth k x ap p => okM sc xs a && okM sc xs b && (at? cx0.meths k x && some1 b && Nat.ble (lenM b) 8 && allPlain b && Nat.beq ap.endLine p.line) && isVar a
  | .base ap p => okM sc xs a && okM sc xs b && (some1 b && Nat.ble (lenM b) 8 && allPlain b && Nat.beq ap.endLine p.line) && isVar a
  | .cnt ap p => okM sc xs a && okM sc xs b && (some1 b && Nat.ble (lenM b) 8 && allPlain b && Nat.beq ap.endLine p.line) && isLst a
  | _ => okM sc xs a && okM sc xs b
 | .c o a b c => match o with
  | .compIf x sc' _ _ => okM sc xs a && (okM (relab sc sc'.names) (xs ++ [x]) b && okM (relab sc sc'.names) (xs ++ [x]) c) && okT b && okComp sc xs x sc' && notRaw a
  | .dix _ _ => okM sc xs a && (okM sc xs b && okM sc xs c) && okDisp a b
  | .dget _ ap p => okM sc xs a && (okM sc xs b && okM sc xs c) && okDisp a b && notRaw c && Nat.beq ap.endLine p.line
  | .ite _ => okM sc xs a && (okM sc xs b && okM sc xs c) && okT a
  | .ifs _ => okM sc xs a && (okM sc xs b && okM sc xs c) && okT a
  | .cmp2 _ _ _ => okM sc xs a && (okM sc xs b && okM sc xs c) && notRaw c
  | _ => okM sc xs a && (okM sc xs b && okM sc xs c)
 | .raw _ => true
 | .rawS _ => true
set_option tactic.hygienic true in
theorem at?_eq {xs : List Str} {i : Nat} {x : Str} (h : at? xs i x = true) : xs[i]? = some x := by
 unfold at? at h
 split at h
 ·rename_i y hy
  rw [hy, Fast.sEq_iff.mp h]
 ·exact ft h
theorem plainName_eq {x : Str} (h : plainName x = true) : (x == ("__debug__" : Str)) = false ∧ (x == ("__classdict__" : Str)) = false := by
 unfold plainName at h
 simpa using h
theorem isLocal_eq {k : Option NameKind} (h : isLocal k = true) : k = some .local ∨ k = some .cell ∨ k = some .free := by
 unfold isLocal at h
 split at h <;> first | exact .inl rfl | exact .inr (.inl rfl) | exact .inr (.inr rfl) | exact ft h
theorem isGlobal_eq {k : Option NameKind} (h : isGlobal k = true) : k = some .globalImplicit := by
 unfold isGlobal at h
 split at h <;> first | rfl | exact ft h
theorem okSB_eq {x : Str} (h : okSB x = true) : okS x := by
 unfold okSB at h
 rw [Bool.and_eq_true, List.all_eq_true] at h
 exact ⟨Nat.le_of_ble_eq_true h.1, fun c hc => by have := h.2 c hc; rwa [Nat.blt_eq] at this⟩
section
variable (S : Fixed) (t : Tabs)
noncomputable def ExOk (n : Nat) (m : M) (ρ : List Dat) (out : Out) : Prop := ∀ (A : Around) (env : Env) (xs : List Str) (s : Shared) (Q E : Value → Shared → Prop),
 okM env.scope.names xs m = true → Cond S n A env xs ρ s.heap (og s) → PostE S out s.heap Q E → wpAny S.M A (eval (toE m) env) Q E s
noncomputable def XsOk (n : Nat) (m : M) (ρ : List Dat) (out : Out) : Prop := ∀ (A : Around) (env : Env) (xs : List Str) (s : Shared) (Q : List Value → Shared → Prop) (E : Value → Shared → Prop) (pos : Pos),
 okM env.scope.names xs m = true → Cond S n A env xs ρ s.heap (og s) → PostL S out s.heap Q E → wpAny S.M A (spliced (backTo pos (starEach (toEs m) env))) Q E s
noncomputable def TeOk (n : Nat) (m : M) (ρ : List Dat) (out : Out) : Prop := ∀ (A : Around) (env : Env) (xs : List Str) (s : Shared) (Q : Bool → Shared → Prop) (E : Value → Shared → Prop),
 okM env.scope.names xs m = true → okT m = true → Cond S n A env xs ρ s.heap (og s) → PostT S out s.heap Q E → wpAny S.M A (isTrue (toE m) env (eval (toE m) env)) Q E s
structure SoundE (n : Nat) : Prop where
 ex : ∀ m ρ out, runT t n (.ex m) ρ = some out → ExOk S n m ρ out
 exs : ∀ m ρ out, runT t n (.exs m) ρ = some out → XsOk S n m ρ out
 te : ∀ m ρ out, runT t n (.test m) ρ = some out → TeOk S n m ρ out
end
theorem val?_inv {o : Option Dat} {out : Out} (h : val? o = some out) : ∃ d, o = some d ∧ out = .val d := by
 induction o with
 | none => exact nn h
 | some d => exact ⟨d, rfl, (Option.some.inj h).symm⟩
theorem bool?_inv {o : Option Bool} {out : Out} (h : bool? o = some out) : ∃ d, o = some d ∧ out = .val (.bool d) := by
 induction o with
 | none => exact nn h
 | some d => exact ⟨d, rfl, (Option.some.inj h).symm⟩
theorem onBool_inv {d : Dat} {k : Bool → Option Out} {out : Out} (h : onBool d k = some out) : ∃ b, d = .bool b ∧ k b = some out := by
 induction d using Dat.casesOn <;> first | exact ⟨_, rfl, h⟩ | exact nn h
theorem onInt_inv {d : Dat} {k : Int → Option Out} {out : Out} (h : onInt d k = some out) : ∃ b, d = .int b ∧ k b = some out := by
 induction d using Dat.casesOn <;> first | exact ⟨_, rfl, h⟩ | exact nn h
theorem onTup_inv {d : Dat} {k : List Dat → Option Out} {out : Out} (h : onTup d k = some out) : ∃ b, d = .tup b ∧ k b = some out := by
 induction d using Dat.casesOn <;> first | exact ⟨_, rfl, h⟩ | exact nn h
theorem onObj_inv {d : Dat} {k : Nat → Option Out} {out : Out} (h : onObj d k = some out) : ∃ b, d = .obj b ∧ k b = some out := by
 induction d using Dat.casesOn <;> first | exact ⟨_, rfl, h⟩ | exact nn h
theorem onNat_inv {d : Int} {k : Nat → Option Out} {out : Out} (h : onNat d k = some out) : ∃ b, d = .ofNat b ∧ k b = some out := by
 induction d <;> first | exact ⟨_, rfl, h⟩ | exact nn h
theorem iteO_inv {b : Bool} {x y : Option Out} {out : Out} (h : iteO b x y = some out) : (b = true ∧ x = some out) ∨ (b = false ∧ y = some out) := by
 cases b
 ·exact .inr ⟨rfl, h⟩
 ·exact .inl ⟨rfl, h⟩
theorem defd_inv {d : Dat} {out : Out} (h : defd d = some out) : d ≠ .hole ∧ out = .val d := by
 induction d using Dat.casesOn <;> first | exact ⟨by intro q; (injection q), (Option.some.inj h).symm⟩ | injection h
section
variable {S : Fixed} {t : Tabs} {n : Nat} {ρ : List Dat} {out : Out}
theorem and3 {a b c : Bool} (h : (a && (b && c)) = true) : a = true ∧ b = true ∧ c = true := by
 induction a <;> cases b <;> cases c <;> simp_all
theorem ex_lit {c : Const} {k : Nat} {p : Pos} (h : val? (constD c) = some out) : ExOk S (n + 1) (.lit c k p) ρ out := by
 intro A env xs s Q E hok C P
 refine o_xa (val?_inv h) fun d hd q2' => ?_
 subst q2'
 show wpAny S.M A (eval (.Constant c k p) env) Q E s
 induction c with
 | none => obtain rfl := si hd; exact wpAny_Constant_none (P _ _ .none C.same)
 | bool b => obtain rfl := si hd; exact wpAny_Constant_bool (P _ _ (.bool b) C.same)
 | int i => obtain rfl := si hd; exact wpAny_Constant_int (P _ _ (.int i _) C.same)
 | str x => obtain rfl := si hd; exact wpAny_Constant_str (P _ _ (.str x _ (okSB_eq hok)) C.same)
 | bytes b =>
  obtain rfl := si hd
  exact Constant_bytes (P _ _ (DatH.bytes b.toArray _) C.same)
 | _ => exact nn hd
theorem ex_var {i : Nat} {x : Str} {p : Pos} (h : defd (nth ρ i) = some out) : ExOk S (n + 1) (.var i x p) ρ out := by
 intro A env xs s Q E hok C P
 obtain ⟨hd, rfl⟩ := defd_inv h
 have hok' : (at? xs i x && isLocal (env.scope.names.lookup x) && plainName x) = true := hok
 simp only [Bool.and_eq_true] at hok'
 have hp := plainName_eq hok'.2
 exact wp_load C.frm (at?_eq hok'.1.1) (nth_get hd) hd C.kind (isLocal_eq hok'.1.2) hp.1 hp.2 fun v D => P v s D C.same
theorem ex_bin (I : SoundE S t n) {op : Operator} {p : Pos} {a b : M} (h : dBin op (runT t n) ρ a b = some out) : ExOk S (n + 1) (.b (.bin op p) a b) ρ out := by
 intro A env xs s Q E hok C P
 refine b_Lnn (show (okM env.scope.names xs a && okM env.scope.names xs b) = true from hok) fun ha hb => ?_
 have C' := C.less (Nat.le_succ n)
 refine wpAny_BinOp (step_ex h (fun o' ho R PR => I.ex a ρ o' ho A env xs s R E ha C' PR) P.perr fun x v s₁ _ h1 D K => ?_)
 refine step_ex h1 (fun o' ho R PR => I.ex b ρ o' ho A env xs s₁ R E hb (C'.keep K) PR) (P.keep K).perr fun y v' s₂ _ h2 D' K' => ?_
 refine o_xa (val?_inv h2) fun d hd q2' => ?_
 subst q2'
 exact bin_sound (D.up K'.up) D' hd fun r h₃ t₃ Dr k => P r _ Dr ((K.trans K').trans (((C.keep K).keep K').all k))
theorem no_marks' (op : CmpOp) {m : M} (h : notRaw m = true) : behindInMarks op (toE m) = false := by
 induction m using M.casesOn with
 | raw e => exact ft h
 | u o a => induction o <;> rfl
 | b o a b => induction o <;> rfl
 | c o a b c => induction o <;> rfl
 | _ => rfl
theorem no_star {m : M} {t : Tabs} {n : Nat} {ρ : List Dat} {out : Out} (h : runT t (n + 1) (.ex m) ρ = some out) (rest : List Expr) (env : Env) :
  starEach (toE m :: rest) env = (false, eval (toE m) env) :: starEach rest env := by
 induction m using M.casesOn with
 | raw e => exact nn h
 | u o a => induction o <;> rfl
 | b o a b => induction o <;> rfl
 | c o a b c => induction o <;> rfl
 | _ => rfl
theorem no_marks (op : CmpOp) {m : M} {o : Option Out} {t : Tabs} {n : Nat} {ρ : List Dat} {out : Out} (h : runT t (n + 1) (.ex m) ρ = some out) : behindInMarks op (toE m) = false := by
 induction m using M.casesOn with
 | raw e => exact nn h
 | u o a => induction o <;> rfl
 | b o a b => induction o <;> rfl
 | c o a b c => induction o <;> rfl
 | _ => rfl
end
end
section
open PySem PySem.W PySem.SeqAt Builtin
open PyProof.Rows (subscriptTail Subscript_ Tuple_ List_ Compare_chain isTrue_chain chain_link chain_last test_link test_last neg_int)
variable {κ κ' : OG}
section
variable {S : Fixed} {t : Tabs} {n : Nat} {ρ : List Dat} {out : Out}
theorem ex_cmp (I : SoundE S t n) (Hr : OmRef S.Ω) {op : CmpOp} {p : Pos} {a b : M} (h : dCmp op (runT t n) ρ a b = some out) : ExOk S (n + 1) (.b (.cmp op p) a b) ρ out := by
 intro A env xs s Q E hok C P
 refine b_Lnn (show (okM env.scope.names xs a && okM env.scope.names xs b) = true from hok) fun ha hb => ?_
 have C' := C.less (Nat.le_succ n)
 have mk : ∀ {x : Dat} {k : Dat → Option Out}, andO (runT t n (.ex b) ρ) k = some out → behindInMarks op (toE b) = false := fun {x k} hh => by
  induction n using Nat.casesAuxOn with
  | zero => exact nn hh
  | succ n => rcases andO_inv hh with ⟨d, h1, _⟩ | ⟨c, p, h1, _⟩ <;> exact no_marks op (o := none) h1
 rcases andO_inv h with ⟨x, h0, hx, h1⟩ | ⟨c, q, h0, rfl⟩
 ·refine wpAny_Compare1 (I.ex a ρ _ h0 A env xs s _ E ha C' fun v s₁ D K => ?_) (mk (x := x) h1)
  refine step_ex h1 (fun o' ho R PR => I.ex b ρ o' ho A env xs s₁ R E hb (C'.keep K) PR) (P.keep K).perr fun y v' s₂ _ h2 D' K' => ?_
  refine o_xa (bool?_inv h2) fun d hd q2' => ?_
  subst q2'
  have C2 := (C.keep K).keep K'
  exact cmp_sound Hr (by have := C2.units; lia) (D.up K'.up) D' hd (P _ _ (.bool d) (K.trans K'))
 ·rw [show toE (.b (.cmp op p) a b) = .Compare (toE a) [op] [toE b] p from rfl, arm_eval_Compare]
  exact wpAny_bind (I.ex a ρ _ h0 A env xs s _ E ha C' P)
theorem run_zero {T : Task} {ρ : List Dat} {out : Out} : runT t 0 T ρ ≠ some out := fun h => by exact nn h
theorem exs_len : ∀ (n : Nat) (a : M) (ρ ds : List Dat), runT t n (.exs a) ρ = some (.vals ds) → ds.length = lenM a
 | 0, _, _, _, h => absurd h run_zero
 | n + 1, a, ρ, ds, h => by
  induction a using M.casesOn with
  | nil => cases h; rfl
  | cons e r =>
   have h' : (andO (runT t n (.ex e) ρ) fun d => andS (runT t n (.exs r) ρ) fun ds => some (.vals (d :: ds))) = some (.vals ds) := h
   rcases andO_inv h' with ⟨d, _, _, h1⟩ | ⟨c, q, _, h1⟩
   ·rcases andS_inv h1 with ⟨ds', h2, h3⟩ | ⟨c, q, _, h3⟩
    ·cases h3
     show ds'.length + 1 = lenM r + 1
     rw [exs_len n r ρ ds' h2]
    ·injection h3
   ·injection h1
  | _ => exact nn h
theorem xs_all (I : SoundE S t n) {a : M} (h : runT t (n + 1) (.exs a) ρ = some out) : XsOk S (n + 1) a ρ out := by
 intro A env xs s Q E pos hok C P
 have C' := C.less (Nat.le_succ n)
 induction a using M.casesOn with
 | nil =>
  obtain rfl := si h
  exact wpAny_items_nil (P _ _ .nil C.same)
 | cons e r =>
  refine b_Lnn (show (okM env.scope.names xs e && okM env.scope.names xs r) = true from hok) fun ha hb => ?_
  have h' : (andO (runT t n (.ex e) ρ) fun d => andS (runT t n (.exs r) ρ) fun ds => some (.vals (d :: ds))) = some out := h
  have hs : starEach (toE e :: toEs r) env = (false, eval (toE e) env) :: starEach (toEs r) env := by
   induction n using Nat.casesAuxOn with
   | zero => rcases andO_inv h' with ⟨d, h1, _⟩ | ⟨c, p, h1, _⟩ <;> exact absurd h1 run_zero
   | succ n => rcases andO_inv h' with ⟨d, h1, _⟩ | ⟨c, p, h1, _⟩ <;> exact no_star h1 _ _
  refine wpAny_items_cons (he := hs) (step_ex h' (fun o' ho R PR => I.ex e ρ o' ho A env xs s R E ha C' PR) P.perr fun x v s₁ _ h1 D K => ?_)
  refine step_xs h1 (fun o' ho R PR => I.exs r ρ o' ho A env xs s₁ R E pos hb (C'.keep K) PR) (P.keep K).perr fun ds vs s₂ h2 D' K' => ?_
  obtain rfl := si h2
  exact P _ _ (.cons (D.up K'.up) D') (K.trans K')
 | _ => exact nn h
theorem ex_tup (I : SoundE S t n) {k : Nat} {p : Pos} {a : M} (h : uTup (runT t n) ρ a = some out) : ExOk S (n + 1) (.u (.tup k p) a) ρ out := by
 intro A env xs s Q E hok C P
 refine b_Lnn (show (okM env.scope.names xs a && Nat.ble (lenM a) 64) = true from hok) fun ha hb => ?_
 have C' := C.less (Nat.le_succ n)
 rcases andS_inv h with ⟨ds, h1, h2⟩ | ⟨c, q, h1, rfl⟩
 ·obtain rfl := si h2
  refine Tuple_ (I.exs a ρ _ h1 A env xs s _ E p ha C' fun vs s₁ D K => ?_)
  have hl : vs.length ≤ 64 := by rw [D.length, exs_len n a ρ ds h1]; exact Nat.le_of_ble_eq_true hb
  have k2 := All.push s₁.heap { cls := .type "tuple", data := .seq vs.toArray }
  exact wpAny_newTuple (P _ _ (.tup (push_tuple rfl rfl) (D.up (Up.of_all k2))) (K.trans ((C.keep K).all k2))) (hsz := by show vs.length ≤ 2 ^ 24; (exact Nat.le_trans ‹_› (by decide)))
 ·exact Tuple_ (I.exs a ρ _ h1 A env xs s _ E p ha C' P)
theorem ex_lst (I : SoundE S t n) {p : Pos} {a : M} (h : uLst (runT t n) ρ a = some out) : ExOk S (n + 1) (.u (.lst p) a) ρ out := by
 intro A env xs s Q E hok C P
 refine b_Lnn (show (okM env.scope.names xs a && Nat.ble (lenM a) 64) = true from hok) fun ha hb => ?_
 have C' := C.less (Nat.le_succ n)
 rcases andS_inv h with ⟨ds, h1, h2⟩ | ⟨c, q, h1, rfl⟩
 ·obtain rfl := si h2
  refine List_ (I.exs a ρ _ h1 A env xs s _ E p ha C' fun vs s₁ D K => ?_)
  have hl : vs.length ≤ 64 := by rw [D.length, exs_len n a ρ ds h1]; exact Nat.le_of_ble_eq_true hb
  have k2 := All.push s₁.heap { cls := .type "list", data := .seq vs.toArray }
  exact wpAny_newList (P _ _ (.list (push_list rfl rfl) (D.up (Up.of_all k2))) (K.trans ((C.keep K).all k2))) (hsz := by show vs.length ≤ 2 ^ 24; (exact Nat.le_trans ‹_› (by decide)))
 ·exact List_ (I.exs a ρ _ h1 A env xs s _ E p ha C' P)
theorem ex_neg (I : SoundE S t n) {p : Pos} {a : M} (h : uNeg (runT t n) ρ a = some out) : ExOk S (n + 1) (.u (.neg p) a) ρ out := by
 intro A env xs s Q E hok C P
 obtain ⟨ha, -⟩ := ba (show (okM env.scope.names xs a && true) = true from hok)
 refine wpAny_UnaryOp (step_ex h (fun o' ho R PR => I.ex a ρ o' ho A env xs s R E ha (C.less (Nat.le_succ n)) PR) P.perr fun x v s₁ _ h1 D K => ?_)
 refine o_xa (onInt_inv h1) fun i q1' h2 => ?_
 subst q1'
 obtain rfl := si h2
 exact neg_sound D fun r h₃ t₃ Dr k => P r _ Dr (K.trans ((C.keep K).all k))
theorem ex_idx (I : SoundE S t n) {p : Pos} {a b : M} (h : dIdx (runT t n) ρ a b = some out) : ExOk S (n + 1) (.b (.idx p) a b) ρ out := by
 intro A env xs s Q E hok C P
 refine b_Lnn (show (okM env.scope.names xs a && okM env.scope.names xs b) = true from hok) fun ha hb => ?_
 have C' := C.less (Nat.le_succ n)
 refine Subscript_ (step_ex h (fun o' ho R PR => I.ex a ρ o' ho A env xs s R E ha C' PR) P.perr fun x v s₁ _ h1 D K => ?_)
 refine step_ex h1 (fun o' ho R PR => I.ex b ρ o' ho A env xs s₁ R E hb (C'.keep K) PR) (P.keep K).perr fun y v' s₂ _ h2 D' K' => ?_
 refine o_xa (val?_inv h2) fun d hd q2' => ?_
 subst q2'
 exact sub_sound (D.up K'.up) D' hd fun r h₃ t₃ Dr k => P r _ Dr ((K.trans K').trans (((C.keep K).keep K').all k))
theorem ex_cutTo (I : SoundE S t n) {sp p : Pos} {a b : M} (h : dCutTo (runT t n) ρ a b = some out) : ExOk S (n + 1) (.b (.cutTo sp p) a b) ρ out := by
 intro A env xs s Q E hok C P
 refine b_Lnn (show (okM env.scope.names xs a && okM env.scope.names xs b) = true from hok) fun ha hb => ?_
 have C' := C.less (Nat.le_succ n)
 refine Subscript_ (step_ex h (fun o' ho R PR => I.ex a ρ o' ho A env xs s R E ha C' PR) P.perr fun x v s₁ _ h1 D K => ?_)
 refine wpAny_Slice ?_
 rw [evalPart_none, evalPart_some]
 refine wpAny_pure ?_
 refine step_ex h1 (fun o' ho R PR => I.ex b ρ o' ho A env xs s₁ R E hb (C'.keep K) PR) (P.keep K).perr fun y v' s₂ _ h2 D' K' => ?_
 refine wpAny_pure ?_
 refine o_xa (onTup_inv h2) fun ds q1' h3 => ?_
 subst q1'
 refine o_xa (onInt_inv h3) fun i q1' h4 => ?_
 subst q1'
 refine o_xa (onNat_inv h4) fun k q1' h5 => ?_
 subst q1'
 rcases iteO_inv h5 with ⟨hc, h6⟩ | ⟨_, h6⟩
 ·obtain rfl := si h6
  exact cut_to (D.up K'.up) D' hc fun r h₃ t₃ Dr k => P r _ Dr ((K.trans K').trans (((C.keep K).keep K').all k))
 ·exact nn h6
theorem ex_cutFrom (I : SoundE S t n) {sp p : Pos} {a b : M} (h : dCutFrom (runT t n) ρ a b = some out) : ExOk S (n + 1) (.b (.cutFrom sp p) a b) ρ out := by
 intro A env xs s Q E hok C P
 refine b_Lnn (show (okM env.scope.names xs a && okM env.scope.names xs b) = true from hok) fun ha hb => ?_
 have C' := C.less (Nat.le_succ n)
 refine Subscript_ (step_ex h (fun o' ho R PR => I.ex a ρ o' ho A env xs s R E ha C' PR) P.perr fun x v s₁ _ h1 D K => ?_)
 refine wpAny_Slice ?_
 rw [evalPart_none, evalPart_some]
 refine step_ex h1 (fun o' ho R PR => I.ex b ρ o' ho A env xs s₁ R E hb (C'.keep K) PR) (P.keep K).perr fun y v' s₂ _ h2 D' K' => ?_
 refine wpAny_pure (wpAny_pure ?_)
 refine o_xa (onTup_inv h2) fun ds q1' h3 => ?_
 subst q1'
 refine o_xa (onInt_inv h3) fun i q1' h4 => ?_
 subst q1'
 refine o_xa (onNat_inv h4) fun k q1' h5 => ?_
 subst q1'
 rcases iteO_inv h5 with ⟨hc, h6⟩ | ⟨_, h6⟩
 ·obtain rfl := si h6
  exact cut_from (D.up K'.up) D' hc fun r h₃ t₃ Dr k => P r _ Dr ((K.trans K').trans (((C.keep K).keep K').all k))
 ·exact nn h6
theorem ex_ite (I : SoundE S t n) {p : Pos} {a b c : M} (h : tIte (runT t n) ρ a b c = some out) : ExOk S (n + 1) (.c (.ite p) a b c) ρ out := by
 intro A env xs s Q E hok C P
 refine b_Lnn (show (okM env.scope.names xs a && (okM env.scope.names xs b && okM env.scope.names xs c) && okT a) = true from hok) fun hok' hta => ?_
 refine o_aa (and3 hok') fun ha hb hc => ?_
 have C' := C.less (Nat.le_succ n)
 refine wpAny_IfExp (step_te h (fun o' ho R PR => I.te a ρ o' ho A env xs s R E ha hta C' PR) P.perr fun q s₁ h1 K => ?_)
 induction q with
 | true => exact I.ex b ρ out h1 A env xs s₁ Q E hb (C'.keep K) (P.keep K)
 | false => exact I.ex c ρ out h1 A env xs s₁ Q E hc (C'.keep K) (P.keep K)
theorem datBool {h : Heap} {v : Value} {b : Bool} (D : DatH S.Ω h v (.bool b)) : v = .bool b := by cases D; rfl
theorem notB_inv {b : Bool} (h : notB b = some out) : out = .val (.bool (!b)) := by induction b <;> exact (Option.some.inj h).symm
theorem two_inv {a : M} {k : M → M → Option Out} (h : two a k = some out) : ∃ x y, a = .cons x (.cons y .nil) ∧ k x y = some out := by
 unfold two at h
 split at h
 ·split at h
  ·split at h
   ·exact ⟨_, _, rfl, h⟩
   ·exact nn h
  ·exact nn h
 ·exact nn h
theorem ex_and (I : SoundE S t n) {p : Pos} {a : M} (h : uAnd (runT t n) ρ a = some out) : ExOk S (n + 1) (.u (.bools .And p) a) ρ out := by
 intro A env xs s Q E hok C P
 obtain ⟨ha, -⟩ := ba (show (okM env.scope.names xs a && okTs a) = true from hok)
 refine o_xxa (two_inv h) fun x y q2' h => ?_
 subst q2'
 refine o_aa (and3 (show (okM env.scope.names xs x && (okM env.scope.names xs y && true)) = true from ha)) fun hx hy _ => ?_
 have C' := C.less (Nat.le_succ n)
 refine wpAny_And2 (step_ex h (fun o' ho R PR => I.ex x ρ o' ho A env xs s R E hx C' PR) P.perr fun d v s₁ _ h1 D K => ?_)
 refine o_xa (onBool_inv h1) fun q q1' h2 => ?_
 subst q1'
 cases datBool D
 refine wpAny_truthy_bool ?_
 rcases iteO_inv h2 with ⟨rfl, h3⟩ | ⟨rfl, h3⟩
 ·exact I.ex y ρ out h3 A env xs s₁ Q E hy (C'.keep K) (P.keep K)
 ·obtain rfl := si h3
  exact P _ _ (.bool false) K
theorem ex_or (I : SoundE S t n) {p : Pos} {a : M} (h : uOr (runT t n) ρ a = some out) : ExOk S (n + 1) (.u (.bools .Or p) a) ρ out := by
 intro A env xs s Q E hok C P
 obtain ⟨ha, -⟩ := ba (show (okM env.scope.names xs a && okTs a) = true from hok)
 refine o_xxa (two_inv h) fun x y q2' h => ?_
 subst q2'
 refine o_aa (and3 (show (okM env.scope.names xs x && (okM env.scope.names xs y && true)) = true from ha)) fun hx hy _ => ?_
 have C' := C.less (Nat.le_succ n)
 refine wpAny_Or2 (step_ex h (fun o' ho R PR => I.ex x ρ o' ho A env xs s R E hx C' PR) P.perr fun d v s₁ _ h1 D K => ?_)
 refine o_xa (onBool_inv h1) fun q q1' h2 => ?_
 subst q1'
 cases datBool D
 refine wpAny_truthy_bool ?_
 rcases iteO_inv h2 with ⟨rfl, h3⟩ | ⟨rfl, h3⟩
 ·obtain rfl := si h3
  exact P _ _ (.bool true) K
 ·exact I.ex y ρ out h3 A env xs s₁ Q E hy (C'.keep K) (P.keep K)
end
end
section
open PySem PySem.W PySem.SeqAt Builtin
open PyProof.Rows (Compare_chain isTrue_chain chain_link chain_last test_link test_last)
variable {κ κ' : OG}
section
variable {S : Fixed} {t : Tabs} {n : Nat} {ρ : List Dat} {out : Out}
noncomputable def TestOf (o : Out) (out : Out) : Prop := (∃ b, o = .val (.bool b) ∧ out = .test b) ∨ ∃ c p, o = .err c p ∧ out = .err c p
theorem valT_inv {m : M} (h : valT m (runT t n) ρ = some out) : ∃ o, runT t n (.ex m) ρ = some o ∧ TestOf o out := by
 rcases andO_inv (show (andO (runT t n (.ex m) ρ) fun d => onBool d fun b => some (.test b)) = some out from h) with ⟨d, h1, h2, h3⟩ | ⟨c, p, h1, h2⟩
 ·refine o_xa (onBool_inv h3) fun b q1' h4 => ?_
  subst q1'
  exact ⟨_, h1, .inl ⟨b, rfl, (Option.some.inj h4).symm⟩⟩
 ·exact ⟨_, h1, .inr ⟨c, p, rfl, h2⟩⟩
theorem te_value {m : M} {o : Out} (T : TestOf o out) (I : ExOk S n m ρ o) (he : ∀ env whole, isTrue (toE m) env whole = (do let v ← whole; standAt (toE m).pos; holding [v] (truthy v))) : TeOk S n m ρ out := by
 intro A env xs s Q E hok _ C P
 refine wpAny_isTrue_value (he := he env _) ?_
 rcases T with ⟨b, rfl, rfl⟩ | ⟨c, p, rfl, rfl⟩
 ·refine I A env xs s _ E hok C fun v s₁ D K => ?_
  cases datBool D
  exact wpAny_truthy_bool (P s₁ K)
 ·exact I A env xs s _ E hok C P
theorem te_cmp (I : SoundE S t n) (Hr : OmRef S.Ω) {op : CmpOp} {p : Pos} {a b : M} {o : Out} (T : TestOf o out) (h : dCmp op (runT t n) ρ a b = some o) : TeOk S (n + 1) (.b (.cmp op p) a b) ρ out := by
 intro A env xs s Q E hok _ C P
 refine b_Lnn (show (okM env.scope.names xs a && okM env.scope.names xs b) = true from hok) fun ha hb => ?_
 have C' := C.less (Nat.le_succ n)
 have mk : ∀ {x : Dat} {k : Dat → Option Out}, andO (runT t n (.ex b) ρ) k = some o → behindInMarks op (toE b) = false := fun {x k} hh => by
  induction n using Nat.casesAuxOn with
  | zero => exact nn hh
  | succ n => rcases andO_inv hh with ⟨d, h1, _⟩ | ⟨c, p, h1, _⟩ <;> exact no_marks op (o := none) h1
 have perr : ∀ c q, o = .err c q → ∀ e s', S.X s'.heap e c q → Keep S s.heap s'.heap (og s') → E (.ref e) s' := fun c q e => by
  rcases T with ⟨b, rfl, _⟩ | ⟨c', p', rfl, rfl⟩
  ·injection e
  ·cases e; exact P
 rcases andO_inv h with ⟨x, h0, hx, h1⟩ | ⟨c, q, h0, rfl⟩
 ·refine wpAny_isTrue_Compare1 (I.ex a ρ _ h0 A env xs s _ E ha C' fun v s₁ D K => ?_) (mk (x := x) h1)
  refine step_ex h1 (fun o' ho R PR => I.ex b ρ o' ho A env xs s₁ R E hb (C'.keep K) PR) (fun c q e e' s' x k => perr c q e e' s' x (K.trans k)) fun y v' s₂ _ h2 D' K' => ?_
  refine o_xa (bool?_inv h2) fun d hd q2' => ?_
  subst q2'
  have C2 := (C.keep K).keep K'
  refine cmp_sound Hr (by have := C2.units; lia) (D.up K'.up) D' hd (wpAny_truthy_bool ?_)
  rcases T with ⟨b, h4, rfl⟩ | ⟨c', p', h4, _⟩
  ·cases h4; exact P s₂ (K.trans K')
  ·injection h4
 ·rw [show toE (.b (.cmp op p) a b) = .Compare (toE a) [op] [toE b] p from rfl, arm_isTrue_Compare]
  exact wpAny_bind (I.ex a ρ _ h0 A env xs s _ E ha C' (perr c q rfl))
theorem cmp2_inv {op op' : CmpOp} {a b c : M} (h : tCmp2 op op' (runT t n) ρ a b c = some out) : (andO (runT t n (.ex a) ρ) fun x => andO (runT t n (.ex b) ρ) fun y => @Option.rec Bool (fun _ => Option Out) none
  (fun q => iteO q (andO (runT t n (.ex c) ρ) fun z => bool? (cmpD op' y z)) (some (.val (.bool false)))) (cmpD op x y)) = some out := h
theorem ex_cmp2 (I : SoundE S t n) (Hr : OmRef S.Ω) {op op' : CmpOp} {p : Pos} {a b c : M} (h : tCmp2 op op' (runT t n) ρ a b c = some out) : ExOk S (n + 1) (.c (.cmp2 op op' p) a b c) ρ out := by
 intro A env xs s Q E hok C P
 refine b_Lnn (show (okM env.scope.names xs a && (okM env.scope.names xs b && okM env.scope.names xs c) && notRaw c) = true from hok) fun hok' hr => ?_
 refine o_aa (and3 hok') fun ha hb hc => ?_
 have C' := C.less (Nat.le_succ n)
 refine Compare_chain (hm := no_marks' op' hr) (step_ex (cmp2_inv h) (fun o' ho R PR => I.ex a ρ o' ho A env xs s R E ha C' PR) P.perr fun x v s₁ _ h1 D K => ?_)
 refine chain_link (step_ex h1 (fun o' ho R PR => I.ex b ρ o' ho A env xs s₁ R E hb (C'.keep K) PR) (P.keep K).perr fun y v' s₂ _ h2 D' K' => ?_)
 have C2 := (C.keep K).keep K'
 induction hd : cmpD op x y with
 | none => rw [hd] at h2; exact nn h2
 | some q =>
  rw [hd] at h2
  refine cmp_sound Hr (by have := C2.units; lia) (D.up K'.up) D' hd (wpAny_truthy_bool ?_)
  rcases iteO_inv (show iteO q _ _ = some out from h2) with ⟨rfl, h3⟩ | ⟨rfl, h3⟩
  ·refine chain_last (step_ex h3 (fun o' ho R PR => I.ex c ρ o' ho A env xs s₂ R E hc ((C'.keep K).keep K') PR) ((P.keep K).keep K').perr fun z u s₃ _ h4 D3 K3 => ?_)
   refine o_xa (bool?_inv h4) fun d hd q2' => ?_
   subst q2'
   have C3 := C2.keep K3
   exact cmp_sound Hr (by have := C3.units; omega) (D'.up K3.up) D3 hd (P _ _ (.bool d) ((K.trans K').trans K3))
  ·obtain rfl := si h3
   exact P _ _ (.bool false) (K.trans K')
theorem te_cmp2 (I : SoundE S t n) (Hr : OmRef S.Ω) {op op' : CmpOp} {p : Pos} {a b c : M} {o : Out} (T : TestOf o out) (h : tCmp2 op op' (runT t n) ρ a b c = some o) : TeOk S (n + 1) (.c (.cmp2 op op' p) a b c) ρ out := by
 intro A env xs s Q E hok _ C P
 refine b_Lnn (show (okM env.scope.names xs a && (okM env.scope.names xs b && okM env.scope.names xs c) && notRaw c) = true from hok) fun hok' hr => ?_
 refine o_aa (and3 hok') fun ha hb hc => ?_
 have C' := C.less (Nat.le_succ n)
 have perr : ∀ c q, o = .err c q → ∀ e s', S.X s'.heap e c q → Keep S s.heap s'.heap (og s') → E (.ref e) s' := fun c q e => by
  rcases T with ⟨b, rfl, _⟩ | ⟨c', p', rfl, rfl⟩
  ·injection e
  ·cases e; exact P
 have fin : ∀ d s', o = .val (.bool d) → Keep S s.heap s'.heap (og s') → Q d s' := fun d s' e K => by
  rcases T with ⟨b, h4, rfl⟩ | ⟨c', p', h4, _⟩
  ·rw [h4] at e; cases e; exact P s' K
  ·rw [h4] at e; injection e
 refine isTrue_chain (hm := no_marks' op' hr) (step_ex (cmp2_inv h) (fun o' ho R PR => I.ex a ρ o' ho A env xs s R E ha C' PR) perr fun x v s₁ _ h1 D K => ?_)
 refine test_link (step_ex h1 (fun o' ho R PR => I.ex b ρ o' ho A env xs s₁ R E hb (C'.keep K) PR) (fun c q e e' s' x k => perr c q e e' s' x (K.trans k)) fun y v' s₂ _ h2 D' K' => ?_)
 have C2 := (C.keep K).keep K'
 induction hd : cmpD op x y with
 | none => rw [hd] at h2; exact nn h2
 | some q =>
  rw [hd] at h2
  refine cmp_sound Hr (by have := C2.units; lia) (D.up K'.up) D' hd (wpAny_truthy_bool ?_)
  rcases iteO_inv (show iteO q _ _ = some o from h2) with ⟨rfl, h3⟩ | ⟨rfl, h3⟩
  ·refine test_last (step_ex h3 (fun o' ho R PR => I.ex c ρ o' ho A env xs s₂ R E hc ((C'.keep K).keep K') PR) (fun c q e e' s' x k => perr c q e e' s' x ((K.trans K').trans k)) fun z u s₃ _ h4 D3 K3 => ?_)
   refine o_xa (bool?_inv h4) fun d hd hv => ?_
   have C3 := C2.keep K3
   exact cmp_sound Hr (by have := C3.units; omega) (D'.up K3.up) D3 hd (wpAny_truthy_bool (fin d s₃ hv ((K.trans K').trans K3)))
  ·exact fin false s₂ (Option.some.inj h3).symm (K.trans K')
theorem te_not (I : SoundE S t n) {p : Pos} {a : M} (h : notT a (runT t n) ρ = some out) : TeOk S (n + 1) (.u (.not p) a) ρ out := by
 intro A env xs s Q E hok _ C P
 refine b_Lnn (show (okM env.scope.names xs a && okT a) = true from hok) fun ha hta => ?_
 refine wpAny_isTrue_Not (step_te h (fun o' ho R PR => I.te a ρ o' ho A env xs s R E ha hta (C.less (Nat.le_succ n)) PR) P.perr fun b s₁ h1 K => ?_)
 rcases iteO_inv h1 with ⟨rfl, h2⟩ | ⟨rfl, h2⟩ <;> cases h2 <;> exact P s₁ K
theorem te_all (I : SoundE S t n) {A : Around} {env : Env} {xs : List Str} {Q : Bool → Shared → Prop} {E : Value → Shared → Prop} : ∀ (a : M) (s : Shared), allT a (runT t n) ρ = some out →
  okM env.scope.names xs a = true → okTs a = true → Cond S n A env xs ρ s.heap (og s) → PostT S out s.heap Q E → wpAny S.M A (allTrue .And (toEs a) env) Q E s
 | .nil, s, h, _, _, C, P => by
  obtain rfl := si h
  exact wpAny_allTrue_And_nil (P s C.same)
 | .cons e r, s, h, hok, hts, C, P => by
  refine b_Lnn (show (okM env.scope.names xs e && okM env.scope.names xs r) = true from hok) fun ha hb => ?_
  refine b_Lnn (show (okT e && okTs r) = true from hts) fun ta tb => ?_
  refine wpAny_allTrue_And_cons (step_te (show (andT (runT t n (.test e) ρ) fun q => iteO q (allT r (runT t n) ρ) (some (.test false))) = some out from h)
   (fun o' ho R PR => I.te e ρ o' ho A env xs s R E ha ta C PR) P.perr fun b s₁ h1 K => ?_)
  rcases iteO_inv h1 with ⟨rfl, h2⟩ | ⟨rfl, h2⟩
  ·exact te_all I r s₁ h2 hb tb (C.keep K) (P.keep K)
  ·obtain rfl := si h2; exact P s₁ K
 | .lit _ _ _, _, h, _, _, _, _ => by exact nn h
 | .var _ _ _, _, h, _, _, _, _ => by exact nn h
 | .gl _ _ _, _, h, _, _, _, _ => by exact nn h
 | .u _ _, _, h, _, _, _, _ => by exact nn h
 | .b _ _ _, _, h, _, _, _, _ => by exact nn h
 | .c _ _ _ _, _, h, _, _, _, _ => by exact nn h
 | .raw _, _, h, _, _, _, _ => by exact nn h
 | .rawS _, _, h, _, _, _, _ => by exact nn h
theorem te_any (I : SoundE S t n) {A : Around} {env : Env} {xs : List Str} {Q : Bool → Shared → Prop} {E : Value → Shared → Prop} : ∀ (a : M) (s : Shared), anyT a (runT t n) ρ = some out →
  okM env.scope.names xs a = true → okTs a = true → Cond S n A env xs ρ s.heap (og s) → PostT S out s.heap Q E → wpAny S.M A (allTrue .Or (toEs a) env) Q E s
 | .nil, s, h, _, _, C, P => by
  obtain rfl := si h
  exact wpAny_allTrue_Or_nil (P s C.same)
 | .cons e r, s, h, hok, hts, C, P => by
  refine b_Lnn (show (okM env.scope.names xs e && okM env.scope.names xs r) = true from hok) fun ha hb => ?_
  refine b_Lnn (show (okT e && okTs r) = true from hts) fun ta tb => ?_
  refine wpAny_allTrue_Or_cons (step_te (show (andT (runT t n (.test e) ρ) fun q => iteO q (some (.test true)) (anyT r (runT t n) ρ)) = some out from h)
   (fun o' ho R PR => I.te e ρ o' ho A env xs s R E ha ta C PR) P.perr fun b s₁ h1 K => ?_)
  rcases iteO_inv h1 with ⟨rfl, h2⟩ | ⟨rfl, h2⟩
  ·obtain rfl := si h2; exact P s₁ K
  ·exact te_any I r s₁ h2 hb tb (C.keep K) (P.keep K)
 | .lit _ _ _, _, h, _, _, _, _ => by exact nn h
 | .var _ _ _, _, h, _, _, _, _ => by exact nn h
 | .gl _ _ _, _, h, _, _, _, _ => by exact nn h
 | .u _ _, _, h, _, _, _, _ => by exact nn h
 | .b _ _ _, _, h, _, _, _, _ => by exact nn h
 | .c _ _ _ _, _, h, _, _, _, _ => by exact nn h
 | .raw _, _, h, _, _, _, _ => by exact nn h
 | .rawS _, _, h, _, _, _, _ => by exact nn h
theorem te_cases {P : M → Prop} (nt : ∀ p a, P (.u (.not p) a)) (bo : ∀ op p a, P (.u (.bools op p) a)) (cm : ∀ op p a b, P (.b (.cmp op p) a b)) (c2 : ∀ op op' p a b c, P (.c (.cmp2 op op' p) a b c))
  (it : ∀ p a b c, P (.c (.ite p) a b c)) (rw : ∀ e, P (.raw e)) (gen : ∀ m, testF m = valT m → (∀ env whole, isTrue (toE m) env whole = (do let v ← whole; standAt (toE m).pos; holding [v] (truthy v))) → P m) (m : M) : P m := by
 induction m using M.casesOn with
 | u o a => induction o with
  | not p => exact nt p a
  | bools op p => exact bo op p a
  | _ => exact gen _ rfl fun _ _ => rfl
 | b o a b => induction o with
  | cmp op p => exact cm op p a b
  | _ => exact gen _ rfl fun _ _ => rfl
 | c o a b c => induction o with
  | cmp2 op op' p => exact c2 op op' p a b c
  | ite p => exact it p a b c
  | _ => exact gen _ rfl fun _ _ => rfl
 | raw e => exact rw e
 | _ => exact gen _ rfl fun _ _ => rfl
theorem te_at (I : SoundE S t n) (J : ∀ k, k < n → SoundE S t k) (Hr : OmRef S.Ω) {m : M} (h : runT t (n + 1) (.test m) ρ = some out) : TeOk S (n + 1) m ρ out := by
 induction m using te_cases with
 | nt p a => exact te_not I h
 | bo op p a =>
  intro A env xs s Q E hok _ C P
  refine b_Lnn (show (okM env.scope.names xs a && okTs a) = true from hok) fun ha hta => ?_
  induction op with
  | And => exact wpAny_isTrue_BoolOp (te_all I a s h ha hta (C.less (Nat.le_succ n)) P)
  | Or => exact wpAny_isTrue_BoolOp (te_any I a s h ha hta (C.less (Nat.le_succ n)) P)
 | cm op p a b =>
  refine o_xa (valT_inv (show valT (.b (.cmp op p) a b) (runT t n) ρ = some out from h)) fun o h1 T => ?_
  induction n using Nat.casesAuxOn with
  | zero => exact nn h1
  | succ k =>
   have := te_cmp (p := p) (J k (Nat.lt_succ_self k)) Hr T h1
   exact fun A env xs s Q E hok ht C P => this A env xs s Q E hok ht (C.less (by (simp_all +arith))) P
 | c2 op op' p a b c =>
  refine o_xa (valT_inv (show valT (.c (.cmp2 op op' p) a b c) (runT t n) ρ = some out from h)) fun o h1 T => ?_
  induction n using Nat.casesAuxOn with
  | zero => exact nn h1
  | succ k =>
   have := te_cmp2 (p := p) (J k (Nat.lt_succ_self k)) Hr T h1
   exact fun A env xs s Q E hok ht C P => this A env xs s Q E hok ht (C.less (by omega)) P
 | it p => intro A env xs s Q E _ ht; exact ft ht
 | rw e =>
  refine o_xa (valT_inv (show valT (.raw e) (runT t n) ρ = some out from h)) fun o h1 T => ?_
  induction n using Nat.casesAuxOn <;> exact nn h1
 | gen m e he =>
  refine o_xa (valT_inv (show valT m (runT t n) ρ = some out from e ▸ h)) fun o h1 T => ?_
  have := te_value T (I.ex m ρ o h1) he
  exact fun A env xs s Q E hok ht C P => this A env xs s Q E hok ht (C.less (Nat.le_succ n)) P
end
end
section
set_option backward.match.sparseCases false
open PySem PySem.W PySem.SeqAt
variable {κ κ' : OG}
structure Ent (S : Fixed) (env : Env) (h0 : Heap) (outer : List Env) : Prop where
 st0 : S.B0.StaysIn h0
 fresh : h0.get? env.locals = none
 cellF : ∀ y c, env.kindOf y = some .cell → env.cells.lookup y = some c → h0.get? c = none
 fr0 : h0.FunFrames S.B0 outer
 hf : env.frame = some env.locals
 kind : env.scope.kind = .function
inductive FlowIs (S : Fixed) (h : Heap) : Fl → Flow → Prop
 | next : FlowIs S h .next .next
 | ret {d : Dat} {v : Value} : DatH S.Ω h v d → FlowIs S h (.ret d) (.ret v)
noncomputable def PostF (S : Fixed) (env : Env) (xs : List Str) (h0 : Heap) (outer : List Env) (out : Out) (Q : Flow → Shared → Prop) (E : Value → Shared → Prop) : Prop := match out with
 | .flow ρ f => ∀ fl s', FlowIs S s'.heap f fl → Frm S.Ω env xs ρ s'.heap → Up h0 s'.heap → Stays S s'.heap (og s') → Q fl s'
 | .err c p => ∀ e s', S.X s'.heap e c p → Up h0 s'.heap → Stays S s'.heap (og s') → s'.heap.FunFrames S.B0 (env :: outer) → E (.ref e) s'
 | _ => False
structure At (S : Fixed) (n : Nat) (A : Around) (env : Env) (xs : List Str) (ρ : List Dat) (h0 : Heap) (outer : List Env) (h : Heap) (κ : OG) : Prop where
 cond : Cond S n A env xs ρ h κ
 ent : Ent S env h0 outer
 fr : A.frames = some (env :: outer)
 up : Up h0 h
 nd : xs.Nodup
section
variable {S : Fixed} {n : Nat} {A : Around} {env : Env} {xs : List Str} {ρ ρ' : List Dat} {h0 h h' : Heap} {outer : List Env}
theorem base_fresh (N : Ent S env h0 outer) : S.B0.get? env.locals = none := by
 induction e : S.B0.get? env.locals with
 | none => rfl
 | some o => have := N.st0 _ _ e; rw [N.fresh] at this; exact nn this
theorem own_up (N : Ent S env h0 outer) (u : Up h0 h) (o : Own env h h') : Up h0 h' := by
 have key : ∀ b ob ob', h0.get? b = some ob → h.get? b = some ob' → h'.get? b = some ob' := fun b ob ob' hb hs => o b ob' hs (fun q => by rw [q, N.fresh] at hb; exact nn hb) fun y hy q => by rw [N.cellF y b hy q] at hb; exact nn hb
 refine ⟨fun b ob hb hn => ?_, fun b ob hb hi => key b ob ob hb (u.iters b ob hb hi)⟩
 obtain ⟨sl, hs⟩ := u.slots b ob hb hn
 exact ⟨sl, key b ob _ hb hs⟩
theorem own_lam (F : Frm S.Ω env xs ρ h) (o : Own env h h') : ∀ b ob, h.get? b = some ob → LamLike ob → h'.get? b = some ob := fun b ob hb ⟨vs, hd, _⟩ => by
 refine o b ob hb (fun q => ?_) fun y _ q => ?_
 ·obtain ⟨⟨m, ⟨o', es, ep, ho', hd', _⟩, _⟩, _⟩ := F
  rw [← q, hb] at ho'
  obtain rfl := si ho'
  rw [hd] at hd'
  injection hd'
 ·refine o_xxa (F.cells y b q) fun v o' ho' hd' => ?_
  rw [hb] at ho'
  obtain rfl := si ho'
  rw [hd] at hd'
  injection hd'
theorem own_stays (N : Ent S env h0 outer) (F : Frm S.Ω env xs ρ h) (st : Stays S h κ) (o : Own env h h') : Stays S h' κ := st.of (fun b ob hb =>
 o b ob (st.base b ob hb) (fun q => by rw [q, base_fresh N] at hb; exact nn hb) fun y hy q => by
  have := N.st0 b ob hb
  rw [N.cellF y b hy q] at this
  exact nn this) (own_lam F o)
theorem frames_of (N : Ent S env h0 outer) (F : Frm S.Ω env xs ρ h) (u : Up h0 h) : h.FunFrames S.B0 (env :: outer) := by
 refine via fun Gv kv => ?_
 obtain ⟨⟨m, hn, _⟩, -, -, -⟩ := F
 refine kv ?_
 clear kv Gv
 exact Heap.FunFrames.cons (by rw [N.kind]; intro q; injection q) N.hf hn (base_fresh N) (frames_up u N.fr0)
theorem At.next (T : At S n A env xs ρ h0 outer h κ) (F : Frm S.Ω env xs ρ' h') (u : Up h0 h') (st : Stays S h' κ') : At S n A env xs ρ' h0 outer h' κ' :=
 ⟨⟨T.cond.room, T.cond.units, T.cond.handled, ⟨_, T.fr, frames_of T.ent F u⟩, st, F, T.cond.kind, T.cond.glob, T.cond.blt, T.cond.lamc⟩, T.ent, T.fr, u, T.nd⟩
theorem At.keep (T : At S n A env xs ρ h0 outer h κ) (k : Keep S h h' κ') : At S n A env xs ρ h0 outer h' κ' := ⟨T.cond.keep k, T.ent, T.fr, T.up.trans k.up, T.nd⟩
theorem At.less {m : Nat} (T : At S n A env xs ρ h0 outer h κ) (k : m ≤ n) : At S m A env xs ρ h0 outer h κ := ⟨T.cond.less k, T.ent, T.fr, T.up, T.nd⟩
theorem At.frames (T : At S n A env xs ρ h0 outer h κ) : h.FunFrames S.B0 (env :: outer) := frames_of T.ent T.cond.frm T.up
theorem PostF.perr {out : Out} {Q : Flow → Shared → Prop} {E : Value → Shared → Prop} (T : At S n A env xs ρ h0 outer h κ) (P : PostF S env xs h0 outer out Q E) :
  ∀ c p, out = .err c p → ∀ e s', S.X s'.heap e c p → Keep S h s'.heap (og s') → E (.ref e) s' := fun c p q e s' x k => by
 subst q
 exact P e s' x (T.up.trans k.up) k.stays (T.keep k).frames
end
/-! texts of statements -/
noncomputable def okUse (sc : Sc) (x : Str) (xp : Pos) : M → Bool
 | .u o _ => match o with
  | .crng _ _ sc' _ _ _ _ _ p => (sc.lookup x == some .local) && Nat.beq xp.line p.line && !(sc'.names.any fun q => q.1 == x && (q.2 == .local || q.2 == .cell))
  | _ => false
 | .b o _ _ => match o with
  | .comp _ sc' _ p => (sc.lookup x == some .local) && Nat.beq xp.line p.line && !(sc'.names.any fun q => q.1 == x && (q.2 == .local || q.2 == .cell))
  | _ => false
 | .c o _ _ _ => match o with
  | .compIf _ sc' _ p => (sc.lookup x == some .local) && Nat.beq xp.line p.line && !(sc'.names.any fun q => q.1 == x && (q.2 == .local || q.2 == .cell))
  | _ => false
 | _ => false
noncomputable def noComp : M → Bool
 | .u o _ => match o with
  | .crng _ _ _ _ _ _ _ _ _ => false
  | _ => true
 | .b o _ _ => match o with
  | .comp _ _ _ _ => false
  | _ => true
 | .c o _ _ _ => match o with
  | .compIf _ _ _ _ => false
  | _ => true
 | .raw _ => false
 | _ => true
noncomputable def isNil : M → Bool
 | .nil => true
 | _ => false
set_option backward.match.sparseCases true in
noncomputable def isStar : Expr → Bool
 | .Starred .. => true
 | _ => false
set_option backward.match.sparseCases true in
noncomputable def localsAt (sc : Sc) (line : Nat) (ts : List Expr) : List Str := ts.filterMap fun
 | .Name nm pos => if sc.lookup nm == some .local && pos.line == line then some nm else none
 | _ => none
noncomputable def swapOk (sc : Sc) (ts vs : List Expr) (names : List Str) : Bool :=
 (ts.length == 2 || ts.length == 3) && vs.length == ts.length && !(vs.any isStar) && (localsAt sc ((ts.head?.map (·.pos.line)).getD 0) ts == names) && names.length == ts.length &&
  names.eraseDups.length == names.length && !(vs.all (foldedForSure 8)) && !(vs.all (constantsAlone 8))
noncomputable def plainOk (sc : Sc) (ts vs : List Expr) : Bool := !((localsAt sc ((ts.head?.map (·.pos.line)).getD 0) ts).length == ts.length) && !(vs.any isStar)
noncomputable def okSlot (sc : Sc) (xs : List Str) (p : Nat × Str) : Bool := at? xs p.1 p.2 && isLocal (sc.lookup p.2) && !(sc.lookup p.2 == some .free)
noncomputable def varsOf : M → List (Nat × Str)
 | .cons v r => match v with
  | .var i x _ => (i, x) :: varsOf r
  | _ => []
 | _ => []
noncomputable def okUnp (sc : Sc) (xs : List Str) (a b : M) : Bool := (varsOf a).all (okSlot sc xs) && okM sc xs b && noComp b && decide ((varsOf a).map (·.1)).Nodup && match toE b with
 | .Tuple vs _ _ => swapOk sc (toEs a) vs ((varsOf a).map (·.2)) || plainOk sc (toEs a) vs
 | _ => true
noncomputable def okSt (sc : Sc) (xs : List Str) : M → Bool
 | .nil => true
 | .cons s r => okSt sc xs s && okSt sc xs r
 | .u o a => match o with
  | .asg i x xp _ => at? xs i x && isLocal (sc.lookup x) && !(sc.lookup x == some .free) && (noComp a || okUse sc x xp a) && okM sc xs a
  | .ret _ => okM sc xs a
  | .exs _ => okM sc xs a && noComp a
  | .rais _ _ _ _ _ => okM sc xs a && okU sc o a
  | _ => false
 | .b o a b => match o with
  | .unp _ _ _ => okUnp sc xs a b
  | .rng i x n _ _ _ _ _ _ => okSlot sc xs (i, x) && okGlob sc (Str.ofString "range") && okSt sc xs a && Nat.ble n 4095
  | .lapp i x _ _ _ _ tp cp _ => at? xs i x && (sc.lookup x == some .local) && plainName x && okM sc xs a && Nat.ble (lenM a) 64 && okM sc xs b && notRaw b && Nat.beq tp.endLine cp.line
  | _ => false
 | .c o a b c => match o with
  | .ifs _ => okM sc xs a && okT a && okSt sc xs b && okSt sc xs c
  | .for_ i x _ _ => okSlot sc xs (i, x) && okM sc xs a && okSt sc xs b && notRaw a && isNil c
  | .lets i x _ _ _ _ _ _ _ => match c with
   | .cons u v => match v with
    | .cons k w => okDisp a b && okM sc xs b && okM sc xs u && okM sc xs k && okSt sc xs w && at? xs i x && (sc.lookup x == some .local) && plainName x
    | _ => false
   | _ => false
  | _ => false
 | _ => true
section
variable (S : Fixed) (t : Tabs)
noncomputable def StOk (n : Nat) (l : List Stmt) (ok : Sc → List Str → Bool) (ρ : List Dat) (out : Out) : Prop := ∀ (A : Around) (env : Env) (xs : List Str) (s : Shared) (h0 : Heap) (outer : List Env) (Q : Flow → Shared → Prop) (E : Value → Shared → Prop),
 ok env.scope.names xs = true → At S n A env xs ρ h0 outer s.heap (og s) → PostF S env xs h0 outer out Q E → wpAny S.M A (execs l env) Q E s
structure SoundS (n : Nat) : Prop where
 st : ∀ m ρ out, runT t n (.st m) ρ = some out → StOk S n (toS m) (fun sc xs => okSt sc xs m) ρ out
 sts : ∀ m ρ out, runT t n (.sts m) ρ = some out → StOk S n (toSs m) (fun sc xs => okSt sc xs m) ρ out
end
theorem execs_append_eq (l r : List Stmt) (env : Env) : execs (l ++ r) env = (do match ← execs l env with | .next => execs r env | f => pure f) := by
 induction l with
 | nil => rw [List.nil_append, execs_nil, pure_bind]
 | cons x l ih =>
  rw [List.cons_append, execs_cons, execs_cons, bind_assoc]
  congr 1
  funext f
  induction f with
  | next => exact ih
  | _ => simp only [pure_bind]
theorem execs_append (l r : List Stmt) (env : Env) {M : Model} {A : Around} {E : Value → Shared → Prop} {s : Shared} {Q : Flow → Shared → Prop}
  (h : wpAny M A (execs l env) (fun f s' => match f with | .next => wpAny M A (execs r env) Q E s' | f => Q f s') E s) : wpAny M A (execs (l ++ r) env) Q E s := by
 rw [execs_append_eq]
 refine wpAny_bind (wpAny_mono h (fun f s' hf => ?_) fun _ _ e => e)
 induction f <;> first | exact hf | exact wpAny_pure hf
section
variable {S : Fixed} {t : Tabs} {n : Nat} {ρ : List Dat} {out : Out}
theorem swaps_no {m : M} (h : noComp m = true) (tg : Option Expr) (line : Nat) (env : Env) : swapsWith (toE m) tg line env = pure false := by
 induction m using M.casesOn with
 | raw e => exact ft h
 | u o a => induction o <;> first | rfl | exact ft h
 | b o a b => induction o <;> first | rfl | exact ft h
 | c o a b c => induction o <;> first | rfl | exact ft h
 | _ => rfl
theorem one_stmt {x : Stmt} {env : Env} {M : Model} {A : Around} {E : Value → Shared → Prop} {s : Shared} {Q : Flow → Shared → Prop} (h : wpAny M A (exec x env) Q E s) : wpAny M A (execs [x] env) Q E s :=
 wpAny_execs_cons (wpAny_mono h (fun f s' hf => by induction f <;> first | exact wpAny_execs_nil hf | exact hf) fun _ _ e => e)
theorem st_asg (I : SoundE S t n) {i : Nat} {x : Str} {xp p : Pos} {a : M} (hnc : noComp a = true) (h : sAsg i (runT t n) ρ a = some out) : StOk S (n + 1) (toS (.u (.asg i x xp p) a)) (fun sc xs => okSt sc xs (.u (.asg i x xp p) a)) ρ out := by
 intro A env xs s h0 outer Q E hok T P
 have hok' : (at? xs i x && isLocal (env.scope.names.lookup x) && !(env.scope.names.lookup x == some .free) && (noComp a || okUse env.scope.names x xp a) && okM env.scope.names xs a) = true := hok
 simp only [Bool.and_eq_true, Bool.not_eq_true', beq_eq_false_iff_ne] at hok'
 refine via fun Gv kv => ?_
 obtain ⟨⟨⟨⟨h1, h2⟩, h3⟩, h4⟩, h5⟩ := hok'
 refine kv ?_
 clear kv Gv
 have T' := T.less (Nat.le_succ n)
 refine one_stmt (wpAny_Assign_Name (hs := swaps_no hnc _ _ _) (step_ex h (fun o' ho R PR => I.ex a ρ o' ho A env xs s R E h5 T'.cond PR) (PostF.perr T P) fun d v s₁ _ hk D K => ?_))
 rw [forceL_eq] at hk
 obtain rfl := si hk
 have T1 := T.keep K
 have hl : env.kindOf x = some .local ∨ env.kindOf x = some .cell := by
  rcases isLocal_eq h2 with q | q | q
  ·exact .inl q
  ·exact .inr q
  ·exact absurd q h3
 exact wp_store T1.cond.frm T.nd (at?_eq h1) T.cond.kind hl D fun h₂ t₂ F O => P _ _ .next F (own_up T.ent T1.up O) (own_stays T.ent T1.cond.frm T1.cond.stays O)
theorem st_ret (I : SoundE S t n) {p : Pos} {a : M} (h : sRet (runT t n) ρ a = some out) : StOk S (n + 1) (toS (.u (.ret p) a)) (fun sc xs => okSt sc xs (.u (.ret p) a)) ρ out := by
 intro A env xs s h0 outer Q E hok T P
 have T' := T.less (Nat.le_succ n)
 refine one_stmt (wpAny_Return_some (step_ex h (fun o' ho R PR => I.ex a ρ o' ho A env xs s R E hok T'.cond PR) (PostF.perr T P) fun d v s₁ _ hk D K => ?_))
 obtain rfl := si hk
 have T1 := T.keep K
 exact P _ s₁ (.ret D) T1.cond.frm T1.up T1.cond.stays
theorem onNone_inv {d : Dat} {o : Option Out} {out : Out} (h : onNone d o = some out) : d = .none ∧ o = some out := by
 induction d using Dat.casesOn <;> first | exact ⟨rfl, h⟩ | exact nn h
theorem st_exs (I : SoundE S t n) {p : Pos} {a : M} (h : sExs (runT t n) ρ a = some out) : StOk S (n + 1) (toS (.u (.exs p) a)) (fun sc xs => okSt sc xs (.u (.exs p) a)) ρ out := by
 intro A env xs s h0 outer Q E hok T P
 refine b_Lnn (show (okM env.scope.names xs a && noComp a) = true from hok) fun h5 h4 => ?_
 have T' := T.less (Nat.le_succ n)
 refine one_stmt (wpAny_Expr (hi := by unfold interactive; rw [T.cond.kind]; rfl) (hs := swaps_no h4 _ _ _) (step_ex h (fun o' ho R PR => I.ex a ρ o' ho A env xs s R E h5 T'.cond PR) (PostF.perr T P) fun d v s₁ _ hk D K => ?_))
 obtain ⟨rfl, h6⟩ := onNone_inv hk
 cases h6
 cases D
 have T1 := T.keep K
 exact P _ s₁ .next T1.cond.frm T1.up T1.cond.stays
theorem st_ifs (I : SoundE S t n) (J : SoundS S t n) {p : Pos} {a b c : M} (h : sIfs (runT t n) ρ a b c = some out) : StOk S (n + 1) (toS (.c (.ifs p) a b c)) (fun sc xs => okSt sc xs (.c (.ifs p) a b c)) ρ out := by
 intro A env xs s h0 outer Q E hok T P
 have hok' : (okM env.scope.names xs a && okT a && okSt env.scope.names xs b && okSt env.scope.names xs c) = true := hok
 refine b_LLLnnnn hok' fun h1 h2 h3 h4 => ?_
 clear hok'
 have T' := T.less (Nat.le_succ n)
 refine one_stmt (wpAny_If (step_te h (fun o' ho R PR => I.te a ρ o' ho A env xs s R E h1 h2 T'.cond PR) (PostF.perr T P) fun q s₁ hk K => ?_))
 induction q with
 | true => exact J.sts b ρ out hk A env xs s₁ h0 outer Q E h3 (T'.keep K) P
 | false => exact J.sts c ρ out hk A env xs s₁ h0 outer Q E h4 (T'.keep K) P
theorem flowK_inv {o : Option Out} {k : List Dat → Fl → Option Out} {out : Out} (h : flowK o k = some out) : (∃ ρ f, o = some (.flow ρ f) ∧ k ρ f = some out) ∨ ∃ c p, o = some (.err c p) ∧ out = .err c p := by
 induction o with
 | none => exact nn h
 | some o => induction o with
  | flow ρ f => exact .inl ⟨ρ, f, rfl, h⟩
  | err c p => exact .inr ⟨c, p, rfl, (Option.some.inj h).symm⟩
  | val ds => exact nn h
  | test b => exact nn h
  | vals f => exact nn h
theorem sts_all (J : SoundS S t n) {m : M} (h : runT t (n + 1) (.sts m) ρ = some out) : StOk S (n + 1) (toSs m) (fun sc xs => okSt sc xs m) ρ out := by
 intro A env xs s h0 outer Q E hok T P
 have T' := T.less (Nat.le_succ n)
 induction m using M.casesOn with
 | nil =>
  obtain rfl := si h
  exact wpAny_execs_nil (P _ s .next T.cond.frm T.up T.cond.stays)
 | cons e r =>
  refine b_Lnn (show (okSt env.scope.names xs e && okSt env.scope.names xs r) = true from hok) fun ha hb => ?_
  show wpAny S.M A (execs (toS e ++ toSs r) env) Q E s
  refine execs_append _ _ _ ?_
  rcases flowK_inv (show (flowK (runT t n (.st e) ρ) fun ρ' f => onFl f (runT t n (.sts r) ρ') fun d => some (.flow ρ' (.ret d))) = some out from h) with ⟨ρ', f, h1, h2⟩ | ⟨c, p, h1, rfl⟩
  ·refine J.st e ρ _ h1 A env xs s h0 outer _ E ha T' fun fl s₁ F1 F2 U1 S1 => ?_
   induction F1 using FlowIs.casesOn with
   | next => exact J.sts r ρ' out h2 A env xs s₁ h0 outer Q E hb (T'.next F2 U1 S1) P
   | ret D =>
    obtain rfl := si h2
    exact P _ s₁ (.ret D) F2 U1 S1
  ·exact J.st e ρ _ h1 A env xs s h0 outer _ E ha T' P
 | _ => exact nn h
end
end
section
open PySem PySem.W PySem.SeqAt Builtin
variable {κ κ' : OG}
theorem lookup_nodup : ∀ (l : List (Str × Value)) (x : Str) (v : Value), (l.map (·.1)).Nodup → (x, v) ∈ l → l.lookup x = some v
 | [], _, _, _, h => by cases h
 | (y, u) :: l, x, v, nd, h => by
  rw [List.map_cons, List.nodup_cons] at nd
  rw [List.lookup_cons]
  by_cases hxy : x = y
  ·subst hxy
   rcases List.mem_cons.mp h with e | e
   ·cases e; simp
   ·exact absurd (List.mem_map_of_mem (f := (·.1)) e) nd.1
  ·have hb : (x == y) = false := beq_eq_false_iff_ne.mpr hxy
   rw [hb]
   rcases List.mem_cons.mp h with e | e
   ·cases e; exact absurd rfl hxy
   ·exact lookup_nodup l x v nd.2 e
theorem lookup_zip {ps : List Str} {vs : List Value} (nd : ps.Nodup) (hl : vs.length = ps.length) {i : Nat} {x : Str} {v : Value} (hx : ps[i]? = some x) (hv : vs[i]? = some v) : (ps.zip vs).reverse.lookup x = some v := by
 have hmap : (ps.zip vs).map (·.1) = ps := List.map_fst_zip (by (simp_all +arith))
 refine lookup_nodup _ _ _ ?_ ?_
 ·rw [List.map_reverse, hmap]; exact List.pairwise_reverse.mpr (List.Pairwise.imp (fun h => Ne.symm h) nd)
 ·rw [List.mem_reverse]
  refine List.mem_of_getElem? (i := i) ?_
  rw [List.getElem?_zip_eq_some]
  exact ⟨hx, hv⟩
theorem frm_call {Ω : Nat → Value} {env : Env} {xs : List Str} {ρ : List Dat} {h : Heap} {np : Nat} {vs : List Value} (hn : h.Ns env.locals (fun x => ((xs.take np).zip vs).reverse.lookup x))
  (D : DatsH Ω h vs (ρ.take np)) (hl : vs.length = (xs.take np).length) (nd : xs.Nodup) (hole : ∀ i d, np ≤ i → ρ[i]? = some d → d = .hole)
  (hc : env.cells = []) (no : ∀ x, env.kindOf x ≠ some .cell ∧ env.kindOf x ≠ some .free) (hln : ρ.length = xs.length) : Frm Ω env xs ρ h := by
 refine ⟨⟨_, hn, fun i x d hx hd => ?_⟩, fun x c e => ?_, fun x e => absurd e (no x).1, fun x y c e => ?_, hln⟩
 ·by_cases hi : i < np
  ·have hd' : (ρ.take np)[i]? = some d := by rw [List.getElem?_take]; simp [hi, hd]
   have hx' : (xs.take np)[i]? = some x := by rw [List.getElem?_take]; simp [hi, hx]
   refine o_xa (D.get hd') fun v hv Dv => ?_
   refine .inr ⟨fun _ => ⟨v, lookup_zip (nd.sublist (List.take_sublist _ _)) hl hx' hv, Dv⟩, fun e => ?_⟩
   rcases e with e | e
   ·exact absurd e (no x).1
   ·exact absurd e (no x).2
  ·exact .inl (hole i d (by (simp +arith at *; assumption)) hd)
 ·rw [hc] at e; exact nn e
 ·rw [hc] at e; exact nn e
noncomputable def Leaves (S : Fixed) : Prop := ∀ (A : Around) (env : Env) (outer : List Env) (e : Addr) (c : Nat) (p : Dat) (s : Shared) (Q : Unit → Shared → Prop) (E : Value → Shared → Prop),
 A.frames = some (env :: outer) → s.heap.FunFrames S.B0 (env :: outer) → env.frame = some env.locals → S.X s.heap e c p → Stays S s.heap (og s) →
  (∀ h', S.X h' e c p → Up s.heap h' → Stays S h' (og s) → Q () { s with heap := h' }) → wpAny S.M A (leaving env (.ref e)) Q E s
structure FnOk (S : Fixed) (f : Fn) (fd : FuncData) : Prop where
 body : fd.body = .stmts (toSs f.body)
 ok : okSt fd.scope.names f.slots f.body = true
 nd : f.slots.Nodup
 kind : fd.scope.kind = .function
 co : fd.scope.isCoroutine = false
 gen : fd.scope.isGenerator = false
 no : ∀ x ∈ fd.scope.names, x.2 ≠ .cell ∧ x.2 ≠ .free
 code : S.B0.CodeRec fd.code fd.qualname
 glob : fd.globals = mainGlobals
 blt : fd.builtins = builtinsNs
 clo : fd.closure = []
 lamc : ∀ l ∈ S.lams, l.sc = fd.scope.names → ∃ c, fd.code = .ref c ∧ CodeHd S.B0 c l.P ∧ l.qual = fd.qualname ++ ".<locals>." ++ "<lambda>"
 loc : ∀ x ∈ f.slots.take f.np, fd.scope.names.lookup x = some .local
 np : f.np ≤ f.slots.length
 bind : ∀ (s : Shared) (vs : List Value) (ds ρ : List Dat), S.B0.StaysIn s.heap → DatsH S.Ω s.heap vs ds → bindD f ds = some ρ →
  ∃ vs', BindsTo s fd ⟨vs, []⟩ ((f.slots.take f.np).zip vs') ∧ DatsH S.Ω s.heap vs' (ρ.take f.np) ∧ vs'.length = f.np ∧ (∀ i d, f.np ≤ i → ρ[i]? = some d → d = .hole) ∧ ρ.length = f.slots.length
structure CondC (S : Fixed) (n : Nat) (A : Around) (h : Heap) (κ : OG) : Prop where
 room : A.depth + 3 * n + 10 < recursionLimit
 units : A.units + 24 * n + 100 < cLine
 handled : A.handled = none
 frames : ∃ l, A.frames = some l ∧ h.FunFrames S.B0 l
 stays : Stays S h κ
noncomputable def CallOk (S : Fixed) (n : Nat) (fa : Addr) (ds : List Dat) (out : Out) : Prop := ∀ (A : Around) (s : Shared) (vs : List Value) (Q E : Value → Shared → Prop),
 DatsH S.Ω s.heap vs ds → CondC S n A s.heap (og s) → PostE S out s.heap Q E → codeAny S.M A (.call (.ref fa) ⟨vs, []⟩) (fun r s' => match r with | .ok (.ret v) => Q v s' | .ok _ => False | .error e => E e s') s
theorem lookup_mem {l : Sc} {x : Str} {k : NameKind} (h : l.lookup x = some k) : (x, k) ∈ l := by
 induction l with
 | nil => exact nn h
 | cons y l ih =>
  obtain ⟨z, q⟩ := y
  rw [List.lookup_cons] at h
  induction hb : x == z with
  | true => rw [hb] at h; obtain rfl := si h; rw [eq_of_beq hb]; exact .head _
  | false => rw [hb] at h; exact .tail _ (ih h)
section
variable {S : Fixed} {t : Tabs} {n : Nat} {out : Out}
theorem call_plain (J : SoundS S t n) (L : Leaves S) (hlim : S.B0.NoLimit) {f : Fn} {fa : Addr} {o : Obj} {fd : FuncData} {ds : List Dat} (ho : S.B0.get? fa = some o) (hd : o.data = .func fd) (F : FnOk S f fd)
  (h : fnR (runT t n) f ds = some out) : CallOk S (n + 1) fa ds out := by
 intro A s vs Q E D C P
 induction hb : bindD f ds with
 | none => unfold fnR at h; rw [hb] at h; exact nn h
 | some ρ =>
  have h' : (flowK (runT t n (.sts f.body) ρ) fun _ fl => onFl fl (some (.val .none)) fun d => some (.val d)) = some out := by unfold fnR at h; rw [hb] at h; exact h
  refine o_xaaaa (F.bind s vs ds ρ C.stays.base D hb) fun vs' hbind D' hlen hole hln => ?_
  have hno : ∀ x, (callEnv fd s.heap.objs.size fa).kindOf x ≠ some .cell ∧ (callEnv fd s.heap.objs.size fa).kindOf x ≠ some .free := fun x =>
   ⟨fun e => (F.no _ (lookup_mem e)).1 rfl, fun e => (F.no _ (lookup_mem e)).2 rfl⟩
  refine o_xa C.frames fun l hfr hff => ?_
  have room := C.room
  have units := C.units
  refine codeAny_call_def (by lia) (C.stays.base _ _ ho) hd (hlim.keeps C.stays.base) (F.code.keeps C.stays.base) F.body hbind (fun x hx => (F.no x hx).1) (fun x hx => F.loc x.1 (List.of_mem_zip hx).1)
   (fun h₀ hns hall => ?_) F.co F.gen F.kind
  have st0 : Stays S h₀ (og s) := C.stays.all hall
  have up0 : Up s.heap h₀ := Up.of_all hall
  have frm : Frm S.Ω (callEnv fd s.heap.objs.size fa) f.slots ρ h₀ := frm_call hns (D'.up up0) (by rw [List.length_take, hlen]; exact (Nat.min_eq_left F.np).symm) F.nd hole F.clo hno hln
  have ent : Ent S (callEnv fd s.heap.objs.size fa) s.heap l := ⟨C.stays.base, Heap.get?_none_of_le (Nat.le_refl _), fun y c e => absurd e (hno y).1, hff, rfl, F.kind⟩
  have T : At S n (A.deeper (callEnv fd s.heap.objs.size fa)) (callEnv fd s.heap.objs.size fa) f.slots ρ s.heap l h₀ (og s) :=
   ⟨⟨by show A.depth + 1 + 3 * n + 10 < recursionLimit; lia, by show A.units + 3 + 24 * n + 100 < cLine; lia, C.handled, ⟨_, by show A.frames.map _ = _; rw [hfr]; rfl, frames_of ent frm up0⟩, st0, frm, F.kind, F.glob, F.blt, F.lamc⟩,
    ent, by show A.frames.map _ = _; rw [hfr]; rfl, up0, F.nd⟩
  have fin : ∀ (out' : Out), runT t n (.sts f.body) ρ = some out' → (∀ ρ' fl, out' = .flow ρ' fl → out = .val (match fl with | .ret d => d | .next => .none)) → (∀ c p, out' = .err c p → out = .err c p) →
    wpAny S.M (A.deeper (callEnv fd s.heap.objs.size fa)) (execs (toSs f.body) (callEnv fd s.heap.objs.size fa)) (fun fl s' => Q (match fl with | .ret v => v | _ => .none) s')
     (fun e s' => wpAny S.M (A.deeper (callEnv fd s.heap.objs.size fa)) (leaving (callEnv fd s.heap.objs.size fa) e) (fun _ s'' => E e s'') (fun e' s'' => E e' s'') s') { s with heap := h₀, toks := s.toks + ((f.slots.take f.np).zip vs').length } := by
   intro out' h1 hv he
   refine J.sts f.body ρ out' h1 _ _ f.slots _ s.heap l _ _ F.ok T ?_
   induction out' with
   | flow ρ' fl =>
    intro g s₁ F1 F2 U1 S1
    have e := hv ρ' fl rfl
    induction F1 using FlowIs.casesOn with
    | next => subst e; exact P _ s₁ .none ⟨U1, S1⟩
    | ret Dv => subst e; exact P _ s₁ Dv ⟨U1, S1⟩
   | err c p =>
    intro e s₁ x U1 S1 FF
    have e' := he c p rfl
    subst e'
    exact L _ _ l e c p s₁ _ _ (by show A.frames.map _ = _; rw [hfr]; rfl) FF rfl x S1 fun h' x' u' st' => P e _ x' ⟨U1.trans u', st'⟩
   | _ => exfalso; induction h1b : runT t n (.sts f.body) ρ <;> rw [h1] at h1b <;> injection h1b; rw [h1] at h'; injection h'
  rcases flowK_inv h' with ⟨ρ', fl, h1, h2⟩ | ⟨c, p, h1, rfl⟩
  ·refine fin _ h1 (fun ρ'' fl' e => ?_) (fun c p e => by injection e)
   cases e
   induction fl <;> cases h2 <;> rfl
  ·exact fin _ h1 (fun ρ'' fl' e => by cases e) fun c' p' e => by cases e; rfl
end
end
section
open PySem PySem.W PySem.SeqAt Builtin
variable {κ κ' : OG}
structure Globs (S : Fixed) (t : Tabs) (fa : Nat → Addr) (mg mb : Str → Option Value) : Prop where
 g : S.B0.Ns mainGlobals mg
 b : S.B0.Ns builtinsNs mb
 lim : S.B0.NoLimit
 fn : ∀ k x, cx0.fns[k]? = some x → mg x = some (.ref (fa k)) ∧ ∃ o fd, S.B0.get? (fa k) = some o ∧ o.data = .func fd
 cst : ∀ i x, cx0.consts[i]? = some x → ∃ v, mg x = some v ∧ DatH S.Ω S.B0 v (t.consts i)
noncomputable def CallsOk (S : Fixed) (t : Tabs) (fa : Nat → Addr) (n : Nat) : Prop := ∀ k ds ρ out, k < cx0.fns.length → runT t n (.call k ds) ρ = some out → CallOk S n (fa k) ds out
section
variable {S : Fixed} {t : Tabs} {n : Nat} {ρ : List Dat} {out : Out} {fa : Nat → Addr} {mg mb : Str → Option Value}
theorem okGlob_eq {sc : Sc} {x : Str} (h : okGlob sc x = true) : sc.lookup x = some .globalImplicit ∧ (x == ("__debug__" : Str)) = false := by
 refine b_Lnn (show (isGlobal (sc.lookup x) && plainName x) = true from h) fun a b => ?_
 exact ⟨isGlobal_eq a, (plainName_eq b).1⟩
theorem name_top {A : Around} {env : Env} {xs : List Str} {s : Shared} {E : Value → Shared → Prop} {Q : Value → Shared → Prop} {x : Str} {p : Pos} {v : Value} (G : Globs S t fa mg mb) (C : Cond S n A env xs ρ s.heap (og s))
  (ok : okGlob env.scope.names x = true) (e : mg x = some v) (h : Q v s) : wpAny S.M A (eval (.Name x p) env) Q E s := by
 obtain ⟨h1, h2⟩ := okGlob_eq ok
 exact Calls.Name_function_global C.kind h1 (Calls.loadGlobal_global (by rw [C.glob]; exact G.g.keeps C.stays.base) e h) h2
theorem name_builtin {A : Around} {env : Env} {xs : List Str} {s : Shared} {E : Value → Shared → Prop} {Q : Value → Shared → Prop} {x : Str} {p : Pos} {v : Value} (G : Globs S t fa mg mb) (C : Cond S n A env xs ρ s.heap (og s))
  (ok : okGlob env.scope.names x = true) (e : mg x = none) (e' : mb x = some v) (h : Q v s) : wpAny S.M A (eval (.Name x p) env) Q E s := by
 obtain ⟨h1, h2⟩ := okGlob_eq ok
 exact Calls.Name_function_global C.kind h1 (Calls.loadGlobal_builtin (by rw [C.glob]; exact G.g.keeps C.stays.base) e (by rw [C.blt]; exact G.b.keeps C.stays.base) e' h) h2
theorem ex_gl (G : Globs S t fa mg mb) {i : Nat} {x : Str} {p : Pos} (h : defd (t.consts i) = some out) : ExOk S (n + 1) (.gl i x p) ρ out := by
 intro A env xs s Q E hok C P
 refine via fun Gv kv => ?_
 refine b_Lnn (show (okGlob env.scope.names x && at? cx0.consts i x) = true from hok) fun h1 h2 => ?_
 obtain ⟨hd, rfl⟩ := defd_inv h
 refine o_xa (G.cst i x (at?_eq h2)) fun v e D => ?_
 refine kv ?_
 clear kv Gv
 exact name_top G C h1 e (P v s (D.up (Up.of_all C.stays.base)) C.same)
theorem Cond.call {A : Around} {env : Env} {xs : List Str} {h : Heap} (C : Cond S n A env xs ρ h κ) : CondC S n A h κ := ⟨C.room, C.units, C.handled, C.frames, C.stays⟩
theorem args_at (I : SoundE S t n) {a : M} {A : Around} {env : Env} {xs : List Str} {s : Shared} {p : Pos} {f : Value} {k : List Dat → Option Out} {E : Value → Shared → Prop} {R : Args → Shared → Prop}
  (h : andS (runT t n (.exs a) ρ) k = some out) (h1 : some1 a = true) (hok : okM env.scope.names xs a = true) (C : Cond S n A env xs ρ s.heap (og s))
  (perr : ∀ c p, out = .err c p → ∀ e s', S.X s'.heap e c p → Keep S s.heap s'.heap (og s') → E (.ref e) s')
  (nxt : ∀ ds vs s₁, k ds = some out → DatsH S.Ω s₁.heap vs ds → Keep S s.heap s₁.heap (og s₁) → R ⟨vs, []⟩ s₁) : wpAny S.M A (evalArgs f true (backTo p (starEach (toEs a) env)) []) R E s := by
 induction a using M.casesOn with
 | cons e r =>
  have hs : starEach (toE e :: toEs r) env = (false, eval (toE e) env) :: starEach (toEs r) env := by
   induction n using Nat.casesAuxOn with
   | zero => rcases andS_inv h with ⟨d, h1, _⟩ | ⟨c, p, h1, _⟩ <;> exact absurd h1 run_zero
   | succ n =>
    have q : ∃ o, runT t (n + 1) (.exs (.cons e r)) ρ = some o := by rcases andS_inv h with ⟨d, h1, _⟩ | ⟨c, p, h1, _⟩ <;> exact ⟨_, h1⟩
    obtain ⟨o, ho⟩ := q
    have ho' : (andO (runT t n (.ex e) ρ) fun d => andS (runT t n (.exs r) ρ) fun ds => some (.vals (d :: ds))) = some o := ho
    induction n using Nat.casesAuxOn with
    | zero => rcases andO_inv ho' with ⟨d, h1, _⟩ | ⟨c, p, h1, _⟩ <;> exact absurd h1 run_zero
    | succ n => rcases andO_inv ho' with ⟨d, h1, _⟩ | ⟨c, p, h1, _⟩ <;> exact no_star h1 _ _
  have hb : backTo p (starEach (toEs (.cons e r)) env) = (false, eval (toE e) env) :: backTo p (starEach (toEs r) env) := by
   show backTo p (starEach (toE e :: toEs r) env) = _
   rw [hs]
   rfl
  have key : wpAny S.M A (spliced (backTo p (starEach (toEs (.cons e r)) env))) (fun vs s' => R ⟨vs, []⟩ s') E s :=
   step_xs h (fun o' ho R' PR => I.exs (.cons e r) ρ o' ho A env xs s R' E p hok C PR) perr nxt
  rw [hb] at key ⊢
  exact Calls.evalArgs_plain key
 | _ => exact ft h1
theorem ex_call (I : SoundE S t n) (K : CallsOk S t fa n) (G : Globs S t fa mg mb) {k : Nat} {x : Str} {np p : Pos} {a : M} (h : uCall k (runT t n) ρ a = some out) : ExOk S (n + 1) (.u (.call k x np p) a) ρ out := by
 intro A env xs s Q E hok C P
 refine via fun Gv kv => ?_
 refine b_Lnn (show (okM env.scope.names xs a && (okGlob env.scope.names x && at? cx0.fns k x && some1 a)) = true from hok) fun ha hu => ?_
 refine b_LLnnn hu fun h1 h2 h3 => ?_
 clear hu
 refine o_axxa (G.fn k x (at?_eq h2)) fun e o fd ho hd => ?_
 refine kv ?_
 clear kv Gv
 have C' := C.less (Nat.le_succ n)
 refine wpAny_Call_ofName (name_top G C h1 e (Calls.callWith_function (o := o) (fd := fd) ?_))
 refine args_at I h h3 ha C' P.perr fun ds vs s₁ hk D K1 => ?_
 refine ⟨⟨K1.stays.base _ _ ho, hd⟩, wpAny_call ?_⟩
 exact K k ds ρ out (List.getElem?_eq_some_iff.mp (at?_eq h2)).1 hk A s₁ vs Q E D (C'.keep K1).call (P.keep K1)
theorem ex_not (I : SoundE S t n) {p : Pos} {a : M} (h : uNot (runT t n) ρ a = some out) : ExOk S (n + 1) (.u (.not p) a) ρ out := by
 intro A env xs s Q E hok C P
 obtain ⟨ha, -⟩ := ba (show (okM env.scope.names xs a && okT a) = true from hok)
 refine wpAny_UnaryOp (step_ex h (fun o' ho R PR => I.ex a ρ o' ho A env xs s R E ha (C.less (Nat.le_succ n)) PR) P.perr fun x v s₁ _ h1 D K => ?_)
 refine o_xa (onBool_inv h1) fun b q1' h2 => ?_
 subst q1'
 cases notB_inv h2
 cases datBool D
 exact wpAny_bind (wpAny_truthy_bool (wpAny_pure (P _ _ (.bool (!b)) K)))
end
end
section
open PySem PySem.W PySem.SeqAt
open PyProof.Rows (Assign_Tuple Assign_Tuple_swapped)
variable {κ κ' : OG}
theorem swap_form {env : Env} {ts vs : List Expr} {k k' : Nat} {p p' : Pos} : swappedStores [.Tuple ts k p] (.Tuple vs k' p') env = (do
  if !(ts.length == 2 || ts.length == 3) || vs.length != ts.length || env.blockKind != .function then return none
  if vs.any isStar then return none
  let names := localsAt env.scope.names ((ts.head?.map (·.pos.line)).getD 0) ts
  if names.length != ts.length || names.eraseDups.length != names.length then return none
  if vs.all (foldedForSure 8) then return none
  if vs.all (constantsAlone 8) then unsupported "assign.tuple-of-constant-expressions:order-of-the-stores"
  return some names) := rfl
theorem swap_eq {env : Env} {ts vs : List Expr} {names : List Str} {k k' : Nat} {p p' : Pos} (hb : env.blockKind = .function) (h : swapOk env.scope.names ts vs names = true) :
  swappedStores [.Tuple ts k p] (.Tuple vs k' p') env = pure (some names) := by
 unfold swapOk at h
 simp only [Bool.and_eq_true, Bool.not_eq_true', beq_iff_eq] at h
 refine via fun Gv kv => ?_
 obtain ⟨⟨⟨⟨⟨⟨⟨h1, h2⟩, h3⟩, h4⟩, h5⟩, h6⟩, h7⟩, h8⟩ := h
 refine kv ?_
 clear kv Gv
 have h1' : (ts.length == 2 || ts.length == 3) = true := h1
 have a1 : (!(ts.length == 2 || ts.length == 3) || vs.length != ts.length || env.blockKind != .function) = false := by rw [h1', h2, hb]; simp
 have a2 : (names.length != ts.length || names.eraseDups.length != names.length) = false := by simp [h5, h6]
 rw [swap_form, a1, h3]
 dsimp only
 rw [h4, a2, h7, h8]
 rfl
theorem putN_comm {i j : Nat} (hij : i ≠ j) (d e : Dat) (ρ : List Dat) : putN d i (putN e j ρ) = putN e j (putN d i ρ) := by
 refine List.ext_getElem? fun k => ?_
 rw [putN_get, putN_get, putN_get, putN_get, putN_length, putN_length]
 by_cases h1 : k = i
 ·subst h1
  by_cases hl : k < ρ.length <;> simp [hl, hij]
 ·by_cases h2 : k = j
  ·subst h2
   by_cases hl : k < ρ.length <;> simp [hl, h1]
  ·simp [h1, h2]
end
section
open PySem PySem.W PySem.SeqAt
open PyProof.Rows (Assign_Tuple Assign_Tuple_swapped)
variable {κ κ' : OG}
theorem DatsH.rev {Ω : Nat → Value} {h : Heap} {vs : List Value} {ds : List Dat} (D : DatsH Ω h vs ds) : DatsH Ω h vs.reverse ds.reverse := by
 induction ds generalizing vs with
 | nil => rw [D.i0]; exact .nil
 | cons d ds ih =>
  obtain ⟨v, r, q, a, D⟩ := D.ic
  rw [q, List.reverse_cons, List.reverse_cons]
  exact (ih D).append (.cons a .nil)
inductive Binds (M : Model) (A : Around) (env : Env) : List (Value → Sem Unit) → List (Nat × Str) → Prop
 | nil : Binds M A env [] []
 | cons {f : Value → Sem Unit} {fs : List (Value → Sem Unit)} {i : Nat} {x : Str} {l : List (Nat × Str)} :
   (∀ (v : Value) (Q : Unit → Shared → Prop) (E : Value → Shared → Prop) (s : Shared), wpAny M A (storeName env x v) Q E s → wpAny M A (f v) Q E s) → Binds M A env fs l → Binds M A env (f :: fs) ((i, x) :: l)
noncomputable def puts : List (Nat × Str) → List Dat → List Dat → List Dat
 | (i, _) :: l, d :: ds, ρ => puts l ds (putN d i ρ)
 | _, _, ρ => ρ
section
variable {S : Fixed} {A : Around} {env : Env} {xs : List Str} {h0 : Heap} {outer : List Env} {E : Value → Shared → Prop} {Q : Unit → Shared → Prop}
theorem stores_all {n : Nat} {fs : List (Value → Sem Unit)} {l : List (Nat × Str)} {vs : List Value} {ds ρ : List Dat} {s : Shared} (B : Binds S.M A env fs l) (Ds : DatsH S.Ω s.heap vs ds) (hl : l.length = ds.length)
  (hok : l.all (okSlot env.scope.names xs) = true) (T : At S n A env xs ρ h0 outer s.heap (og s)) (k : ∀ s', At S n A env xs (puts l ds ρ) h0 outer s'.heap (og s') → Q () s') : wpAny S.M A (assignInOrder fs vs) Q E s := by
 induction B generalizing vs ds ρ s with
 | nil =>
  induction ds using List.casesOn with
  | nil => rw [Ds.i0]; exact wpAny_pure (k s T)
  | cons _ _ => injection hl
 | @cons f fs i x l hf b ih => induction ds using List.casesOn with
  | nil => injection hl
  | cons d ds =>
  obtain ⟨v, vs', q, D, Ds⟩ := Ds.ic
  rw [q]
  rw [List.all_cons, Bool.and_eq_true] at hok
  have h1 := hok.1
  simp only [okSlot, Bool.and_eq_true, Bool.not_eq_true', beq_eq_false_iff_ne] at h1
  obtain ⟨⟨h1, h2⟩, h3⟩ := h1
  have hk : env.kindOf x = some .local ∨ env.kindOf x = some .cell := by
   rcases isLocal_eq h2 with q | q | q
   ·exact .inl q
   ·exact .inr q
   ·exact absurd q h3
  show wpAny S.M A (do holding vs' (_); assignInOrder _ _) Q E s
  refine wpAny_bind (wpAny_holding (hf v _ _ s (wp_store T.cond.frm T.nd (at?_eq h1) T.cond.kind hk D fun h₁ t₁ F O => ?_)))
  have T1 := T.next F (own_up T.ent T.up O) (own_stays T.ent T.cond.frm T.cond.stays O)
  refine via fun Gv kv => ?_
  obtain ⟨⟨m, hn, _⟩, hc, _, _⟩ := T.cond.frm
  refine kv ?_
  clear kv Gv
  exact ih (s := { s with heap := h₁, toks := t₁ }) (Ds.soft (soft_of_own hn hc O)) (Nat.succ.inj hl) hok.2 T1 k
noncomputable def allVars : M → Bool
 | .nil => true
 | .cons v r => match v with
  | .var _ _ _ => allVars r
  | _ => false
 | _ => false
theorem putAll_eq : ∀ (ds : List Dat) (a : M) (ρ ρ' : List Dat), putAll ds a ρ = some ρ' → allVars a = true ∧ ds.length = (varsOf a).length ∧ puts (varsOf a) ds ρ = ρ'
 | [], a, ρ, ρ', h => by
  induction a using M.casesOn with
  | nil => obtain rfl := si h; exact ⟨rfl, rfl, rfl⟩
  | _ => (have h' : (none : Option (List Dat)) = some ρ' := h; exact nn h')
 | d :: ds, a, ρ, ρ', h => by
  induction a using M.casesOn with
  | cons v r => induction v using M.casesOn with
   | var i x p =>
    refine o_aa (putAll_eq ds r _ ρ' (show putAll ds r (putN d i ρ) = some ρ' from h)) fun e1 e2 e3 => ?_
    exact ⟨e1, by show ds.length + 1 = (varsOf r).length + 1; rw [e2], e3⟩
   | _ => (have h' : (none : Option (List Dat)) = some ρ' := h; exact nn h')
  | _ => (have h' : (none : Option (List Dat)) = some ρ' := h; exact nn h')
theorem each_binds : ∀ (a : M), allVars a = true → Binds S.M A env ((assignEach (toEs a) env).map (·.2)) (varsOf a) ∧ (assignEach (toEs a) env).length = (varsOf a).length ∧ (assignEach (toEs a) env).findIdx? (·.1) = none
 | .nil, _ => ⟨.nil, rfl, rfl⟩
 | .cons v r, h => by
  induction v using M.casesOn with
  | var i x p =>
   refine o_aa (each_binds r h) fun e1 e2 e3 => ?_
   refine ⟨.cons (fun v Q E s hw => wpAny_assign_Name hw) e1, by show _ + 1 = _ + 1; rw [e2], ?_⟩
   show List.findIdx? (·.1) ((false, assign (.Name x p) env) :: assignEach (toEs r) env) = none
   rw [List.findIdx?_cons]
   simp [e3]
  | _ => exact ft h
 | .lit _ _ _, h => by exact ft h
 | .var _ _ _, h => by exact ft h
 | .gl _ _ _, h => by exact ft h
 | .u _ _, h => by exact ft h
 | .b _ _ _, h => by exact ft h
 | .c _ _ _ _, h => by exact ft h
 | .raw _, h => by exact ft h
 | .rawS _, h => by exact ft h
noncomputable def isTupE : Expr → Bool
 | .Tuple _ _ _ => true
 | _ => false
theorem sole_no {a b : M} {k : Nat} {xp : Pos} {line : Nat} (h : noComp b = true) : swapsWithSole [.Tuple (toEs a) k xp] (toE b) line env = pure false := by
 induction b using M.casesOn with
 | raw e => exact ft h
 | u o a => induction o <;> first | rfl | exact nn h
 | b o a b => induction o <;> first | rfl | exact nn h
 | c o a b c => induction o <;> first | rfl | exact nn h
 | _ => rfl
theorem stores_none {a : M} {e : Expr} {k : Nat} {xp : Pos} (ht : isTupE e = false) : swappedStores [.Tuple (toEs a) k xp] e env = pure none := by
 induction e using Expr.casesOn <;> first | rfl | exact tf ht
theorem bind_names : ∀ (l : List (Nat × Str)), Binds S.M A env (l.map fun p => bindName env p.2) l
 | [] => .nil
 | (i, x) :: l => .cons (fun v Q E s hw => wpAny_bindName hw) (bind_names l)
theorem puts_rev {l : List (Nat × Str)} {ds ρ : List Dat} (nd : (l.map (·.1)).Nodup) (hl : l.length = ds.length) (h3 : l.length ≤ 3) : puts l.reverse ds.reverse ρ = puts l ds ρ := by
 have cons : ∀ {l : List Dat} {n : Nat}, n + 1 = l.length → ∃ a r, l = a :: r ∧ n = r.length := fun {l n} e => by
  induction l using List.casesOn with
  | nil => injection e
  | cons a r => exact ⟨a, r, rfl, Nat.succ.inj e⟩
 induction l using List.casesOn with
 | nil => rw [List.length_eq_zero_iff.mp hl.symm]; rfl
 | cons p l =>
  obtain ⟨d, r, q, hl⟩ := cons hl
  rw [q]
  induction l using List.casesOn with
  | nil => rw [List.length_eq_zero_iff.mp hl.symm]; rfl
  | cons p2 l =>
   obtain ⟨e, r, q, hl⟩ := cons hl
   rw [q]
   have hij : p.1 ≠ p2.1 := fun z => (List.nodup_cons.mp nd).1 (List.mem_cons.mpr (.inl z))
   induction l using List.casesOn with
   | nil =>
    rw [List.length_eq_zero_iff.mp hl.symm]
    exact putN_comm hij d e ρ
   | cons p3 l =>
    obtain ⟨f, r, q, hl⟩ := cons hl
    rw [q]
    have hik : p.1 ≠ p3.1 := fun z => (List.nodup_cons.mp nd).1 (List.mem_cons.mpr (.inr (List.mem_cons.mpr (.inl z))))
    have hjk : p2.1 ≠ p3.1 := fun z => (List.nodup_cons.mp (List.nodup_cons.mp nd).2).1 (List.mem_cons.mpr (.inl z))
    induction l using List.casesOn with
    | nil =>
     rw [List.length_eq_zero_iff.mp hl.symm]
     show putN d p.1 (putN e p2.1 (putN f p3.1 ρ)) = putN f p3.1 (putN e p2.1 (putN d p.1 ρ))
     rw [putN_comm hij d e, putN_comm hik d f, putN_comm hjk e f]
    | cons _ _ => exact absurd h3 (Nat.not_le.mpr (Nat.le_add_left 4 _))
theorem unp_swap {n : Nat} {a : M} {k k' : Nat} {xp p p' : Pos} {es : List Expr} {ρ : List Dat} {s : Shared} {Qf : Flow → Shared → Prop} (hk : env.scope.kind = .function) (hs : swapsWithSole [.Tuple (toEs a) k xp] (.Tuple es k' p') p.line env = pure false)
  (h5 : swapOk env.scope.names (toEs a) es ((varsOf a).map (·.2)) = true) (h1 : (varsOf a).all (okSlot env.scope.names xs) = true) (h4 : ((varsOf a).map (·.1)).Nodup)
  (ev : wpAny S.M A (eval (.Tuple es k' p') env) (fun v s₁ => ∃ ds tp vs, ∃ h1 : Heap, v = .ref tp ∧ s₁.heap.IsTuple tp vs.toArray ∧ DatsH S.Ω s₁.heap vs ds ∧ ds.length = (varsOf a).length ∧ At S n A env xs ρ h1 outer s₁.heap (og s₁) ∧
   ∀ s', At S n A env xs (puts (varsOf a) ds ρ) h1 outer s'.heap (og s') → Qf .next s') E s) : wpAny S.M A (exec (.Assign [.Tuple (toEs a) k xp] (.Tuple es k' p') p) env) Qf E s := by
 have bk : env.blockKind = .function := by unfold Env.blockKind; rw [hk]; rfl
 have hl3 : (varsOf a).length ≤ 3 := by
  simp only [swapOk, Bool.and_eq_true, Bool.or_eq_true, beq_iff_eq] at h5
  have c5 := h5.1.1.1.2
  have c1 := h5.1.1.1.1.1.1.1
  rw [List.length_map] at c5
  lia
 refine Assign_Tuple_swapped (names := (varsOf a).map (·.2)) (hs := hs) (hw := swap_eq bk h5) (wpAny_mono ev (fun v s₁ h => ?_) fun _ _ y => y)
 refine via fun Gv kv => ?_
 obtain ⟨ds, tp, vs, h1', rfl, x, r, hl, T1, fin⟩ := h
 refine kv ?_
 clear kv Gv
 have hsz : ((varsOf a).map (·.2)).length = vs.toArray.size := by rw [List.length_map, ← hl, ← r.length]; simp
 rw [hsz]
 refine wpAny_unpackItems_tuple T1.cond.handled x fun h' he => ?_
 have k2 : All s₁.heap h' := fun b o hb => he b o (Nat.ne_of_lt (Heap.lt_size hb)) hb
 have T2 : At S n A env xs ρ h1' outer h' (og s₁) := T1.keep (T1.cond.all k2)
 have hrev : DatsH S.Ω h' vs.reverse ds.reverse := (r.up (Up.of_all k2)).rev
 rw [show (((varsOf a).map (·.2)).reverse.map fun n => bindName env n) = ((varsOf a).reverse.map fun p => bindName env p.2) by rw [← List.map_reverse, List.map_map]; rfl]
 refine stores_all (s := { s₁ with heap := h' }) (bind_names _) hrev (by simp [hl]) (by rw [List.all_reverse]; exact h1) T2 fun s' T3 => ?_
 rw [puts_rev h4 hl.symm hl3] at T3
 exact fin s' T3
end
section
variable {n : Nat} {A : Around} {env : Env} {xs : List Str} {outer : List Env} {s : Shared} {E : Value → Shared → Prop}
theorem unp_plain {M : Model} {a : _root_.Mine.M} {k : Nat} {xp p : Pos} {e : Expr} {Qf : Flow → Shared → Prop} (hs : swapsWithSole [.Tuple (toEs a) k xp] e p.line env = pure false) (hw : swappedStores [.Tuple (toEs a) k xp] e env = pure none) (h1 : (varsOf a).all (okSlot env.scope.names xs) = true)
  (ev : wpAny M A (eval e env) (fun v s₁ => ∃ (S : Fixed) (ρ ds : List Dat) (tp : Addr) (vs : List Value) (h1 : Heap), S.M = M ∧ allVars a = true ∧ v = .ref tp ∧ s₁.heap.IsTuple tp vs.toArray ∧ DatsH S.Ω s₁.heap vs ds ∧ ds.length = (varsOf a).length ∧ At S n A env xs ρ h1 outer s₁.heap (og s₁) ∧
   ∀ s', At S n A env xs (puts (varsOf a) ds ρ) h1 outer s'.heap (og s') → Qf .next s') E s) : wpAny M A (exec (.Assign [.Tuple (toEs a) k xp] e p) env) Qf E s := by
 refine Assign_Tuple (hs := hs) (hw := hw) (wpAny_mono ev (fun v s₁ h => ?_) fun _ _ y => y)
 refine via fun Gv kv => ?_
 obtain ⟨S, ρ, ds, tp, vs, hb, hM, hav, rfl, x, r, hl, T1, fin⟩ := h
 subst hM
 refine o_aa (each_binds (S := S) (A := A) (env := env) a hav) fun b1 b2 b3 => ?_
 refine kv ?_
 clear kv Gv
 refine wpAny_assign_Tuple T1.cond.handled x (by rw [b2, ← hl, ← r.length]; simp) b3 fun h' he => ?_
 have k2 : All s₁.heap h' := fun b o hb => he b o (Nat.ne_of_lt (Heap.lt_size hb)) hb
 exact stores_all (s := { s₁ with heap := h' }) b1 (r.up (Up.of_all k2)) hl.symm h1 (T1.keep (T1.cond.all k2)) fin
theorem swap_none {ts vs : List Expr} {k k' : Nat} {p p' : Pos} (h : plainOk env.scope.names ts vs = true) : swappedStores [.Tuple ts k p] (.Tuple vs k' p') env = pure none := by
 refine b_Lnn h fun h1 h2 => ?_
 rw [Bool.not_eq_true'] at h1 h2
 rw [swap_form, h2]
 dsimp only
 have : ((localsAt env.scope.names ((ts.head?.map (·.pos.line)).getD 0) ts).length != ts.length) = true := by unfold bne; rw [h1]; rfl
 rw [this]
 induction (!(ts.length == 2 || ts.length == 3) || vs.length != ts.length || env.blockKind != .function) <;> rfl
end
section
variable {S : Fixed} {t : Tabs} {n : Nat} {ρ : List Dat} {out : Out}
theorem st_unp (I : SoundE S t n) {k : Nat} {xp p : Pos} {a b : M} (h : sUnp (runT t n) ρ a b = some out) : StOk S (n + 1) (toS (.b (.unp k xp p) a b)) (fun sc xs => okSt sc xs (.b (.unp k xp p) a b)) ρ out := by
 intro A env xs s h0 outer Q E hok T P
 have hok' : okUnp env.scope.names xs a b = true := hok
 simp only [okUnp, Bool.and_eq_true, decide_eq_true_eq] at hok'
 refine via fun Gv kv => ?_
 obtain ⟨⟨⟨⟨h1, h2⟩, h3⟩, h4⟩, h5⟩ := hok'
 refine kv ?_
 clear kv Gv
 have T' := T.less (Nat.le_succ n)
 have fin : ∀ {d : Dat} {v : Value} {s₁ : Shared}, (onTup d fun ds => @Option.rec (List Dat) (fun _ => Option Out) none (fun ρ' => forceL ρ' fun ρ' => some (.flow ρ' .next)) (putAll ds a ρ)) = some out →
   DatH S.Ω s₁.heap v d → ∃ ds tp vs, d = .tup ds ∧ v = .ref tp ∧ s₁.heap.IsTuple tp vs.toArray ∧ DatsH S.Ω s₁.heap vs ds ∧ ds.length = (varsOf a).length ∧ allVars a = true ∧ out = .flow (puts (varsOf a) ds ρ) .next := by
  intro d v s₁ hk D
  refine o_xa (onTup_inv hk) fun ds q1' hk2 => ?_
  subst q1'
  induction hp : putAll ds a ρ with
  | none => rw [hp] at hk2; exact nn hk2
  | some ρ' =>
   rw [hp] at hk2
   have hk3 : (forceL ρ' fun ρ' => some (.flow ρ' .next)) = some out := hk2
   rw [forceL_eq] at hk3
   obtain rfl := si hk3
   refine o_aa (putAll_eq ds a ρ ρ' hp) fun e1 e2 e3 => ?_
   refine o_xxaa D.it fun tp vs q x r => ?_
   subst q
   exact ⟨ds, _, _, rfl, rfl, x, r, e2, e1, by rw [e3]⟩
 have plain : swappedStores [.Tuple (toEs a) k xp] (toE b) env = pure none → wpAny S.M A (execs (toS (.b (.unp k xp p) a b)) env) Q E s := fun hw => by
  refine one_stmt (unp_plain (n := n + 1) (outer := outer) (sole_no h3) hw h1 (step_ex h (fun o' ho R PR => I.ex b ρ o' ho A env xs s R E h2 T'.cond PR) (PostF.perr T P) fun d v s₁ _ hk D K => ?_))
  refine o_xxxaaaaaa (fin hk D) fun ds tp vs q3' q4' x r hl hav q9' => ?_
  subst q3'
  subst q4'
  subst q9'
  exact ⟨S, ρ, ds, tp, vs, h0, rfl, hav, rfl, x, r, hl, T.keep K, fun s' T3 => P _ s' .next T3.cond.frm T3.up T3.cond.stays⟩
 induction hb : toE b using Expr.casesOn with
 | Tuple es k' p' =>
  rw [hb] at h5
  rcases Bool.or_eq_true_iff.mp h5 with h5 | h5
  ·have hs : swapsWithSole [.Tuple (toEs a) k xp] (toE b) p.line env = pure false := sole_no h3
   rw [hb] at hs
   show wpAny S.M A (execs [.Assign [.Tuple (toEs a) k xp] (toE b) p] env) Q E s
   rw [hb]
   refine one_stmt (unp_swap (n := n + 1) (ρ := ρ) (outer := outer) T.cond.kind hs h5 h1 h4 ?_)
   rw [← hb]
   refine step_ex h (fun o' ho R PR => I.ex b ρ o' ho A env xs s R E h2 T'.cond PR) (PostF.perr T P) fun d v s₁ _ hk D K => ?_
   refine o_xxxaaaaaa (fin hk D) fun ds tp vs q3' q4' x r hl hav q9' => ?_
   subst q3'
   subst q4'
   subst q9'
   exact ⟨ds, tp, vs, h0, rfl, x, r, hl, T.keep K, fun s' T3 => P _ s' .next T3.cond.frm T3.up T3.cond.stays⟩
  ·exact plain (by rw [hb]; exact swap_none h5)
 | _ => exact plain (stores_none (by rw [hb]; rfl))
end
end
section
open PySem PySem.W PySem.SeqAt
variable {κ κ' : OG}
theorem bindL_other {k : Str → Option NameKind} {x : Str} : ∀ (ps : List Str) (vs : List Value) (m : Str → Option Value), x ∉ ps → bindL k (ps.zip vs) m x = m x
 | [], _, _, _ => by simp [bindL]
 | _ :: _, [], _, _ => by simp [bindL]
 | p :: ps, v :: vs, m, h => by
  have hx : x ≠ p := fun e => h (e ▸ .head _)
  show bindL k (ps.zip vs) (if k p = some .local then fun y => if y = p then some v else m y else m) x = m x
  rw [bindL_other ps vs _ fun e => h (.tail _ e)]
  split
  ·exact if_neg hx
  ·rfl
theorem bindC_other {k : Str → Option NameKind} {x : Str} : ∀ (ps : List Str) (vs : List Value) (m : Str → Option Value), x ∉ ps → bindC k (ps.zip vs) m x = m x
 | [], _, _, _ => by simp [bindC]
 | _ :: _, [], _, _ => by simp [bindC]
 | p :: ps, v :: vs, m, h => by
  have hx : x ≠ p := fun e => h (e ▸ .head _)
  show bindC k (ps.zip vs) (if k p = some .local then m else fun y => if y = p then some v else m y) x = m x
  rw [bindC_other ps vs _ fun e => h (.tail _ e)]
  split
  ·rfl
  ·exact if_neg hx
theorem bindL_get {k : Str → Option NameKind} {x : Str} {v : Value} (hk : k x = some .local) : ∀ (ps : List Str) (vs : List Value) (m : Str → Option Value) (i : Nat), ps.Nodup → ps[i]? = some x → vs[i]? = some v → bindL k (ps.zip vs) m x = some v
 | [], _, _, _, _, h, _ => by simp at h
 | _ :: _, [], _, _, _, _, h => by simp at h
 | p :: ps, u :: vs, m, 0, nd, h1, h2 => by
  simp at h1 h2
  subst h1
  subst h2
  rw [List.nodup_cons] at nd
  show bindL k (ps.zip vs) (if k p = some .local then fun y => if y = p then some u else m y else m) p = some u
  rw [bindL_other ps vs _ nd.1, if_pos hk]
  exact if_pos rfl
 | p :: ps, u :: vs, m, i + 1, nd, h1, h2 => bindL_get hk ps vs _ i (List.nodup_cons.mp nd).2 (by simpa using h1) (by simpa using h2)
theorem bindC_get {k : Str → Option NameKind} {x : Str} {v : Value} (hk : k x ≠ some .local) : ∀ (ps : List Str) (vs : List Value) (m : Str → Option Value) (i : Nat), ps.Nodup → ps[i]? = some x → vs[i]? = some v → bindC k (ps.zip vs) m x = some v
 | [], _, _, _, _, h, _ => by simp at h
 | _ :: _, [], _, _, _, _, h => by simp at h
 | p :: ps, u :: vs, m, 0, nd, h1, h2 => by
  simp at h1 h2
  subst h1
  subst h2
  rw [List.nodup_cons] at nd
  show bindC k (ps.zip vs) (if k p = some .local then m else fun y => if y = p then some u else m y) p = some u
  rw [bindC_other ps vs _ nd.1, if_neg hk]
  exact if_pos rfl
 | p :: ps, u :: vs, m, i + 1, nd, h1, h2 => bindC_get hk ps vs _ i (List.nodup_cons.mp nd).2 (by simpa using h1) (by simpa using h2)
theorem lookup_some_cons {l : List (Str × Addr)} {x : Str} {p : Str × Addr} (h : (l.lookup x).isSome = true) : ((p :: l).lookup x).isSome = true := by
 obtain ⟨y, c⟩ := p
 rw [List.lookup_cons]
 induction x == y <;> simp [h]
theorem cells_acc {x : Str} : ∀ (names : Sc) (n : Nat) (acc : List (Str × Addr)), (acc.lookup x).isSome = true → ((cellsFrom n names acc).lookup x).isSome = true
 | [], _, _, h => h
 | (y, k) :: r, n, acc, h => by
  unfold cellsFrom
  split
  ·exact cells_acc r _ _ (lookup_some_cons h)
  ·exact cells_acc r _ _ h
theorem cells_has {x : Str} : ∀ (names : Sc) (n : Nat) (acc : List (Str × Addr)), (x, NameKind.cell) ∈ names → ((cellsFrom n names acc).lookup x).isSome = true
 | (y, k) :: r, n, acc, h => by
  unfold cellsFrom
  rcases List.mem_cons.mp h with e | e
  ·cases e
   rw [if_pos (by decide)]
   refine cells_acc r _ _ ?_
   rw [List.lookup_cons]
   simp
  ·split
   ·exact cells_has r _ _ e
   ·exact cells_has r _ _ e
structure FnC (S : Fixed) (f : Fn) (fd : FuncData) : Prop where
 nd : f.slots.Nodup
 kind : fd.scope.kind = .function
 co : fd.scope.isCoroutine = false
 gen : fd.scope.isGenerator = false
 no : ∀ x ∈ fd.scope.names, x.2 ≠ .free
 code : S.B0.CodeRec fd.code fd.qualname
 glob : fd.globals = mainGlobals
 blt : fd.builtins = builtinsNs
 clo : fd.closure = []
 lamc : ∀ l ∈ S.lams, l.sc = fd.scope.names → ∃ c, fd.code = .ref c ∧ CodeHd S.B0 c l.P ∧ l.qual = fd.qualname ++ ".<locals>." ++ "<lambda>"
 loc : ∀ x ∈ f.slots.take f.np, fd.scope.names.lookup x = some .local ∨ fd.scope.names.lookup x = some .cell
 np : f.np ≤ f.slots.length
 bind : ∀ (vs : List Value) (ds ρ : List Dat), vs.length = ds.length → bindD f ds = some ρ →
  bindArgs fd ⟨vs, []⟩ = pure ((f.slots.take f.np).zip vs) ∧ ds = ρ.take f.np ∧ vs.length = f.np ∧ (∀ i d, f.np ≤ i → ρ[i]? = some d → d = .hole) ∧ ρ.length = f.slots.length
structure FnOkC (S : Fixed) (f : Fn) (fd : FuncData) : Prop where
 body : fd.body = .stmts (toSs f.body)
 ok : okSt fd.scope.names f.slots f.body = true
 frm : FnC S f fd
section
variable {S : Fixed} {t : Tabs} {n : Nat} {out : Out}
theorem enter_cells (hlim : S.B0.NoLimit) {f : Fn} {fa : Addr} {o : Obj} {fd : FuncData} {ds ρ : List Dat} (ho : S.B0.get? fa = some o) (hd : o.data = .func fd) (F : FnC S f fd) {body : List Stmt} (hbody : fd.body = .stmts body) {A : Around} {s : Shared} {vs : List Value} (D : DatsH S.Ω s.heap vs ds) (C : CondC S (n + 1) A s.heap (og s)) (hb : bindD f ds = some ρ) {R : Result → Shared → Prop}
  (walk : ∀ (env : Env) (s₁ : Shared) (l : List Env), env.scope = fd.scope → A.frames = some l → env.frame = some env.locals → At S n (A.deeper env) env f.slots ρ s.heap l s₁.heap (og s₁) →
   wpAny S.M (A.deeper env) (execs body env) (fun fl s' => R (.ok (.ret (match fl with | .ret v => v | _ => .none))) s') (fun e s' => wpAny S.M (A.deeper env) (leaving env e) (fun _ s'' => R (.error e) s'') (fun e' s'' => R (.error e') s'') s') s₁) :
  codeAny S.M A (.call (.ref fa) ⟨vs, []⟩) R s := by
 refine o_aaaa (F.bind vs ds ρ D.length hb) fun hbind hds hlen hole hln => ?_
 rw [hds] at D
 refine o_xa C.frames fun l hfr hff => ?_
 have room := C.room
 have units := C.units
 have hno : ∀ x, (callEnvC fd s.heap.objs.size fa).kindOf x ≠ some .free := fun x e => (F.no _ (lookup_mem e)) rfl
 have ndp : (f.slots.take f.np).Nodup := F.nd.sublist (List.take_sublist _ _)
 refine codeAny_call_cells (by lia) (C.stays.base _ _ ho) hd (hlim.keeps C.stays.base) (F.code.keeps C.stays.base) hbody hbind F.clo (fun x hx => ?_) (fun s₁ X => ?_) F.co F.gen F.kind
 ·rcases F.loc x.1 (List.of_mem_zip hx).1 with e | e
  ·exact .inl e
  ·exact .inr ⟨e, cells_has _ _ _ (lookup_mem e)⟩
 have hall : All s.heap s₁.heap := X.toInCall.keep
 have st0 : Stays S s₁.heap (og s₁) := by
  have q : og s₁ = og s := by obtain ⟨_, _, e⟩ := X.toInCall.same; rw [e]
  rw [q]; exact C.stays.all hall
 have up0 : Up s.heap s₁.heap := Up.of_all hall
 have D' := D.up up0
 have frm : Frm S.Ω (callEnvC fd s.heap.objs.size fa) f.slots ρ s₁.heap := by
  refine ⟨⟨_, X.toInCall.ns, fun i x d hx hd => ?_⟩, fun x c e => ⟨_, X.cell x c e⟩, fun x e => Option.isSome_iff_exists.mp (cells_has _ _ _ (lookup_mem e)), fun x y c e1 e2 => name_of_addr X.apart (mem_of_lookup e1) (mem_of_lookup e2), hln⟩
  by_cases hi : i < f.np
  ·have hd' : (ρ.take f.np)[i]? = some d := by rw [List.getElem?_take]; simp [hi, hd]
   have hx' : (f.slots.take f.np)[i]? = some x := by rw [List.getElem?_take]; simp [hi, hx]
   refine o_xa (D'.get hd') fun v hv Dv => ?_
   refine .inr ⟨fun e => ⟨v, bindL_get e _ _ _ i ndp hx' hv, Dv⟩, fun e => ?_⟩
   rcases e with e | e
   ·obtain ⟨c, hc⟩ := Option.isSome_iff_exists.mp (cells_has fd.scope.names (s.heap.objs.size + 1) [] (lookup_mem e))
    refine ⟨c, v, hc, ?_, Dv⟩
    have hcell := X.cell x c hc
    rwa [bindC_get (by rw [e]; intro q; cases q) _ _ _ i ndp hx' hv] at hcell
   ·exact absurd e (hno x)
  ·exact .inl (hole i d (by (simp +arith at *; assumption)) hd)
 have ent : Ent S (callEnvC fd s.heap.objs.size fa) s.heap l := ⟨C.stays.base, Heap.get?_none_of_le (Nat.le_refl _), fun y c _ e => Heap.get?_none_of_le (Nat.le_of_lt (X.above y c (mem_of_lookup e))), hff, rfl, F.kind⟩
 have T : At S n (A.deeper (callEnvC fd s.heap.objs.size fa)) (callEnvC fd s.heap.objs.size fa) f.slots ρ s.heap l s₁.heap (og s₁) :=
  ⟨⟨by show A.depth + 1 + 3 * n + 10 < recursionLimit; lia, by show A.units + 3 + 24 * n + 100 < cLine; lia, C.handled, ⟨_, by show A.frames.map _ = _; rw [hfr]; rfl, frames_of ent frm up0⟩, st0, frm, F.kind, F.glob, F.blt, F.lamc⟩,
   ent, by show A.frames.map _ = _; rw [hfr]; rfl, up0, F.nd⟩
 exact walk _ s₁ l rfl hfr rfl T
theorem call_cells (J : SoundS S t n) (L : Leaves S) (hlim : S.B0.NoLimit) {f : Fn} {fa : Addr} {o : Obj} {fd : FuncData} {ds : List Dat} (ho : S.B0.get? fa = some o) (hd : o.data = .func fd) (F : FnOkC S f fd)
  (h : fnR (runT t n) f ds = some out) : CallOk S (n + 1) fa ds out := by
 intro A s vs Q E D C P
 induction hb : bindD f ds with
 | none => unfold fnR at h; rw [hb] at h; exact nn h
 | some ρ =>
  have h' : (flowK (runT t n (.sts f.body) ρ) fun _ fl => onFl fl (some (.val .none)) fun d => some (.val d)) = some out := by unfold fnR at h; rw [hb] at h; exact h
  refine enter_cells hlim ho hd F.frm F.body D C hb fun env s₁ l hsc hfr hf T => ?_
  have fin : ∀ (out' : Out), runT t n (.sts f.body) ρ = some out' → (∀ ρ' fl, out' = .flow ρ' fl → out = .val (match fl with | .ret d => d | .next => .none)) → (∀ c p, out' = .err c p → out = .err c p) →
    wpAny S.M (A.deeper env) (execs (toSs f.body) env) (fun fl s' => Q (match fl with | .ret v => v | _ => .none) s')
     (fun e s' => wpAny S.M (A.deeper env) (leaving env e) (fun _ s'' => E e s'') (fun e' s'' => E e' s'') s') s₁ := by
   intro out' h1 hv he
   refine J.sts f.body ρ out' h1 _ _ f.slots _ s.heap l _ _ (by rw [hsc]; exact F.ok) T ?_
   induction out' with
   | flow ρ' fl =>
    intro g s₂ F1 F2 U1 S1
    have e := hv ρ' fl rfl
    induction F1 using FlowIs.casesOn with
    | next => subst e; exact P _ s₂ .none ⟨U1, S1⟩
    | ret Dv => subst e; exact P _ s₂ Dv ⟨U1, S1⟩
   | err c p =>
    intro e s₂ x U1 S1 FF
    have e' := he c p rfl
    subst e'
    exact L _ _ l e c p s₂ _ _ (by show A.frames.map _ = _; rw [hfr]; rfl) FF hf x S1 fun h' x' u' st' => P e _ x' ⟨U1.trans u', st'⟩
   | _ => exfalso; induction h1b : runT t n (.sts f.body) ρ <;> rw [h1] at h1b <;> injection h1b; rw [h1] at h'; injection h'
  rcases flowK_inv h' with ⟨ρ', fl, h1, h2⟩ | ⟨c, p, h1, rfl⟩
  ·refine fin _ h1 (fun ρ'' fl' e => ?_) (fun c p e => by injection e)
   cases e
   induction fl <;> cases h2 <;> rfl
  ·exact fin _ h1 (fun ρ'' fl' e => by cases e) fun c' p' e => by cases e; rfl
end
end
section
open PySem PySem.W PySem.SeqAt
variable {κ κ' : OG}
theorem Soft.of_slots {h h' : Heap} (k : h.UpToSlots h') : Soft h h' := fun b o _ _ hb hd => k b o hb fun vs q => by rw [hd] at q; injection q
theorem Frm.slots {Ω : Nat → Value} {env : Env} {xs : List Str} {ρ : List Dat} {h h' : Heap} (k : h.UpToSlots h') (F : Frm Ω env xs ρ h) : Frm Ω env xs ρ h' := by
 have ck : ∀ c v, h.IsCell c v → h'.IsCell c v := fun c v x => by
  refine o_xa x fun o ho hd => ?_
  clear x
  obtain ⟨sl, hs⟩ := k c o ho fun vs q => by rw [hd] at q; injection q
  exact ⟨_, hs, hd⟩
 have sk := Soft.of_slots k
 refine via fun Gv kv => ?_
 obtain ⟨⟨m, hn, hv⟩, hc, hh, h1, hln⟩ := F
 refine kv ?_
 clear kv Gv
 refine ⟨⟨m, k.ns hn, fun i x d hx hd => ?_⟩, fun x c e => let ⟨o, q⟩ := hc x c e; ⟨o, ck _ _ q⟩, hh, h1, hln⟩
 rcases hv i x d hx hd with e | ⟨a, b⟩
 ·exact .inl e
 ·exact .inr ⟨fun e => let ⟨v, e1, e2⟩ := a e; ⟨v, e1, e2.soft sk⟩, fun e => let ⟨c, v, e1, e2, e3⟩ := b e; ⟨c, v, e1, ck _ _ e2, e3.soft sk⟩⟩
noncomputable def ownCells (env : Env) : List Addr := env.scope.names.filterMap fun p => if env.kindOf p.1 = some .cell then env.cells.lookup p.1 else none
set_option tactic.hygienic true in
theorem ownCells_mem {env : Env} {b : Addr} (h : b ∈ ownCells env) : ∃ y, env.kindOf y = some .cell ∧ env.cells.lookup y = some b := by
 refine o_xa (List.mem_filterMap.mp h) fun p _ hp => ?_
 split at hp
 ·rename_i hk
  exact ⟨p.1, hk, hp⟩
 ·exact nn hp
theorem mem_ownCells {env : Env} {y : Str} {b : Addr} (hk : env.kindOf y = some .cell) (hl : env.cells.lookup y = some b) : b ∈ ownCells env :=
 List.mem_filterMap.mpr ⟨(y, .cell), lookup_mem hk, by rw [if_pos hk]; exact hl⟩
section
variable {S : Fixed} {n : Nat} {A : Around} {env : Env} {xs : List Str} {ρ : List Dat} {h0 h : Heap} {outer : List Env}
noncomputable def bare (env : Env) (h : Heap) : Heap := hideAll h (env.locals :: ownCells env)
theorem bare_get {b : Addr} {o : Obj} (e : h.get? b = some o) (h1 : b ≠ env.locals) (h2 : ∀ y, env.kindOf y = some .cell → env.cells.lookup y ≠ some b) : (bare env h).get? b = some o :=
 hideAll_get _ e fun q => by
  rcases List.mem_cons.mp q with q | q
  ·exact h1 q
  ·refine o_xa (ownCells_mem q) fun y a c => ?_
   exact h2 y a c
theorem bare_none {b : Addr} (e : h.get? b = none) : (bare env h).get? b = none := by
 induction q : (bare env h).get? b with
 | none => rfl
 | some o =>
  by_cases hm : b ∈ env.locals :: ownCells env
  ·rw [show (bare env h).get? b = none from hideAll_none _ hm] at q; exact nn q
  ·have := of_hideAll _ q; rw [e] at this; exact nn this
theorem not_own {N : Ent S env h0 outer} {b : Addr} {o : Obj} (hb : h0.get? b = some o) : b ≠ env.locals ∧ ∀ y, env.kindOf y = some .cell → env.cells.lookup y ≠ some b :=
 ⟨fun q => (by rw [q, N.fresh] at hb; exact nn hb), fun y hy q => (by rw [N.cellF y b hy q] at hb; exact nn hb)⟩
theorem bare_up (N : Ent S env h0 outer) (u : Up h0 h) : Up h0 (bare env h) := by
 refine ⟨fun b o hb hn => ?_, fun b o hb hi => ?_⟩
 ·obtain ⟨sl, hs⟩ := u.slots b o hb hn
  have no := not_own (N := N) hb
  exact ⟨sl, bare_get hs no.1 no.2⟩
 ·have no := not_own (N := N) hb
  exact bare_get (u.iters b o hb hi) no.1 no.2
theorem At.bare (T : At S n A env xs ρ h0 outer h κ) : At S n A env xs ρ (Mine.bare env h) outer h κ := by
 have N := T.ent
 have F := T.cond.frm
 refine ⟨T.cond, ⟨fun b o e => ?_, hideAll_none _ (.head _), fun y c hk hl => hideAll_none _ (.tail _ (mem_ownCells hk hl)), frames_up (bare_up N T.up) N.fr0, N.hf, N.kind⟩, T.fr, ⟨fun b o hb hn => ?_, fun b o hb hi => ?_⟩, T.nd⟩
 ·have no := not_own (N := N) (N.st0 b o e)
  exact bare_get (T.cond.stays.base b o e) no.1 no.2
 ·exact ⟨o.slots, of_hideAll _ hb⟩
 ·exact of_hideAll _ hb
end
end
section
open PySem PySem.W PySem.SeqAt
variable {κ κ' : OG}
section
variable {S : Fixed} {n : Nat} {A : Around} {env : Env} {xs : List Str} {ρ : List Dat} {h0 h h' : Heap} {outer : List Env}
theorem bare_soft (F : Frm S.Ω env xs ρ h) : Soft h (bare env h) := fun b o items k hb hd => by
 refine via fun Gv kv => ?_
 obtain ⟨⟨m, hn, _⟩, hc, _, _⟩ := F
 refine kv ?_
 clear kv Gv
 refine ⟨o.slots, bare_get hb (fun q => ?_) fun y hy q => ?_⟩
 ·subst q
  refine o_xxxaa hn fun o' es ep ho' hd' _ => ?_
  clear hn
  rw [hb] at ho'
  cases ho'
  rw [hd] at hd'
  cases hd'
 ·refine o_xxa (hc y b q) fun v o' ho' hd' => ?_
  rw [hb] at ho'
  cases ho'
  rw [hd] at hd'
  cases hd'
theorem Frm.alien {Ω : Nat → Value} (F : Frm Ω env xs ρ h) {a : Addr} {o : Obj} {vs : Array Value} (ho : h.get? a = some o) (hd : o.data = .fields vs) : a ≠ env.locals ∧ ∀ y, env.cells.lookup y ≠ some a := by
 obtain ⟨m, hn, _⟩ := F.ex
 refine ⟨fun q => ?_, fun y q => ?_⟩
 ·refine o_xxxaa hn fun o' es ep ho' hd' _ => ?_
  rw [← q, ho] at ho'
  obtain rfl := si ho'
  rw [hd] at hd'
  injection hd'
 ·refine o_xxa (F.cells y a q) fun v o' ho' hd' => ?_
  rw [ho] at ho'
  obtain rfl := si ho'
  rw [hd] at hd'
  injection hd'
theorem not_lam {o : Obj} {vs : Array Value} {T : String} (hc : o.cls = .type T) (hd : o.data = .fields vs) (h1 : ∀ q t, vs[1]? ≠ some (.str q t) := by intro q t e; cases e) : ¬ LamLike o := fun ⟨vs', hd', h⟩ => by
 rw [hd] at hd'
 cases hd'
 rcases h with h | ⟨q, t, h⟩
 ·rw [hc] at h; cases h
 ·exact h1 q t h
theorem At.moves (T : At S n A env xs ρ h0 outer h κ) {it : Addr} {o : Obj} {vs : Array Value} (hit : h.get? it = some o) (hd : o.data = .fields vs) (hnl : ¬ LamLike o) (hnew : h0.get? it = none) (k : ∀ b o, b ≠ it → h.get? b = some o → h'.get? b = some o) : At S n A env xs ρ h0 outer h' κ := by
 have sl : h.UpToSlots h' := fun b ob hb hn => ⟨ob.slots, k b ob (fun q => by subst q; rw [hit] at hb; cases hb; exact hn vs hd) hb⟩
 have ne : ∀ b ob, h0.get? b = some ob → b ≠ it := fun b ob hb q => by rw [q, hnew] at hb; cases hb
 have u : Up h0 h' := ⟨fun b ob hb hn => let ⟨s, hs⟩ := T.up.slots b ob hb hn; ⟨s, k b _ (ne b ob hb) hs⟩, fun b ob hb hi => k b ob (ne b ob hb) (T.up.iters b ob hb hi)⟩
 exact T.next (T.cond.frm.slots sl) u (T.cond.stays.of (fun b ob hb => k b ob (ne b ob (T.ent.st0 b ob hb)) (T.cond.stays.base b ob hb)) fun b ob hb hl => k b ob (fun q => by subst q; rw [hit] at hb; cases hb; exact hnl hl) hb)
end
theorem iterable_no {m : M} (h : notRaw m = true) (env : Env) (x : Value) : foldedSetIterable (toE m) env x = pure x := by
 induction m using M.casesOn with
 | raw e => cases h
 | u o a => induction o <;> rfl
 | b o a b => induction o <;> rfl
 | c o a b c => induction o <;> rfl
 | _ => rfl
theorem pureF_inv {o : Option Out} {k : List Dat → Fl → Option Out} {out : Out} (h : pureF o k = some out) : ∃ ρ f, o = some (.flow ρ f) ∧ k ρ f = some out := by
 induction o with
 | none => cases h
 | some o => induction o with
  | flow ρ f => exact ⟨ρ, f, rfl, h⟩
  | _ => cases h
section
variable {S : Fixed} {t : Tabs} {n : Nat} {ρ : List Dat} {out : Out}
theorem st_for (I : SoundE S t n) (J : ∀ k, k ≤ n → SoundS S t k) {i : Nat} {x : Str} {xp p : Pos} {a b c : M} (h : sFor i (runT t n) ρ a b c = some out) :
  StOk S (n + 1) (toS (.c (.for_ i x xp p) a b c)) (fun sc xs => okSt sc xs (.c (.for_ i x xp p) a b c)) ρ out := by
 intro A env xs s h0 outer Q E hok T P
 have hok' : (okSlot env.scope.names xs (i, x) && okM env.scope.names xs a && okSt env.scope.names xs b && notRaw a && isNil c) = true := hok
 refine via fun Gv kv => ?_
 refine b_LLLLnnnnn hok' fun h1 h2 h3 hr hcn => ?_
 clear hok'
 simp only [okSlot, Bool.and_eq_true, Bool.not_eq_true', beq_eq_false_iff_ne] at h1
 obtain ⟨⟨h1, h4⟩, h5⟩ := h1
 refine kv ?_
 clear kv Gv
 have hk : env.kindOf x = some .local ∨ env.kindOf x = some .cell := by
  rcases isLocal_eq h4 with q | q | q
  ·exact .inl q
  ·exact .inr q
  ·exact absurd q h5
 have T' := T.less (Nat.le_succ n)
 refine one_stmt (wpAny_For (hs := iterable_no hr env) (step_ex h (fun o' ho R PR => I.ex a ρ o' ho A env xs s R E h2 T'.cond PR) (PostF.perr T P) fun d v s₁ _ hd D K => ?_))
 refine o_xa (onTup_inv hd) fun ds q1' hl => ?_
 subst q1'
 refine o_xxaa D.it fun tp vs q hx r => ?_
 subst q
 ·refine wpAny_pyIter_tuple hx ?_
  have T1 := T.keep K
  have B1 := T1.bare
  have sf := bare_soft (S := S) T1.cond.frm
  have hx1 := sf.tup hx
  have r1 := r.soft sf
  have hitNew : (bare env s₁.heap).get? s₁.heap.objs.size = none := bare_none (Heap.get?_none_of_le (Nat.le_refl _))
  have kp := All.push s₁.heap { cls := .type "tuple_iterator", data := .fields #[.ref tp, .int 0 0] }
  have B2 : At S (n + 1) A env xs ρ (bare env s₁.heap) outer (s₁.heap.push { cls := .type "tuple_iterator", data := .fields #[.ref tp, .int 0 0] }) (og s₁) := B1.keep (B1.cond.all kp)
  have up01 : Up h0 (bare env s₁.heap) := bare_up T.ent T1.up
  refine code_hide fun R0 kR => ?_
  refine codeAny_forLoop (it := .ref s₁.heap.objs.size) (fun k s' => ∃ j ρj, k ≤ n ∧ s'.heap.IsTupleIter s₁.heap.objs.size tp j ∧ At S (n + 1) A env xs ρj (bare env s₁.heap) outer s'.heap (og s') ∧
    runT t k (.loop i (ds.drop j) b) ρj = some out) ?_ n ⟨0, ρ, Nat.le_refl _, ⟨_, Heap.get?_push_size _ rfl, rfl, rfl⟩, B2, by rw [List.drop_zero]; exact hl⟩
  intro k s' inv
  refine o_xxaaa inv fun j ρj hkn hit TT hrun => ?_
  clear inv
  induction k using Nat.casesAuxOn with
  | zero => cases hrun
  | succ k =>
   have hx2 : s'.heap.IsTuple tp vs.toArray := up_isTuple TT.up hx1
   have r2 := r1.up TT.up
   induction hdr : ds.drop j using List.casesOn with
   | nil =>
    rw [hdr] at hrun
    cases hrun
    have hjl : ds.length ≤ j := by simpa using hdr
    refine wpAny_pyNext_tuple_end T.cond.handled hit hx2 (by simp [r.length, hjl]) fun h' he => ?_
    refine o_xaa hit fun o ho hc hd => ?_
    clear hit
    have T3 : At S (n + 1) A env xs ρj (bare env s₁.heap) outer h' (og s') := TT.moves ho hd (not_lam hc hd) hitNew he
    exact wpAny_execs_nil (kR _ _ (P _ _ .next T3.cond.frm (up01.trans T3.up) T3.cond.stays))
   | cons d rest =>
    rw [hdr] at hrun
    have hrun' : (forceL (putN d i ρj) fun ρ => pureF (runT t k (.sts b) ρ) fun ρ' fl => onFl fl (runT t k (.loop i rest b) ρ') fun d => some (.flow ρ' (.ret d))) = some out := hrun
    rw [forceL_eq] at hrun'
    refine o_xxa (pureF_inv hrun') fun ρ' fl hb1 hb2 => ?_
    have hdj : ds[j]? = some d := by
     have := congrArg (·[0]?) hdr
     simpa using this
    have hrest : rest = ds.drop (j + 1) := by
     have := congrArg List.tail hdr
     simpa using this.symm
    refine o_xa (r2.get hdj) fun y hy Dy => ?_
    refine wpAny_pyNext_tuple_item hit hx2 (x := y) (by simpa using hy) fun h' hit' hs' => ?_
    refine o_xaa (id hit) fun o ho hcf hdf => ?_
    have T3 : At S (n + 1) A env xs ρj (bare env s₁.heap) outer h' (og s') := TT.moves ho hdf (not_lam hcf hdf) hitNew fun b o hne hb => (hs'.2 b hne).trans hb
    have Dy' : DatH S.Ω h' y d := Dy.soft (Soft.of_slots fun b o hb hn => ⟨o.slots, (hs'.2 b fun q => by subst q; rw [ho] at hb; cases hb; exact hn _ hdf).trans hb⟩)
    refine wpAny_assign_Name (wp_store (s := { s' with heap := h' }) T3.cond.frm T.nd (at?_eq h1) T.cond.kind hk Dy' fun h₂ t₂ F2 O2 => ?_)
    have T4 : At S (n + 1) A env xs (putN d i ρj) (bare env s₁.heap) outer h₂ (og s') := T3.next F2 (own_up T3.ent T3.up O2) (own_stays T3.ent T3.cond.frm T3.cond.stays O2)
    have hit2 : h₂.IsTupleIter s₁.heap.objs.size tp (j + 1) := by
     refine o_xaa (id hit') fun o' ho' hc' hd' => ?_
     have al := T3.cond.frm.alien ho' hd'
     exact ⟨o', O2 _ _ ho' al.1 fun y _ q => al.2 y q, hc', hd'⟩
    have B4 := T4.bare
    have hit4 : (bare env h₂).IsTupleIter s₁.heap.objs.size tp (j + 1) := by
     refine o_xaa (id hit2) fun o' ho' hc' hd' => ?_
     have al := T4.cond.frm.alien ho' hd'
     exact ⟨o', bare_get ho' al.1 fun y _ q => al.2 y q, hc', hd'⟩
    refine (J k (by (exact Nat.le_of_lt ‹_›))).sts b (putN d i ρj) _ hb1 A env xs { s' with heap := h₂, toks := t₂ } (bare env h₂) outer _ _ h3 (B4.less (by lia)) fun g s₃ F1 F3 U3 S3 => ?_
    have up14 : Up (bare env s₁.heap) (bare env h₂) := bare_up T4.ent T4.up
    have T5 : At S (n + 1) A env xs ρ' (bare env s₁.heap) outer s₃.heap (og s₃) := T4.next F3 (up14.trans U3) S3
    induction F1 using FlowIs.casesOn with
    | next =>
     refine ⟨k, Nat.lt_succ_self k, j + 1, ρ', by omega, ?_, T5, by rw [← hrest]; exact hb2⟩
     refine o_xaa hit4 fun o' ho' hc' hd' => ?_
     clear hit4
     exact ⟨o', U3.iters _ _ ho' ⟨by rw [hc']; rfl, _, hd'⟩, hc', hd'⟩
    | ret Dv =>
     cases hb2
     exact kR (.ok (.ret _)) _ (P _ _ (.ret Dv) T5.cond.frm (up01.trans T5.up) T5.cond.stays)
end
end
section
open PySem PySem.W PySem.SeqAt
variable {κ κ' : OG}
section
variable {S : Fixed} {t : Tabs} {n : Nat} {ρ : List Dat} {out : Out} {fa : Nat → Addr} {mg mb : Str → Option Value}
theorem st_rng (G : Globs S t fa mg mb) (J : ∀ k, k ≤ n → SoundS S t k) (e1 : mg (Str.ofString "range") = none) (e2 : mb (Str.ofString "range") = some (.type "range"))
  {i : Nat} {x : Str} {m : Nat} {xp rp cp np p : Pos} {nk : Nat} {b c : M} (h : sRng i m (runT t n) ρ b c = some out) :
  StOk S (n + 1) (toS (.b (.rng i x m xp rp cp np p nk) b c)) (fun sc xs => okSt sc xs (.b (.rng i x m xp rp cp np p nk) b c)) ρ out := by
 intro A env xs s h0 outer Q E hok T P
 have hok' : (okSlot env.scope.names xs (i, x) && okGlob env.scope.names (Str.ofString "range") && okSt env.scope.names xs b && Nat.ble m 4095) = true := hok
 refine via fun Gv kv => ?_
 refine b_LLLnnnn hok' fun h1 h2 h3 hm => ?_
 clear hok'
 have hm := Nat.le_of_ble_eq_true hm
 simp only [okSlot, Bool.and_eq_true, Bool.not_eq_true', beq_eq_false_iff_ne] at h1
 obtain ⟨⟨h1, h4⟩, h5⟩ := h1
 refine kv ?_
 clear kv Gv
 have hk : env.kindOf x = some .local ∨ env.kindOf x = some .cell := by
  rcases isLocal_eq h4 with q | q | q
  ·exact .inl q
  ·exact .inr q
  ·exact absurd q h5
 have hl : runT t n (.loop i (rangeD m 0) b) ρ = some out := by
  have h' : (forceL (rangeD m 0) fun ds => runT t n (.loop i ds b) ρ) = some out := h
  rwa [forceL_eq] at h'
 refine one_stmt (wpAny_For (hs := fun _ => rfl) (wpAny_Call_ofName (name_builtin G T.cond h2 e1 e2 (callWith_excType rfl ?_))))
 refine Calls.evalArgs_plain (Calls.spliced_cons (wpAny_Constant_int (k := nk) (pos := cp) (Calls.spliced_nil ?_)))
 refine call_range_1 ?_
 let s₁ : Shared := { s with heap := s.heap.push { cls := .type "range", data := .fields #[.int 0 (s.toks + 1), .int (.ofNat m) s.toks, .int 1 (s.toks + 1 + 1)] }, toks := s.toks + 1 + 1 + 1 }
 show wpAny S.M A (pyIter (.ref s.heap.objs.size)) _ E s₁
 have hrange : Builtin.Range.rangeSize 0 (Int.ofNat m) 1 = (m : Int) := by
  rw [rangeSize_one]
  show (if (0 : Int) < (m : Int) then (m : Int) - 0 else 0) = m
  split <;> (simp_all +arith)
 refine wpAny_pyIter_range (s := s₁) (IsRange.new _ _ _ _ _ _ _) (small_one (by decide) (by decide) (by show -(2 ^ 62) ≤ (m : Int); (simp_all +arith)) (by show (m : Int) < 2 ^ 62; lia)) ?_
 rw [hrange]
 have T1 : At S (n + 1) A env xs ρ h0 outer s₁.heap (og s₁) := T.keep (T.cond.all (All.push _ _))
 have B1 := T1.bare
 have hitNew : (bare env s₁.heap).get? s₁.heap.objs.size = none := bare_none (Heap.get?_none_of_le (Nat.le_refl _))
 have kp := All.push s₁.heap { cls := .type "range_iterator", data := .fields #[rawInt 0, rawInt (m : Int), rawInt 1] }
 have B2 : At S (n + 1) A env xs ρ (bare env s₁.heap) outer (s₁.heap.push { cls := .type "range_iterator", data := .fields #[rawInt 0, rawInt (m : Int), rawInt 1] }) (og s₁) := B1.keep (B1.cond.all kp)
 have up01 : Up h0 (bare env s₁.heap) := bare_up T.ent T1.up
 refine code_hide fun R0 kR => ?_
 refine codeAny_forLoop (it := .ref s₁.heap.objs.size) (fun k s' => ∃ j ρj, k ≤ n ∧ j ≤ m ∧ IsRangeIter s'.heap s₁.heap.objs.size (j : Int) ((m : Int) - (j : Int)) 1 ∧ At S (n + 1) A env xs ρj (bare env s₁.heap) outer s'.heap (og s') ∧
   runT t k (.loop i (rangeD (m - j) j) b) ρj = some out) ?_ n ⟨0, ρ, Nat.le_refl _, Nat.zero_le _, Heap.get?_push_size _ rfl, B2, hl⟩
 intro k s' inv
 refine o_xxaaaa inv fun j ρj hkn hjm hit TT hrun => ?_
 clear inv
 induction k using Nat.casesAuxOn with
 | zero => exact nn hrun
 | succ k =>
  by_cases hlt : j < m
  ·obtain ⟨r, hr⟩ : ∃ r, m - j = r + 1 := ⟨m - j - 1, by lia⟩
   rw [hr] at hrun
   have hrun' : (forceL (putN (.int (.ofNat j)) i ρj) fun ρ => pureF (runT t k (.sts b) ρ) fun ρ' fl => onFl fl (runT t k (.loop i (rangeD r (j + 1)) b) ρ') fun d => some (.flow ρ' (.ret d))) = some out := hrun
   rw [forceL_eq] at hrun'
   refine o_xxa (pureF_inv hrun') fun ρ' fl hb1 hb2 => ?_
   refine wpAny_pyNext_range_item hit (by (simp_all +arith)) fun h' hit' hs' => ?_
   have T3 : At S (n + 1) A env xs ρj (bare env s₁.heap) outer h' (og s') := TT.moves hit rfl (not_lam rfl rfl) hitNew fun b o hne hb => (hs'.2 b hne).trans hb
   refine wpAny_assign_Name (wp_store (d := .int (.ofNat j)) (s := { s' with heap := h', toks := s'.toks + 1 }) T3.cond.frm T.nd (at?_eq h1) T.cond.kind hk (.int _ _) fun h₂ t₂ F2 O2 => ?_)
   have T4 : At S (n + 1) A env xs (putN (.int (.ofNat j)) i ρj) (bare env s₁.heap) outer h₂ (og s') := T3.next F2 (own_up T3.ent T3.up O2) (own_stays T3.ent T3.cond.frm T3.cond.stays O2)
   have hit2 : IsRangeIter h₂ s₁.heap.objs.size ((j : Int) + 1) ((m : Int) - (j : Int) - 1) 1 := by
    have al := T3.cond.frm.alien hit' rfl
    exact O2 _ _ hit' al.1 fun y _ q => al.2 y q
   have B4 := T4.bare
   have hit4 : IsRangeIter (bare env h₂) s₁.heap.objs.size ((j : Int) + 1) ((m : Int) - (j : Int) - 1) 1 := by
    have al := T4.cond.frm.alien hit2 rfl
    exact bare_get hit2 al.1 fun y _ q => al.2 y q
   refine (J k (by (exact Nat.le_of_lt ‹_›))).sts b (putN (.int (.ofNat j)) i ρj) _ hb1 A env xs { s' with heap := h₂, toks := t₂ } (bare env h₂) outer _ _ h3 (B4.less (by lia)) fun g s₃ F1 F3 U3 S3 => ?_
   have up14 : Up (bare env s₁.heap) (bare env h₂) := bare_up T4.ent T4.up
   have T5 : At S (n + 1) A env xs ρ' (bare env s₁.heap) outer s₃.heap (og s₃) := T4.next F3 (up14.trans U3) S3
   induction F1 using FlowIs.casesOn with
   | next =>
    refine ⟨k, Nat.lt_succ_self k, j + 1, ρ', by omega, hlt, ?_, T5, by rw [show m - (j + 1) = r by lia]; exact hb2⟩
    have e1 : ((j + 1 : Nat) : Int) = (j : Int) + 1 := by rfl
    have e2 : (m : Int) - ((j + 1 : Nat) : Int) = (m : Int) - (j : Int) - 1 := by (simp_all +arith)
    rw [e2, e1]
    exact U3.iters _ _ hit4 ⟨rfl, _, rfl⟩
   | ret Dv =>
    obtain rfl := si hb2
    exact kR (.ok (.ret _)) _ (P _ _ (.ret Dv) T5.cond.frm (up01.trans T5.up) T5.cond.stays)
  ·have hj : m - j = 0 := by (simp_all +arith)
   rw [hj] at hrun
   obtain rfl := si hrun
   refine wpAny_pyNext_range_end T.cond.handled hit (by lia) fun h' he => ?_
   have T3 : At S (n + 1) A env xs ρj (bare env s₁.heap) outer h' (og s') := TT.moves hit rfl (not_lam rfl rfl) hitNew he
   exact wpAny_execs_nil (kR _ _ (P _ _ .next T3.cond.frm (up01.trans T3.up) T3.cond.stays))
end
end
section
set_option backward.match.sparseCases false
open PySem PySem.W PySem.SeqAt
variable {κ κ' : OG}
theorem star_plain {m : M} (h : notRaw m = true) (rest : List Expr) (env : Env) : starEach (toE m :: rest) env = (false, eval (toE m) env) :: starEach rest env := by
 induction m using M.casesOn with
 | raw e => exact ft h
 | u o a => induction o <;> rfl
 | b o a b => induction o <;> rfl
 | c o a b c => induction o <;> rfl
 | _ => rfl
theorem plain_args : ∀ (a : M) (p : Pos) (env : Env), allPlain a = true → (backTo p (starEach (toEs a) env)).any (·.1) = false
 | .nil, _, _, _ => rfl
 | .cons e r, p, env, h => by
  refine b_Lnn (show (notRaw e && allPlain r) = true from h) fun h1 h2 => ?_
  have ih := plain_args r p env h2
  show (backTo p (starEach (toE e :: toEs r) env)).any (·.1) = false
  rw [star_plain h1]
  show (false || (backTo p (starEach (toEs r) env)).any (·.1)) = false
  rw [ih]
  rfl
 | .lit _ _ _, _, _, _ => rfl
 | .var _ _ _, _, _, _ => rfl
 | .gl _ _ _, _, _, _ => rfl
 | .u _ _, _, _, _ => rfl
 | .b _ _ _, _, _, _ => rfl
 | .c _ _ _ _, _, _, _ => rfl
 | .raw _, _, _, _ => rfl
 | .rawS _, _, _, _ => rfl
noncomputable def Bi.val : Bi → Value
 | .abs => .builtin "abs" | .int => .type "int" | .max => .builtin "max" | .min => .builtin "min" | .len => .builtin "len" | .list => .type "list" | .bytes => .type "bytes"
noncomputable def Ty.tname : Ty → String | .bool => "bool" | .bytes => "bytes" | .int => "int"
structure Blts (mg mb : Str → Option Value) : Prop where
 bi : ∀ f : Bi, mg f.name = none ∧ mb f.name = some f.val
 ty : ∀ T : Ty, mg T.name = none ∧ mb T.name = some (.type T.tname)
 isi : mg (Str.ofString "isinstance") = none ∧ mb (Str.ofString "isinstance") = some (.builtin "isinstance")
inductive BiC : Bi → Dat → List Dat → Prop
 | abs (i : Int) : BiC .abs (.int (absI i)) [.int i]
 | int (b : Bool) : BiC .int (.int (match b with | true => 1 | false => 0)) [.bool b]
 | max (i j : Int) : BiC .max (.int (match Z.ltB i j with | true => j | false => i)) [.int i, .int j]
 | min (i j : Int) : BiC .min (.int (match Z.ltB j i with | true => j | false => i)) [.int i, .int j]
theorem biD_1 {f : Bi} {ds : List Dat} {d : Dat} (hf : f = .abs ∨ f = .int) (e : builtinD f ds = some d) : BiC f d ds := by
 induction ds using List.casesOn with
 | nil => rcases hf with rfl | rfl <;> exact nn e
 | cons a r => induction r using List.casesOn with
  | nil =>
   rcases hf with rfl | rfl
   ·induction a using Dat.casesOn with
    | int i => obtain rfl := si e; exact .abs _
    | _ => exact nn e
   ·induction a using Dat.casesOn with
    | bool i => obtain rfl := si e; exact .int _
    | _ => exact nn e
  | cons b r => rcases hf with rfl | rfl <;> induction a using Dat.casesOn <;> exact nn e
theorem biD_2 {f : Bi} {ds : List Dat} {d : Dat} (hf : f = .max ∨ f = .min) (e : builtinD f ds = some d) : BiC f d ds := by
 induction ds using List.casesOn with
 | nil => rcases hf with rfl | rfl <;> exact nn e
 | cons a r => induction a using Dat.casesOn with
  | int i => induction r using List.casesOn with
   | nil => rcases hf with rfl | rfl <;> exact nn e
   | cons b r => induction b using Dat.casesOn with
    | int j => induction r using List.casesOn with
     | nil =>
      rcases hf with rfl | rfl
      ·obtain rfl := si e; exact .max _ _
      ·obtain rfl := si e; exact .min _ _
     | cons _ _ => rcases hf with rfl | rfl <;> exact nn e
    | _ => rcases hf with rfl | rfl <;> exact nn e
  | _ => rcases hf with rfl | rfl <;> exact nn e
theorem biD_c {f : Bi} {ds : List Dat} {d : Dat} (hf : f = .abs ∨ f = .int ∨ f = .max ∨ f = .min) (e : builtinD f ds = some d) : BiC f d ds := by
 rcases hf with h | h | h | h
 ·exact biD_1 (.inl h) e
 ·exact biD_1 (.inr h) e
 ·exact biD_2 (.inl h) e
 ·exact biD_2 (.inr h) e
section
variable {prog : Program} {w : World} {A : Around} {E : Value → Shared → Prop} {s : Shared} {Q : Value → Shared → Prop} {Ω : Nat → Value}
theorem bi_sound {f : Bi} {vs : List Value} {ds : List Dat} {d : Dat} (hf : f = .abs ∨ f = .int ∨ f = .max ∨ f = .min) (hh : A.handled = none) (D : DatsH Ω s.heap vs ds) (e : builtinD f ds = some d)
  (h : ∀ r h' tk, DatH Ω h' r d → All s.heap h' → Q r { s with heap := h', toks := tk }) : wpAny (model prog w) A (call f.val vs) Q E s := by
 induction biD_c hf e using BiC.casesOn with
 | abs i =>
  refine o_xa D.i1 fun v q a => ?_
  subst q
  obtain ⟨t, rfl⟩ := a.ii
  refine PyProof.Rows.call_abs_int fun u tk => h _ _ _ ?_ (All.refl _)
  have : (if i < 0 then -i else i) = absI i := by
   induction i with
   | ofNat k => rw [if_neg (by show ¬ (k : Int) < 0; (simp [*]))]; rfl
   | negSucc k => rw [if_pos (by (simp_all +arith))]; rfl
  rw [this]
  exact .int _ _
 | int b =>
  refine o_xa D.i1 fun v q a => ?_
  subst q
  obtain rfl := a.ib
  refine call_int_bool (h _ _ _ ?_ (All.refl _))
  induction b <;> exact .int _ _
 | max i j =>
  refine o_xxaa D.i2 fun v w q a b => ?_
  subst q
  obtain ⟨t, rfl⟩ := a.ii
  obtain ⟨u, rfl⟩ := b.ii
  ··refine max_two_ints hh fun h' tk hk => h _ _ _ ?_ hk
    induction hb : Z.ltB i j with
    | true => rw [if_pos ((Z.ltB_iff i j).mp hb)]; exact .int _ _
    | false => rw [if_neg (fun q => by rw [(Z.ltB_iff i j).mpr q] at hb; exact tf hb)]; exact .int _ _
 | min i j =>
  refine o_xxaa D.i2 fun v w q a b => ?_
  subst q
  obtain ⟨t, rfl⟩ := a.ii
  obtain ⟨u, rfl⟩ := b.ii
  ··refine min_two_ints hh fun h' tk hk => h _ _ _ ?_ hk
    induction hb : Z.ltB j i with
    | true => rw [if_pos ((Z.ltB_iff j i).mp hb)]; exact .int _ _
    | false => rw [if_neg (fun q => by rw [(Z.ltB_iff j i).mpr q] at hb; exact tf hb)]; exact .int _ _
end
end
section
open PySem PySem.W PySem.SeqAt
variable {κ κ' : OG}
theorem sub_bb : isSubtype (.type "bytes") (.type "bool") = pure false := by rw [isSubtype_type]; kernel_rfl
theorem sub_bi : isSubtype (.type "bytes") (.type "int") = pure false := by rw [isSubtype_type]; kernel_rfl
theorem isinstance_false_bytes {b : Array UInt8} {u : Tok} {T : String} (hne : (Value.type "bytes" == Value.type T) = false) (hty : typeOf (.type T) = pure (.type "type")) (hsub : isSubtype (.type "bytes") (.type T) = pure false) :
  Meets (Builtin.«isinstance» ⟨[.bytes b u, .type T], []⟩) (fun _ R s => R (.ok (.ret (.bool false))) { s with toks := s.toks + 1 }) :=
 fun _ _ _ _ s hs => by
  refine via fun Gv kv => ?_
  obtain ⟨h, g, d, t, os⟩ := s
  refine kv ?_
  clear kv Gv
  exact isinstance_outer (isinstance_nested_false_bytes hne hty hsub hs)
section
variable {prog : Program} {w : World} {A : Around} {E : Value → Shared → Prop} {s : Shared} {Q : Value → Shared → Prop} {Ω : Nat → Value}
theorem isi_sound {T : Ty} {v : Value} {d : Dat} {b : Bool} (D : DatH Ω s.heap v d) (e : isinst T d = some b) (h : ∀ tk, Q (.bool b) { s with toks := tk }) : wpAny (model prog w) A (call (.builtin "isinstance") [v, .type T.tname]) Q E s := by
 induction T with
 | bool => induction D using DatH.casesOn with
  | bool p => obtain rfl := si e; exact IsiPair.bool_bool (h _)
  | int i t => obtain rfl := si e; exact IsiPair.int_bool (h _)
  | bytes x t => obtain rfl := si e; exact call_isinstance (isinstance_false_bytes (by decide +kernel) F.isi_meta_bool sub_bb) (h _)
  | _ => exact nn e
 | bytes => induction D using DatH.casesOn with
  | bool p => obtain rfl := si e; exact IsiPair.bool_bytes (h _)
  | int i t => obtain rfl := si e; exact IsiPair.int_bytes (h _)
  | bytes x t => obtain rfl := si e; exact call_isinstance (isinstance_true (Tx := "bytes") F.isi_meta_bytes F.sub_bytes_bytes) ⟨rfl, h _⟩
  | _ => exact nn e
 | int => induction D using DatH.casesOn with
  | bool p => obtain rfl := si e; exact IsiPair.bool_int (h _)
  | int i t => obtain rfl := si e; exact IsiPair.int_int (h _)
  | bytes x t => obtain rfl := si e; exact call_isinstance (isinstance_false_bytes (by decide +kernel) F.isi_meta_int sub_bi) (h _)
  | _ => exact nn e
end
section
variable {S : Fixed} {t : Tabs} {n : Nat} {ρ : List Dat} {out : Out} {fa : Nat → Addr} {mg mb : Str → Option Value}
theorem ex_isi (I : SoundE S t n) (G : Globs S t fa mg mb) (B : Blts mg mb) {T : Ty} {np tp p : Pos} {a : M} (h : uIsi T (runT t n) ρ a = some out) : ExOk S (n + 1) (.u (.isi T np tp p) a) ρ out := by
 intro A env xs s Q E hok C P
 refine via fun Gv kv => ?_
 refine b_Lnn (show (okM env.scope.names xs a && (okGlob env.scope.names (Str.ofString "isinstance") && okGlob env.scope.names T.name && notRaw a)) = true from hok) fun ha hu => ?_
 refine b_LLnnn hu fun h1 h2 h3 => ?_
 clear hu
 refine kv ?_
 clear kv Gv
 have C' := C.less (Nat.le_succ n)
 refine wpAny_Call_ofName (name_builtin G C h1 B.isi.1 B.isi.2 ?_)
 have hs : starEach [toE a, .Name T.name tp] env = [(false, eval (toE a) env), (false, eval (.Name T.name tp) env)] := by rw [star_plain h3]; rfl
 rw [hs]
 refine Calls.callWith_builtin rfl (Calls.evalArgs_plain (Calls.spliced_cons ?_))
 refine step_ex h (fun o' ho R PR => I.ex a ρ o' ho A env xs s R E ha C' PR) P.perr fun d v s₁ _ hk D K => ?_
 refine Calls.spliced_cons (name_builtin G (C.keep K) h2 (B.ty T).1 (B.ty T).2 (Calls.spliced_nil ?_))
 refine o_xa (bool?_inv hk) fun b hb q2' => ?_
 subst q2'
 refine isi_sound D hb fun tk => P _ { s₁ with toks := tk } (.bool b) K
theorem ex_bi (I : SoundE S t n) (G : Globs S t fa mg mb) (B : Blts mg mb) {f : Bi} (hf : f = .abs ∨ f = .int ∨ f = .max ∨ f = .min) {np p : Pos} {a : M} (h : uBi f (runT t n) ρ a = some out) : ExOk S (n + 1) (.u (.bi f np p) a) ρ out := by
 intro A env xs s Q E hok C P
 refine via fun Gv kv => ?_
 refine b_Lnn (show (okM env.scope.names xs a && (okGlob env.scope.names f.name && some1 a && allPlain a)) = true from hok) fun ha hu => ?_
 refine b_LLnnn hu fun h1 h2 h3 => ?_
 clear hu
 refine kv ?_
 clear kv Gv
 have C' := C.less (Nat.le_succ n)
 refine wpAny_Call_ofName (name_builtin G C h1 (B.bi f).1 (B.bi f).2 ?_)
 have fin : ∀ ds vs s₁, val? (builtinD f ds) = some out → DatsH S.Ω s₁.heap vs ds → Keep S s.heap s₁.heap (og s₁) → wpAny S.M A (call f.val ([] ++ vs) []) Q E s₁ := fun ds vs s₁ hk D K => by
  refine o_xa (val?_inv hk) fun d hd q2' => ?_
  subst q2'
  exact bi_sound hf C.handled D hd fun r h' tk Dr k => P r _ Dr (K.trans ((C.keep K).all k))
 rcases hf with rfl | rfl | rfl | rfl
 ·exact Calls.callWith_builtin (plain_args a p env h3) (args_at I h h2 ha C' P.perr fin)
 ·exact callWith_excType (plain_args a p env h3) (args_at I h h2 ha C' P.perr fin)
 ·exact Calls.callWith_builtin (plain_args a p env h3) (args_at I h h2 ha C' P.perr fin)
 ·exact Calls.callWith_builtin (plain_args a p env h3) (args_at I h h2 ha C' P.perr fin)
end
end
section
set_option backward.match.sparseCases false
open PySem PySem.W PySem.SeqAt
open PyProof.Rows (subscriptTail)
variable {κ κ' : OG}
noncomputable def STab (prog : Program) (w : World) (h : Heap) (a : Addr) (f : Str → Option Value) : Prop :=
 ∃ o es ep, h.get? a = some o ∧ o.cls = .type "dict" ∧ o.data = .dict es ep ∧ KeysOf (strKind prog w) es ∧ ∀ k, findBy (strKind prog w).is es k = f k
theorem STab.up {prog : Program} {w : World} {h h' : Heap} {a : Addr} {f : Str → Option Value} (k : Up h h') (x : STab prog w h a f) : STab prog w h' a f := by
 refine o_xxxaaa x fun o es ep ho hc hd r => ?_
 clear x
 obtain ⟨sl, hs⟩ := k.slots a o ho fun vs q => by rw [hd] at q; injection q
 exact ⟨_, es, ep, hs, hc, hd, r⟩
section
variable {prog : Program} {w : World} {A : Around} {E : Value → Shared → Prop} {s : Shared} {d : Addr} {f : Str → Option Value} {x : Str} {tk : Tok}
theorem STab.typeIs (m : STab prog w s.heap d f) : s.TypeIs (.ref d) "dict" := let ⟨o, _, _, ho, hc, _⟩ := m; ⟨o, ho, hc⟩
theorem stab_dictGet {Q : Option Value → Shared → Prop} (m : STab prog w s.heap d f) (h : Q (f x) { s with toks := s.toks + 1 }) : wpAny (model prog w) A (PySem.dictGet d (.str x tk)) Q E s := by
 refine o_xxxaaaa m fun o es ep ho _ hd hk hf => ?_
 clear m
 have hkey : (strKind prog w).is x (.str x tk) = true := by show Value.isStrOf x (.str x tk) = true; simp [Value.isStrOf]
 unfold PySem.dictGet
 try with_reducible refine wpAny_holding ?_
 refine wpAny_bind ((strKind prog w).pyHash hkey (wpAny_bind (wpAny_dictFind_of (s := { s with toks := s.toks + 1 }) hkey ho hd hk ?_)))
 rw [← hf x, findBy_of_findIdx?] at h
 induction hi : es.findIdx? fun e => (strKind prog w).is x e.key with
 | none => rw [hi] at h; exact wpAny_pure h
 | some i => rw [hi] at h; exact wpAny_bind (wpAny_dictEntries (s := { s with toks := s.toks + 1 }) ho hd (wpAny_pure h))
theorem stab_getItem {v : Value} {Q : Value → Shared → Prop} (m : STab prog w s.heap d f) (hv : f x = some v) (h : Q v { s with toks := s.toks + 1 }) : wpAny (model prog w) A (getItem (.ref d) (.str x tk)) Q E s := by
 unfold getItem
 try with_reducible refine wpAny_holding ?_
 refine wpAny_bind (wpAny_sequenceKey m.typeIs (by decide) ?_)
 refine wpAny_bind (wpAny_callSpecial?_slot (name := Str.ofString "__getitem__") m.typeIs slot_dict_getitem
  (wpAny_call_entry slot_dict_getitem m.typeIs entry_dict_getitem ?_ (args_dict_getitem _ _)))
 show wpAny _ _ (PySem.dictGet d (.str x tk) >>= _) _ _ s
 refine wpAny_bind (stab_dictGet m ?_)
 rw [hv]
 exact wpAny_pure ⟨v, rfl, wpAny_pure h⟩
end
theorem look_sound {Ω : Nat → Value} {h : Heap} {x : Str} (ox : okS x) : ∀ (us : List (Str × Value)) (vs : List Dat) {o : Option Dat}, (∀ p ∈ us, okS p.1) → DatsH Ω h (us.map (·.2)) vs →
  dictGet (.str (codeS x)) (us.map fun p => .str (codeS p.1)) vs = some o → match o with | some d => ∃ u, us.lookup x = some u ∧ DatH Ω h u d | none => us.lookup x = none
 | [], _, o, _, _, e => by
  have e' : some none = some o := e
  obtain rfl := si e'
  rfl
 | (y, u) :: us, _, o, hok, .cons (ds := vs) Du Dr, e => by
  have e' : (match eqD (.str (codeS y)) (.str (codeS x)) with | some q => (match q with | true => some (some _) | false => dictGet (.str (codeS x)) (us.map fun p => .str (codeS p.1)) vs) | none => none) = some o := e
  have hq : eqD (.str (codeS y)) (.str (codeS x)) = some (y == x) := by
   show some (Nat.beq (codeS y) (codeS x)) = _
   rw [str_code (hok _ (.head _)) ox]
  rw [hq] at e'
  by_cases hyx : y = x
  ·subst hyx
   rw [beq_self_eq_true] at e'
   obtain rfl := si e'
   exact ⟨u, by rw [List.lookup_cons]; simp, Du⟩
  ·have hb : (y == x) = false := beq_eq_false_iff_ne.mpr hyx
   have hb' : (x == y) = false := beq_eq_false_iff_ne.mpr (Ne.symm hyx)
   rw [hb] at e'
   rw [List.lookup_cons, hb']
   exact look_sound ox us vs (fun q hq => hok q (.tail _ hq)) Dr e'
end
section
open PySem PySem.W PySem.SeqAt
open PyProof.Rows (subscriptTail Subscript_)
variable {κ κ' : OG}
noncomputable def TabIs (S : Fixed) (mg : Str → Option Value) (x : Str) (ks vs : List Dat) : Prop :=
 ∃ (T : Addr) (us : List (Str × Value)), mg x = some (.ref T) ∧ STab S.prog S.w S.B0 T (fun k => us.lookup k) ∧ (∀ p ∈ us, okS p.1) ∧ ks = (us.map fun p => Dat.str (codeS p.1)) ∧ DatsH S.Ω S.B0 (us.map (·.2)) vs
theorem look_inv {k : Dat} {ks vs : List Dat} {out : Out} (h : look k ks vs = some out) : ∃ c d, k = .str c ∧ dictGet (.str c) ks vs = some (some d) ∧ out = .val d := by
 induction k using Dat.casesOn with
 | str c =>
  have h' : (match dictGet (.str c) ks vs with | some o => val? o | none => none) = some out := h
  induction hd : dictGet (.str c) ks vs with
  | none => rw [hd] at h'; exact nn h'
  | some o =>
   rw [hd] at h'
   refine o_xa (val?_inv h') fun d q1' q2' => ?_
   subst q1'
   subst q2'
   exact ⟨c, d, rfl, hd, rfl⟩
 | _ => exact nn h
theorem datStr {Ω : Nat → Value} {h : Heap} {v : Value} {c : Nat} (D : DatH Ω h v (.str c)) : ∃ x t, v = .str x t ∧ c = codeS x ∧ okS x := by
 cases D with
 | str x t o => exact ⟨x, t, rfl, rfl, o⟩
section
variable {S : Fixed} {t : Tabs} {n : Nat} {ρ : List Dat} {out : Out} {fa : Nat → Addr} {mg mb : Str → Option Value}
theorem ex_tab (I : SoundE S t n) (G : Globs S t fa mg mb) {x : Str} {ks vs : List Dat} (B : TabIs S mg x ks vs) {np p : Pos} {a : M} (h : (andO (runT t n (.ex a) ρ) fun k => look k ks vs) = some out)
  {A : Around} {env : Env} {xs : List Str} {s : Shared} {Q E : Value → Shared → Prop} (ha : okM env.scope.names xs a = true) (hx : okGlob env.scope.names x = true) (C : Cond S (n + 1) A env xs ρ s.heap (og s)) (P : PostE S out s.heap Q E) :
  wpAny S.M A (eval (.Subscript (.Name x np) (toE a) p) env) Q E s := by
 refine o_xxaaaa B fun T us e1 e2 e3 e4 e5 => ?_
 clear B
 have C' := C.less (Nat.le_succ n)
 refine Subscript_ (name_top G C hx e1 (step_ex h (fun o' ho R PR => I.ex a ρ o' ho A env xs s R E ha C' PR) P.perr fun k v s₁ _ hk D K => ?_))
 refine o_xxaa (look_inv hk) fun c d q2' hd q4' => ?_
 subst q2'
 subst q4'
 refine o_xxaa (datStr D) fun y tk q2' q3' oy => ?_
 subst q2'
 subst q3'
 rw [e4] at hd
 have up : Up S.B0 s₁.heap := Up.of_all K.stays.base
 refine o_xa (look_sound oy us vs e3 (e5.up up) hd) fun u hu Du => ?_
 have m := e2.up up
 exact sub_tail m.typeIs slot_dict_getitem.lookup (stab_getItem m hu (P u _ Du K))
theorem ex_gbits (I : SoundE S t n) (G : Globs S t fa mg mb) (B : TabIs S mg (Str.ofString "BITS") bitsKs bitsVs) {np p : Pos} {a : M} (h : uGb (runT t n) ρ a = some out) : ExOk S (n + 1) (.u (.gbits np p) a) ρ out := by
 intro A env xs s Q E hok C P
 refine b_Lnn (show (okM env.scope.names xs a && okGlob env.scope.names (Str.ofString "BITS")) = true from hok) fun ha hx => ?_
 exact ex_tab I G B h ha hx C P
theorem ex_gdflt (I : SoundE S t n) (G : Globs S t fa mg mb) (B : TabIs S mg (Str.ofString "UNTYPED_DEFAULTS") dfltKs dfltVs) {np p : Pos} {a : M} (h : uGd (runT t n) ρ a = some out) : ExOk S (n + 1) (.u (.gdflt np p) a) ρ out := by
 intro A env xs s Q E hok C P
 refine b_Lnn (show (okM env.scope.names xs a && okGlob env.scope.names (Str.ofString "UNTYPED_DEFAULTS")) = true from hok) fun ha hx => ?_
 exact ex_tab I G B h ha hx C P
end
end
section
open PySem PySem.W PySem.SeqAt
variable {κ κ' : OG}
noncomputable def STabS (prog : Program) (w : World) (h : Heap) (a : Addr) (f : Str → Option Value) (n : Nat) : Prop :=
 ∃ o es ep, h.get? a = some o ∧ o.cls = .type "dict" ∧ o.data = .dict es ep ∧ (KeysOf (strKind prog w) es ∧ ∀ k, findBy (strKind prog w).is es k = f k) ∧ es.size ≤ n ∧ o.dict = none
theorem STabS.tab {prog : Program} {w : World} {h : Heap} {a : Addr} {f : Str → Option Value} {n : Nat} (x : STabS prog w h a f n) : STab prog w h a f := by
 refine o_xxxaaaa x fun o es ep ho hc hd r _ => ?_
 clear x
 exact ⟨o, es, ep, ho, hc, hd, r⟩
theorem STabS.slots {prog : Program} {w : World} {h h' : Heap} {a : Addr} {f : Str → Option Value} {n : Nat} (k : h.UpToSlots h') (x : STabS prog w h a f n) : STabS prog w h' a f n := by
 refine o_xxxaaa x fun o es ep ho hc hd r => ?_
 clear x
 obtain ⟨sl, hs⟩ := k a o ho fun vs q => by rw [hd] at q; injection q
 exact ⟨_, es, ep, hs, hc, hd, r⟩
theorem STabS.new {prog : Program} {w : World} (h : Heap) : STabS prog w (h.push { cls := .type "dict", data := .dict #[] }) h.objs.size (fun _ => none) 0 :=
 ⟨_, #[], 0, Heap.get?_push_size _ rfl, rfl, rfl, ⟨fun _ he => by simp at he, fun _ => rfl⟩, Nat.le_refl _, rfl⟩
section
variable {prog : Program} {w : World} {A : Around} {E : Value → Shared → Prop} {s : Shared} {d : Addr} {f : Str → Option Value} {x : Str} {tk : Tok}
theorem stab_set {v : Value} {n : Nat} {Q : Unit → Shared → Prop} (m : STabS prog w s.heap d f n) (hn : n < 4096)
  (hQ : ∀ h', STabS prog w h' d (fun y => if y = x then some v else f y) (n + 1) → Heap.SameBut d s.heap h' → Q () { s with heap := h', toks := s.toks + 1 }) : wpAny (model prog w) A (dictSet d (.str x tk) v) Q E s := by
 refine o_xxxaaaaa m fun o es ep ho hc hd r6' hz hdn => ?_
 clear m
 obtain ⟨hk, hf⟩ := r6'
 have hkey : (strKind prog w).is x (.str x tk) = true := by show Value.isStrOf x (.str x tk) = true; simp [Value.isStrOf]
 unfold dictSet
 try with_reducible refine wpAny_holding ?_
 refine wpAny_bind ((strKind prog w).pyHash hkey ?_)
 unfold dictSetHashed
 try with_reducible refine wpAny_holding ?_
 refine wpAny_bind (wpAny_dictFind_of (s := { s with toks := s.toks + 1 }) hkey ho hd hk ?_)
 induction hi : es.findIdx? fun e => (strKind prog w).is x e.key with
 | some i =>
  refine wpAny_bind (wpAny_rule (wpAny_bind (wpAny_updateDict (s := { s with toks := s.toks + 1 }) ho hd (wpAny_point (hQ _ ⟨_, _, ep, Heap.get?_update_self _ ho (Obj.isFreed_of_dict (Obj.data_mapDict hd _)),
   ?_, Obj.data_mapDict hd _, ⟨hk.modify _ _, fun y => ?_⟩, ?_, ?_⟩ (Heap.SameBut.update ..))))))
  ·obtain ⟨c, dd, dt, sl⟩ := o
   induction dt <;> exact hc
  ·rw [findBy_modify (strKind prog w).is (strKind prog w).inj es x y v i hi, hf]
  ·rw [Array.size_modify]; lia
  ·obtain ⟨c, dd, dt, sl⟩ := o
   induction dt <;> exact hdn
 | none =>
  refine wpAny_bind (wpAny_rule (wpAny_updateDictKeys (hz := by show es.size ≤ 2 ^ 24; lia) (s := { s with toks := s.toks + 1 }) ho hd (hQ _ ⟨_, _, ep + 1, Heap.get?_update_self _ ho (Obj.isFreed_of_dict (Obj.data_mapDictKeys hd _)),
   ?_, Obj.data_mapDictKeys hd _, ⟨hk.push hkey _, fun y => ?_⟩, ?_, ?_⟩ (Heap.SameBut.update ..))))
  ·obtain ⟨c, dd, dt, sl⟩ := o
   induction dt <;> exact hc
  ·rw [findBy_push (strKind prog w).is es x y _ _ v (KeyKind.is_eq_decide hkey) hi, hf]
  ·rw [Array.size_push]; (simp +arith at *; assumption)
  ·obtain ⟨c, dd, dt, sl⟩ := o
   induction dt <;> exact hdn
end
end
section
open PySem PySem.W PySem.SeqAt
variable {κ κ' : OG}
inductive KeysAre : List (Value × Value) → List (Str × Value) → Prop
 | nil : KeysAre [] []
 | cons {x : Str} {t : Tok} {v : Value} {vs : List (Value × Value)} {us : List (Str × Value)} : KeysAre vs us → KeysAre ((.str x t, v) :: vs) ((x, v) :: us)
section
variable {prog : Program} {w : World} {A : Around} {E : Value → Shared → Prop} {d : Addr}
theorem stab_storeAll {vs : List (Value × Value)} {us : List (Str × Value)} {f : Str → Option Value} {n : Nat} {s : Shared} {Q : PUnit → Shared → Prop} (K : KeysAre vs us) (hn : n + us.length ≤ 4096) (m : STabS prog w s.heap d f n)
  (hQ : ∀ h' tk, STabS prog w h' d (fun y => (us.reverse.lookup y).or (f y)) (n + us.length) → Heap.SameBut d s.heap h' → Q ⟨⟩ { s with heap := h', toks := tk }) : wpAny (model prog w) A (storeAll d vs) Q E s := by
 induction K generalizing f n s with
 | nil =>
  show wpAny _ _ (pure PUnit.unit) Q E s
  exact wpAny_pure (hQ s.heap s.toks m (Heap.SameBut.refl ..))
 | @cons x t v vs us k ih =>
  rw [List.length_cons] at hn
  unfold storeAll
  rw [List.forIn_cons]
  refine wpAny_bind (wpAny_bind (stab_set m (by lia) fun h' m' hs' => wpAny_pure ?_))
  refine ih (s := { s with heap := h', toks := s.toks + 1 }) (n := n + 1) (by (simp +arith at *; assumption)) m' fun h'' tk m'' hs'' => hQ h'' tk ?_ (hs'.trans hs'')
  have e : (fun y => (us.reverse.lookup y).or (if y = x then some v else f y)) = fun y => (((x, v) :: us).reverse.lookup y).or (f y) := by
   funext y
   rw [List.reverse_cons, List.lookup_append, Option.or_assoc]
   congr 1
   rw [List.lookup_cons, List.lookup_nil]
   by_cases hyx : y = x
   ·subst hyx; simp
   ·have hb : (y == x) = false := beq_eq_false_iff_ne.mpr hyx
    simp [hb, hyx]
  rw [← e, List.length_cons, show n + (us.length + 1) = n + 1 + us.length by (simp_all +arith)]
  exact m''
end
end
section
open PySem PySem.W PySem.SeqAt
variable {κ κ' : OG}
section
variable {S : Fixed} {t : Tabs} {ρ : List Dat}
theorem exs_cases {n : Nat} {motive : (b : M) → (vs : List Dat) → runT t (n + 1) (.exs b) ρ = some (.vals vs) → Prop} (nil : ∀ h, motive .nil [] h)
  (cons : ∀ e r d ds h, runT t n (.ex e) ρ = some (.val d) → runT t n (.exs r) ρ = some (.vals ds) → motive (.cons e r) (d :: ds) h) (b : M) (vs : List Dat) (h : runT t (n + 1) (.exs b) ρ = some (.vals vs)) : motive b vs h := by
 induction b using M.casesOn with
 | nil =>
  have h' : some (Out.vals []) = some (.vals vs) := h
  injection h' with h'
  injection h' with h'
  subst h'
  exact nil h
 | cons e r =>
  rcases andO_inv (show (andO (runT t n (.ex e) ρ) fun d => andS (runT t n (.exs r) ρ) fun ds => some (.vals (d :: ds))) = some (.vals vs) from h) with ⟨d, q5, _, q6⟩ | ⟨c, p, _, q⟩
  ·rcases andS_inv q6 with ⟨vs', q7, q8⟩ | ⟨c, p, _, q⟩
   ·injection q8 with q8
    injection q8 with q8
    subst q8
    exact cons e r d vs' h q5 q7
   ·injection q
  ·injection q
 | _ => exact nn h
theorem lit_head {v r : M} (h : litKeys (.cons v r) = true) : ∃ x k p, v = .lit (.str x) k p ∧ okSB x = true ∧ litKeys r = true := by
 induction v using M.casesOn with
 | lit c k p => induction c with
  | str x => exact b_Lnn h fun h1 h2 => ⟨x, k, p, rfl, h1, h2⟩
  | _ => exact ft h
 | _ => exact ft h
theorem lit_val {n : Nat} {x : Str} {k : Nat} {p : Pos} {d : Dat} (q1 : runT t n (.ex (.lit (.str x) k p)) ρ = some (.val d)) : Dat.str (codeS x) = d := by
 induction n using Nat.casesAuxOn with
 | zero => exact absurd q1 run_zero
 | succ n =>
  have q1' : some (Out.val (.str (codeS x))) = some (.val d) := q1
  injection q1' with q1'
  injection q1'
theorem pairs_at {A : Around} {env : Env} {xs : List Str} {pos : Pos} {N : Nat} {E : Value → Shared → Prop} (n : Nat) : ∀ (a b : M) (s : Shared) (R : List (Value × Value) → Shared → Prop) (ks vs : List Dat), (∀ k, k ≤ n → SoundE S t k) → n ≤ N →
  runT t n (.exs a) ρ = some (.vals ks) → runT t n (.exs b) ρ = some (.vals vs) → litKeys a = true → lenM a = lenM b → okM env.scope.names xs b = true → Cond S N A env xs ρ s.heap (og s) →
  (∀ ps us s₁, KeysAre ps us → us.map (·.1) = keysOf a → ks = (us.map fun p => Dat.str (codeS p.1)) → (∀ p ∈ us, okS p.1) → DatsH S.Ω s₁.heap (us.map (·.2)) vs → Keep S s.heap s₁.heap (og s₁) → R ps s₁) →
  wpAny S.M A (evalPairs (pairTrees ((toEs a).map some) (toEs b) env pos)) R E s := by
 induction n with
 | zero => exact fun _ _ _ _ _ _ _ _ h => absurd h run_zero
 | succ n ih =>
  intro a b s R ks vs I hN ha hb hl hlen hok C nxt
  induction a, ks, ha using exs_cases with
  | nil =>
   induction b, vs, hb using exs_cases with
   | nil => exact pairTrees_nil_walk (nxt [] [] s .nil rfl rfl (fun p hp => by cases hp) .nil C.same)
   | cons e r => injection hlen
  | cons v r d ks' ha q1 q3 =>
   refine o_xxxaa (lit_head hl) fun x k p hv hx hr => ?_
   clear hl ha
   subst hv
   obtain rfl := lit_val q1
   clear q1
   induction b, vs, hb using exs_cases with
   | nil => injection hlen
   | cons e rb d' vs' hb q5 q7 =>
    clear hb
    refine b_Lnn (show (okM env.scope.names xs e && okM env.scope.names xs rb) = true from hok) fun h1 h2 => ?_
    clear hok
    refine pairTrees_cons_walk (wpAny_Constant_str ((I n (Nat.le_succ n)).ex e ρ _ q5 A env xs _ _ E h1 (C.less (by (exact Nat.le_of_lt ‹_›))) fun u s₁ Du K => ?_))
    refine ih r rb s₁ _ ks' vs' (fun k hk => I k (Nat.le_succ_of_le hk)) (Nat.le_of_succ_le hN) q3 q7 hr (Nat.succ.inj hlen) h2 (C.keep K) fun ps us s₂ z1 z2 z3 z4 z5 K2 => ?_
    refine nxt _ ((x, u) :: us) s₂ (.cons z1) (by show x :: _ = x :: _; rw [z2]) (by rw [z3]; rfl) (fun q hq => ?_) (.cons (Du.up K2.up) z5) (Keep.trans (show Keep S s.heap s₁.heap (og s₁) from K) K2)
    rcases List.mem_cons.mp hq with e | e
    ·rw [e]; exact okSB_eq hx
    ·exact z4 q e
end
end
section
open PySem PySem.W PySem.SeqAt
open PyProof.Rows (subscriptTail Subscript_)
variable {κ κ' : OG}
theorem toEs_length : ∀ m : M, (toEs m).length = lenM m
 | .nil => rfl
 | .cons _ r => by show (toEs r).length + 1 = lenM r + 1; rw [toEs_length r]
 | .lit _ _ _ => rfl
 | .var _ _ _ => rfl
 | .gl _ _ _ => rfl
 | .u _ _ => rfl
 | .b _ _ _ => rfl
 | .c _ _ _ _ => rfl
 | .raw _ => rfl
 | .rawS _ => rfl
theorem keep_but {S : Fixed} {h h1 h2 : Heap} {D : Addr} (st : Stays S h κ) (K : Keep S h h1 κ') (hs : Heap.SameBut D h1 h2) (hD : h.get? D = none) (hl : ∀ o, h1.get? D = some o → ¬ LamLike o) : Keep S h h2 κ' := by
 have ne : ∀ b o, h.get? b = some o → b ≠ D := fun b o hb q => by rw [q, hD] at hb; exact nn hb
 exact ⟨⟨fun b o hb hn => let ⟨sl, q⟩ := K.up.slots b o hb hn; ⟨sl, (hs.2 b (ne b o hb)).trans q⟩, fun b o hb hi => (hs.2 b (ne b o hb)).trans (K.up.iters b o hb hi)⟩, K.stays.of (fun b o hb => (hs.2 b (ne b o (st.base b o hb))).trans (K.stays.base b o hb)) fun b o hb h => (hs.2 b fun q => by subst q; exact hl o hb h).trans hb⟩
theorem lookup_rev : ∀ (us : List (Str × Value)) (y : Str), (us.map (·.1)).Nodup → us.reverse.lookup y = us.lookup y := by
 intro us y nd
 induction h : us.lookup y with
 | some v =>
  refine lookup_nodup _ _ _ ?_ (List.mem_reverse.mpr (mem_of_lookup h))
  rw [List.map_reverse]
  exact List.pairwise_reverse.mpr (List.Pairwise.imp (fun h => Ne.symm h) nd)
 | none =>
  induction h2 : us.reverse.lookup y with
  | none => rfl
  | some v =>
   have := lookup_nodup _ _ _ nd (List.mem_reverse.mp (mem_of_lookup h2))
   rw [h] at this
   exact nn this
theorem pureS_inv {o : Option Out} {k : List Dat → Option Out} {out : Out} (h : pureS o k = some out) : ∃ ds, o = some (.vals ds) ∧ k ds = some out := by
 induction o with
 | none => exact nn h
 | some o => induction o with
  | vals ds => exact ⟨ds, rfl, h⟩
  | _ => exact nn h
theorem pureO_inv {o : Option Out} {k : Dat → Option Out} {out : Out} (h : pureO o k = some out) : ∃ d, o = some (.val d) ∧ k d = some out := by
 induction o with
 | none => exact nn h
 | some o => induction o with
  | val d => exact ⟨d, rfl, (forceD_eq (show forceD d k = some out from h)).2⟩
  | _ => exact nn h
section
variable {S : Fixed} {t : Tabs} {n : Nat} {ρ : List Dat} {out : Out}
theorem disp_at (I : ∀ k, k ≤ n → SoundE S t k) {A : Around} {env : Env} {xs : List Str} {dp : Pos} {a b : M} {s : Shared} {ks vs : List Dat} {E : Value → Shared → Prop} {R : Value → Shared → Prop}
  (ha : runT t n (.exs a) ρ = some (.vals ks)) (hb : runT t n (.exs b) ρ = some (.vals vs)) (hd : okDisp a b = true) (hok : okM env.scope.names xs b = true) (C : Cond S n A env xs ρ s.heap (og s))
  (nxt : ∀ (T : Addr) (us : List (Str × Value)) (s₁ : Shared), STab S.prog S.w s₁.heap T (fun k => us.lookup k) → ks = (us.map fun p => Dat.str (codeS p.1)) → (∀ p ∈ us, okS p.1) → DatsH S.Ω s₁.heap (us.map (·.2)) vs → Keep S s.heap s₁.heap (og s₁) → s.heap.get? T = none → (∃ o, s₁.heap.get? T = some o ∧ o.dict = none) → T = s.heap.objs.size → R (.ref T) s₁) :
  wpAny S.M A (eval (.Dict ((toEs a).map some) (toEs b) dp) env) R E s := by
 simp only [okDisp, Bool.and_eq_true, decide_eq_true_eq] at hd
 refine via fun Gv kv => ?_
 obtain ⟨⟨⟨⟨d1, d2⟩, d3⟩, d4⟩, d5⟩ := hd
 refine kv ?_
 clear kv Gv
 have d3' := Nat.le_of_ble_eq_true d3
 have d4' := Nat.le_of_ble_eq_true d4
 have kp := All.push s.heap { cls := .type "dict", data := .dict #[] }
 have Kp : Keep S s.heap (s.heap.push { cls := .type "dict", data := .dict #[] }) (og s) := C.all kp
 refine wpAny_Dict_any (by simp) (by rw [List.length_map, toEs_length, toEs_length, d2]) (fun q => ?_) (by rw [List.length_map, toEs_length]; exact d4') ?_
 ·have := congrArg List.length q
  rw [List.length_map, toEs_length] at this
  simp at this
  lia
 refine pairs_at (N := n) n a b { s with heap := s.heap.push { cls := .type "dict", data := .dict #[] } } _ ks vs I (Nat.le_refl _) ha hb d1 d2 hok (C.keep Kp) fun ps us s₁ z1 z2 z3 z4 z5 K => ?_
 have m : STabS S.prog S.w s₁.heap s.heap.objs.size (fun _ => none) 0 := STabS.slots K.up.slots (STabS.new s.heap)
 have hl : us.length ≤ 15 := by
  have := congrArg List.length z3
  rw [List.length_map, exs_len n a ρ ks ha] at this
  (simp_all +arith)
 refine stab_storeAll z1 (by lia) m fun h' tk m' hs' => ?_
 have hnd : (us.map (·.1)).Nodup := by rw [z2]; exact d5
 have e : (fun y => (us.reverse.lookup y).or none) = fun y => us.lookup y := by
  funext y
  rw [lookup_rev us y hnd]
  simp
 rw [e] at m'
 have sf : Soft s₁.heap h' := fun b o items k hb hd => ⟨o.slots, (hs'.2 b fun q => by
  refine o_xxxaaa m fun o2 es ep ho2 _ hd2 _ => ?_
  clear m
  rw [q, ho2] at hb
  cases hb
  rw [hd2] at hd
  injection hd).trans hb⟩
 exact nxt _ us { s₁ with heap := h', toks := tk } m'.tab z3 z4 (z5.soft sf) (keep_but C.stays (Kp.trans K) hs' (Heap.get?_none_of_le (Nat.le_refl _)) fun o ho hl => by
  refine o_xxxaaa m fun o2 es ep ho2 _ hd2 _ => ?_
  clear m
  rw [ho] at ho2
  obtain rfl := si ho2
  refine o_xa hl fun vs hd _ => ?_
  clear hl
  rw [hd2] at hd
  injection hd) (Heap.get?_none_of_le (Nat.le_refl _)) (by obtain ⟨o, _, _, ho, _, _, _, _, hdn⟩ := m'; exact ⟨o, ho, hdn⟩) rfl
theorem ex_dix (I : ∀ k, k ≤ n → SoundE S t k) {dp p : Pos} {a b c : M} (h : tDix (runT t n) ρ a b c = some out) : ExOk S (n + 1) (.c (.dix dp p) a b c) ρ out := by
 intro A env xs s Q E hok C P
 refine b_Lnn (show (okM env.scope.names xs a && (okM env.scope.names xs b && okM env.scope.names xs c) && okDisp a b) = true from hok) fun hok' hd => ?_
 refine o_aa (and3 hok') fun h1 h2 h3 => ?_
 have C' := C.less (Nat.le_succ n)
 refine o_xa (pureS_inv h) fun ks ha h => ?_
 refine o_xa (pureS_inv h) fun vs hb h => ?_
 refine o_xa (pureO_inv h) fun k hc h => ?_
 refine o_xxaa (look_inv h) fun cc d q2' hl q4' => ?_
 subst q2'
 subst q4'
 refine Subscript_ (disp_at I ha hb hd h2 C' fun T us s₁ m z3 z4 z5 K _ _ _ => ?_)
 refine (I n (Nat.le_refl _)).ex c ρ _ hc A env xs s₁ _ E h3 (C'.keep K) fun v s₂ D K2 => ?_
 refine o_xxaa (datStr D) fun y tk q2' q3' oy => ?_
 subst q2'
 subst q3'
 rw [z3] at hl
 refine o_xa (look_sound oy us vs z4 (z5.up K2.up) hl) fun u hu Du => ?_
 have m2 := m.up K2.up
 exact sub_tail m2.typeIs slot_dict_getitem.lookup (stab_getItem m2 hu (P u _ Du (K.trans K2)))
end
end
section
open PySem PySem.W PySem.SeqAt
open PyProof.Rows (subscriptTail Subscript_)
variable {κ κ' : OG}
theorem nth_of_get : ∀ {ρ : List Dat} {j : Nat} {d : Dat}, ρ[j]? = some d → nth ρ j = d
 | [], j, d, h => by simp at h
 | x :: r, 0, d, h => by simp at h; exact h
 | x :: r, j + 1, d, h => by
  have : nth (x :: r) (j + 1) = nth r j := rfl
  rw [this]
  exact nth_of_get (by simpa using h)
section
variable {Ω : Nat → Value} {M : Model} {A : Around} {E : Value → Shared → Prop} {s : Shared} {env : Env} {xs : List Str} {ρ : List Dat}
theorem wp_store0 {x : Str} {v : Value} {Q : Unit → Shared → Prop} (F : Frm Ω env xs ρ s.heap) (hole : ∀ (i : Nat) (d : Dat), xs[i]? = some x → ρ[i]? = some d → d = .hole)
  (hk : env.scope.kind = .function) (hl : env.kindOf x = some .local)
  (h : ∀ h' tk m, Frm Ω env xs ρ h' → Own env s.heap h' → h'.Ns env.locals m → m x = some v → Q () { s with heap := h', toks := tk }) : wpAny M A (storeName env x v) Q E s := by
 refine via fun Gv kv => ?_
 obtain ⟨⟨m, hn, hv⟩, hc, hh, h1, hln⟩ := F
 refine kv ?_
 clear kv Gv
 refine wpAny_storeName_local hl hn (fun h' hn' hs' => ?_) (by rw [hk]; rfl)
 have own : Own env s.heap h' := fun b o hb hne _ => (hs'.2 b hne).trans hb
 have soft := soft_of_own hn hc own
 have cellk : ∀ c o, s.heap.IsCell c o → h'.IsCell c o := fun c o q => q.sameBut hs' fun e => ns_cell hn (e ▸ q)
 refine h _ _ _ ⟨⟨_, hn', fun j y d' hj hd' => ?_⟩, fun y c e => let ⟨o, q⟩ := hc y c e; ⟨o, cellk c o q⟩, hh, h1, hln⟩ own hn' (if_pos rfl)
 by_cases hy : y = x
 ·subst hy
  exact .inl (hole j d' hj hd')
 ·rcases hv j y d' hj hd' with e | ⟨a, b⟩
  ·exact .inl e
  ·exact .inr ⟨fun e => let ⟨u, e1, e2⟩ := a e; ⟨u, by show (if y = x then some v else m y) = some u; rw [if_neg hy]; exact e1, e2.soft soft⟩, fun e => let ⟨c, u, e1, e2, e3⟩ := b e; ⟨c, u, e1, cellk c _ e2, e3.soft soft⟩⟩
end
section
variable {S : Fixed} {t : Tabs} {n : Nat} {ρ : List Dat} {out : Out}
theorem st_lets (I : ∀ k, k ≤ n → SoundE S t k) (J : SoundS S t n) (Hr : OmRef S.Ω) {i : Nat} {x : Str} {xp dp ap np sp cp ip : Pos} {a b u k w : M} (hd : okDisp a b = true)
  (h : sLets i (runT t n) ρ a b (.cons u (.cons k w)) = some out) {A : Around} {env : Env} {xs : List Str} {s : Shared} {h0 : Heap} {outer : List Env} {Q : Flow → Shared → Prop} {E : Value → Shared → Prop}
  (hob : okM env.scope.names xs b = true) (hou : okM env.scope.names xs u = true) (hok : okM env.scope.names xs k = true) (how : okSt env.scope.names xs w = true)
  (hl : env.kindOf x = some .local) (hx : (x == ("__debug__" : Str)) = false) (hxi : xs[i]? = some x)
  (T : At S (n + 1) A env xs ρ h0 outer s.heap (og s)) (P : PostF S env xs h0 outer out Q E) : wpAny S.M A (execs (toS (.c (.lets i x xp dp ap np sp cp ip) a b (.cons u (.cons k w)))) env) Q E s := by
 have T' := T.less (Nat.le_succ n)
 have hE := h
 unfold sLets at hE
 rcases iteO_inv hE with ⟨hh, h⟩ | ⟨_, h⟩
 case inr => exact nn h
 have hole : ∀ (j : Nat) (d : Dat), xs[j]? = some x → ρ[j]? = some d → d = .hole := fun j d hj hd => by
  obtain ⟨a1, a2⟩ := List.getElem?_eq_some_iff.mp hxi
  obtain ⟨b1, b2⟩ := List.getElem?_eq_some_iff.mp hj
  have : j = i := (List.getElem_inj T.nd).mp (b2.trans a2.symm)
  subst this
  rw [nth_of_get hd] at hh
  induction d using Dat.casesOn <;> first | rfl | exact ft hh
 refine o_xa (pureS_inv h) fun ks ha h => ?_
 refine o_xa (pureS_inv h) fun vs hb h => ?_
 refine o_xa (pureO_inv h) fun du hu h => ?_
 refine o_xa (pureO_inv h) fun dk hk h => ?_
 show wpAny S.M A (execs [.Assign [.Name x xp] (.Dict ((toEs a).map some) (toEs b) dp) ap, .If (.Compare (toE u) [.NotIn] [.Subscript (.Name x np) (toE k) sp] cp) (toSs w) [] ip] env) Q E s
 refine wpAny_execs_cons (wpAny_Assign_Name (hs := rfl) (disp_at I ha hb hd hob T'.cond fun Tb us s₁ m z3 z4 z5 K hTb _ _ => ?_))
 have T1 := T'.keep K
 refine wp_store0 T1.cond.frm hole T.cond.kind hl fun h₂ t₂ mm F2 O2 hn2 hm2 => ?_
 have T2 : At S n A env xs ρ h0 outer h₂ (og s₁) := T1.next F2 (own_up T.ent T1.up O2) (own_stays T.ent T1.cond.frm T1.cond.stays O2)
 have m2 : STab S.prog S.w h₂ Tb fun k => us.lookup k := by
  refine o_xxxaaa m fun o es ep ho hc hd2 r => ?_
  clear m
  refine ⟨o, es, ep, O2 _ _ ho (fun q => ?_) fun y _ q => ?_, hc, hd2, r⟩
  ·obtain ⟨⟨m0, ⟨o3, _, _, ho3, _⟩, _⟩, _⟩ := T.cond.frm
   rw [← q, hTb] at ho3
   exact nn ho3
  ·refine o_xxa (T1.cond.frm.cells y _ q) fun v3 o3 ho3 hd3 => ?_
   rw [ho] at ho3
   obtain rfl := si ho3
   rw [hd2] at hd3
   injection hd3
 have sf2 : Soft s₁.heap h₂ := by
  refine via fun Gv kv => ?_
  obtain ⟨⟨m0, hn0, _⟩, hc0, _, _⟩ := T1.cond.frm
  refine kv ?_
  clear kv Gv
  exact soft_of_own hn0 hc0 O2
 have z6 := z5.soft sf2
 induction dk using Dat.casesOn with
 | str cc =>
  induction hg : dictGet (.str cc) ks vs with
  | none => rw [show tabGet (.str cc) ks vs = dictGet (.str cc) ks vs from rfl, hg] at h; exact nn h
  | some o =>
   rw [show tabGet (.str cc) ks vs = dictGet (.str cc) ks vs from rfl, hg] at h
   induction o with
   | none => exact nn h
   | some l =>
    induction hin : inD du l with
    | none => simp only [hin] at h; exact nn h
    | some q =>
     simp only [hin] at h
     refine one_stmt (wpAny_If (wpAny_isTrue_Compare1 ?_ rfl))
     refine (I n (Nat.le_refl _)).ex u ρ _ hu A env xs { s₁ with heap := h₂, toks := t₂ } _ E hou T2.cond fun v s₃ D K2 => ?_
     have T3 := T2.keep K2
     refine Subscript_ (wpAny_Name (wpAny_loadName_local T.cond.kind hl (K2.up.slots.ns hn2) hm2 ?_) hx)
     refine (I n (Nat.le_refl _)).ex k ρ _ hk A env xs s₃ _ E hok T3.cond fun v' s₄ D' K3 => ?_
     have T4 := T3.keep K3
     refine o_xxaa (datStr D') fun y tk q2' q3' oy => ?_
     subst q2'
     subst q3'
     rw [z3] at hg
     have K23 := K2.trans K3
     refine o_xa (look_sound oy us vs z4 (z6.up K23.up) hg) fun ul hul Dul => ?_
     have m4 := m2.up K23.up
     refine sub_tail m4.typeIs slot_dict_getitem.lookup (stab_getItem m4 hul ?_)
     have T5 : At S n A env xs ρ h0 outer ({ s₄ with toks := s₄.toks + 1 } : Shared).heap (og ({ s₄ with toks := s₄.toks + 1 } : Shared)) := T4
     refine cmp_sound (op := .NotIn) (b := !q) (s := { s₄ with toks := s₄.toks + 1 }) Hr (by have := T4.cond.units; lia) (D.up K3.up) Dul (by show not? (inD du l) = some (!q); rw [hin]; induction q <;> rfl) (wpAny_truthy_bool ?_)
     induction q with
     | true =>
      obtain rfl := si h
      exact wpAny_execs_nil (P _ _ .next T5.cond.frm T5.up T5.cond.stays)
     | false => exact J.sts w ρ out h A env xs _ h0 outer Q E how T5 P
 | _ => exact nn h
end
end
section
open PySem PySem.W PySem.SeqAt
variable {κ κ' : OG}
structure XAt (S : Fixed) (h : Heap) (e : Addr) (c : Nat) (p : Dat) (oe : Obj) (vs : Array Value) : Prop where
 get : h.get? e = some oe
 cls : oe.cls = .ref (S.exc c)
 data : oe.data = .fields vs
 size : vs.size = 6
 ctx : c ≠ 2 → vs[2]? = some .none
 base : S.B0.get? e = none
 dict : ∃ D mD v x t, oe.dict = some D ∧ h.Ns D mD ∧ mD (Str.ofString "spot") = some v ∧ DatH S.Ω h v p ∧ mD (Str.ofString "message") = some (.str x t)
structure TbAt (S : Fixed) (h : Heap) (e T : Addr) (fl : Value) : Prop where
 base : S.B0.get? T = none
 ne : T ≠ e
 get : ∃ oT ts L, h.get? T = some oT ∧ oT.cls = .type "traceback" ∧ oT.data = .fields ts ∧ ts[1]? = some (.ref L) ∧ ts[3]? = some fl
noncomputable def XNew (S : Fixed) (h : Heap) (e : Addr) (c : Nat) (p : Dat) : Prop := ∃ oe vs, XAt S h e c p oe vs ∧ vs[1]? = some .none
noncomputable def XTr (S : Fixed) (h : Heap) (e : Addr) (c : Nat) (p : Dat) (fl : Value) : Prop := ∃ oe vs T, XAt S h e c p oe vs ∧ vs[1]? = some (.ref T) ∧ TbAt S h e T fl
noncomputable def XFly (S : Fixed) (h : Heap) (e : Addr) (c : Nat) (p : Dat) : Prop := XNew S h e c p ∨ XTr S h e c p .none
noncomputable def Entered (fs : List Addr) (e : Addr) (oe : Obj) (L : Addr) (h h' : Heap) : Prop := ∃ (T : Addr) (ts : Array Value),
 (∀ b o, h.get? b = some o → b ≠ e → b ∉ fs → h'.get? b = some o) ∧ (∀ b o, h.get? b = some o → b ≠ e → ∃ sl, h'.get? b = some { o with slots := sl }) ∧
  h'.get? e = some (oe.mapFields (·.setIfInBounds 1 (.ref T))) ∧ h.get? T = none ∧ h'.get? T = some { cls := .type "traceback", data := .fields ts } ∧ ts[1]? = some (.ref L) ∧ ts[3]? = some (rawInt L)
section
variable {M : Model} {A : Around} {E : Value → Shared → Prop} {s : Shared}
theorem newEntryX {base : Heap} {env : Env} {outer : List Env} {L e : Addr} {oe : Obj} {vs : Array Value} {head : Value} {hadNext : Bool} {Q : Unit → Shared → Prop}
  (hfr : A.frames = some (env :: outer)) (hl : s.heap.FunFrames base (env :: outer)) (hf : env.frame = some L) (he : s.heap.get? e = some oe) (hd : oe.data = .fields vs) (hsz : 1 < vs.size)
  (h : ∀ h', Entered ((env :: outer).filterMap (·.frame)) e oe L s.heap h' → Q () { s with heap := h' }) :
  wpAny M A (do let a ← frameOf env; let pl ← entryPlaceOf L hadNext; let b ← EntryCells.newEntry head a .none (rawInt L) .none pl; setField (.ref e) 1 b) Q E s := by
 have hene : e ∉ (env :: outer).filterMap (·.frame) := fun hm => by
  refine o_axa (hl.mem hm) fun _ o ho hnf => ?_
  rw [he] at ho
  obtain rfl := si ho
  exact hnf vs hd
 refine wpAny_bind (wpAny_frameOf_fun hfr hl hf fun h₁ hs₁ => ?_)
 refine wpAny_bind (wpAny_entryPlaceOf fun pl hpl => ?_)
 unfold EntryCells.newEntry newFields
 refine wpAny_bind (wpAny_newObj_type ?_ (hpl.sizeOk5 _ _ _ _ _))
 generalize hts : ([head, .ref L, .none, rawInt L, .none] ++ (if pl.isEmpty then List.replicate 6 Value.none else pl)).toArray = ts
 have he₁ : h₁.get? e = some oe := (hs₁.2.1 e hene).trans he
 have he₂ := Heap.get?_push_of_some (h := h₁) { cls := .type "traceback", dict := none, data := .fields ts } he₁
 refine wpAny_setField he₂ hd hsz (h _ ?_)
 have hTe : h₁.objs.size ≠ e := Nat.ne_of_gt (Heap.lt_size he₁)
 have hd₃ := Obj.data_mapFields hd (·.setIfInBounds 1 (Value.ref h₁.objs.size))
 refine ⟨h₁.objs.size, ts, fun b o hb hbe hbf => ?_, fun b o hb hbe => ?_, Heap.get?_update_self _ he₂ (Obj.isFreed_of_fields hd₃), ?_, ?_, ?_, ?_⟩
 ·rw [Heap.get?_update_other _ _ (Ne.symm hbe)]
  exact Heap.get?_push_of_some _ ((hs₁.2.1 b hbf).trans hb)
 ·obtain ⟨sl, hs⟩ := hs₁.2.2 b o hb
  exact ⟨sl, by rw [Heap.get?_update_other _ _ (Ne.symm hbe)]; exact Heap.get?_push_of_some _ hs⟩
 ·exact Heap.get?_none_of_le (by rw [hs₁.1]; exact Nat.le_refl _)
 ·rw [Heap.get?_update_other _ _ (Ne.symm hTe)]
  exact Heap.get?_push_size _ rfl
 ·rw [← hts]; simp
 ·rw [← hts]; simp
end
theorem dict_mapFields (o : Obj) (f : Array Value → Array Value) : (o.mapFields f).dict = o.dict := by
 refine via fun Gv kv => ?_
 obtain ⟨c, d, dt, sl⟩ := o
 refine kv ?_
 clear kv Gv
 induction dt <;> rfl
section
variable {S : Fixed} {h h' : Heap} {e : Addr} {c : Nat} {p : Dat} {oe : Obj} {vs : Array Value}
theorem XAt.notLam (x : XAt S h e c p oe vs) (h1 : ∀ q t, vs[1]? ≠ some (.str q t)) : ¬ LamLike oe := fun ⟨vs', hd', hh⟩ => by
 rw [x.data] at hd'
 cases hd'
 rcases hh with hh | ⟨q, t, hh⟩
 ·rw [x.cls] at hh; cases hh
 ·exact h1 q t hh
theorem XAt.notIter (x : XAt S h e c p oe vs) : isIter oe.cls = false := by rw [x.cls]; rfl
theorem XAt.step {oe' : Obj} {vs' : Array Value} (x : XAt S h e c p oe vs) (k : ∀ b o, h.get? b = some o → (∀ vs, o.data ≠ .fields vs) → ∃ sl, h'.get? b = some { o with slots := sl })
  (g : h'.get? e = some oe') (g1 : oe'.cls = oe.cls) (g2 : oe'.dict = oe.dict) (g3 : oe'.data = .fields vs') (g4 : vs'.size = vs.size) (g5 : vs'[2]? = vs[2]?) : XAt S h' e c p oe' vs' := by
 refine o_xxxxxaaaa x.dict fun D mD v y tk d1 d2 d3 d4 d5 => ?_
 have us : h.UpToSlots h' := k
 exact ⟨g, g1.trans x.cls, g3, g4.trans x.size, fun q => g5.trans (x.ctx q), x.base, D, mD, v, y, tk, g2.trans d1, us.ns d2, d3, d4.soft (Soft.of_slots us), d5⟩
theorem XAt.up {h' : Heap} (x : XAt S h e c p oe vs) (k : Up h h') (g : h'.get? e = some oe) : XAt S h' e c p oe vs := x.step (fun b o hb hn => k.slots b o hb hn) g rfl rfl x.data rfl rfl
end
section
variable {S : Fixed} {M : Model} {A : Around} {E : Value → Shared → Prop} {s : Shared} {e : Addr} {c : Nat} {p : Dat} {env : Env} {outer : List Env} {L : Addr}
structure XLeft (S : Fixed) (h h' : Heap) (κ : OG) (e : Addr) (c : Nat) (p : Dat) (fl : Value) : Prop where
 tr : XTr S h' e c p fl
 up : Up h h'
 stays : Stays S h' κ
theorem XLeft.trans {h h' h'' : Heap} {fl fl' : Value} (x : XLeft S h h' κ e c p fl) (y : XLeft S h' h'' κ e c p fl') : XLeft S h h'' κ e c p fl' := ⟨y.tr, x.up.trans y.up, y.stays⟩
theorem entered_left {oe : Obj} {vs : Array Value} {h h' : Heap} (x : XAt S h e c p oe vs) (h1 : ∀ q t, vs[1]? ≠ some (.str q t)) (st : Stays S h κ) (hl : h.FunFrames S.B0 (env :: outer))
  (n : Entered ((env :: outer).filterMap (·.frame)) e oe L h h') : XLeft S h h' κ e c p (rawInt L) := by
 refine o_xxaaaaaa n fun T ts k1 k2 k3 k4 k5 k6 k7 => ?_
 clear n
 have ner : ∀ b o, h.get? b = some o → (∀ vs, o.data ≠ .fields vs) → b ≠ e := fun b o hb hn q => by
  rw [q, x.get] at hb
  obtain rfl := si hb
  exact hn _ x.data
 have nf : ∀ b o vs, h.get? b = some o → o.data = .fields vs → b ∉ (env :: outer).filterMap (·.frame) := fun b o vs hb hd hm => by
  refine o_axa (hl.mem hm) fun _ o' ho' hnf => ?_
  rw [hb] at ho'
  obtain rfl := si ho'
  exact hnf vs hd
 have us : ∀ b o, h.get? b = some o → (∀ vs, o.data ≠ .fields vs) → ∃ sl, h'.get? b = some { o with slots := sl } := fun b o hb hn => k2 b o hb (ner b o hb hn)
 have hTe : T ≠ e := fun q => by rw [q, x.get] at k4; exact ns k4
 have hd₃ := Obj.data_mapFields x.data (·.setIfInBounds 1 (Value.ref T))
 refine ⟨⟨_, _, T, x.step us k3 (Obj.cls_mapFields _ _) (dict_mapFields _ _) hd₃ (by simp) (by rw [Array.getElem?_setIfInBounds_ne (by decide)]), by have := x.size; simp [this], ?_, hTe, _, ts, L, k5, rfl, rfl, k6, k7⟩, ⟨us, fun b o hb hi => ?_⟩, st.of (fun b o hb => ?_) fun b o hb hlm => ?_⟩
 ·induction hq : S.B0.get? T with
  | none => rfl
  | some o => have := st.base T o hq; rw [k4] at this; exact nn this
 ·refine o_ax hi fun hi vs' hd => ?_
  refine k1 b o hb (fun q => ?_) (nf b o vs' hb hd)
  rw [q, x.get] at hb
  obtain rfl := si hb
  rw [x.notIter] at hi
  exact ft hi
 ·exact k1 b o (st.base b o hb) (fun q => by rw [q, x.base] at hb; exact nn hb) fun hm => by rw [(hl.mem hm).1] at hb; exact nn hb
 ·refine o_xa (id hlm) fun vs' hd _ => ?_
  refine k1 b o hb (fun q => ?_) (nf b o vs' hb hd)
  rw [q, x.get] at hb
  obtain rfl := si hb
  exact x.notLam h1 hlm
theorem markX {oe : Obj} {vs : Array Value} {T : Addr} {fl v : Value} {Q : Unit → Shared → Prop} (x : XAt S s.heap e c p oe vs) (h1 : vs[1]? = some (.ref T)) (t : TbAt S s.heap e T fl) (st : Stays S s.heap (og s))
  (h : ∀ h', XLeft S s.heap h' (og s) e c p v → (∃ oT' : Obj, h'.get? T = some oT' ∧ h'.get? e = some oe ∧ TbAt S h' e T v) → Q () { s with heap := h' }) : wpAny M A (setField (.ref T) 3 v) Q E s := by
 refine via fun Gv kv => ?_
 obtain ⟨tb, hTe, oT, ts, L', t1, t2, t3, t4, t5⟩ := t
 refine kv ?_
 clear kv Gv
 have h3 : 3 < ts.size := (Array.getElem?_eq_some_iff.mp t5).1
 have hd₃ := Obj.data_mapFields t3 (·.setIfInBounds 3 v)
 have other : ∀ b, b ≠ T → (s.heap.update T (Obj.mapFields (·.setIfInBounds 3 v))).get? b = s.heap.get? b := fun b hb => Heap.get?_update_other _ _ (Ne.symm hb)
 have hT' := Heap.get?_update_self (Obj.mapFields (·.setIfInBounds 3 v)) t1 (Obj.isFreed_of_fields hd₃)
 have ner : ∀ b o, s.heap.get? b = some o → (∀ vs, o.data ≠ .fields vs) → b ≠ T := fun b o hb hn q => by
  rw [q, t1] at hb
  cases hb
  exact hn _ t3
 have us : ∀ b o, s.heap.get? b = some o → (∀ vs, o.data ≠ .fields vs) → ∃ sl, (s.heap.update T (Obj.mapFields (·.setIfInBounds 3 v))).get? b = some { o with slots := sl } := fun b o hb hn => ⟨o.slots, (other b (ner b o hb hn)).trans hb⟩
 have tat : TbAt S (s.heap.update T (Obj.mapFields (·.setIfInBounds 3 v))) e T v := ⟨tb, hTe, _, _, L', hT', (Obj.cls_mapFields _ _).trans t2, hd₃, by rw [Array.getElem?_setIfInBounds_ne (by decide)]; exact t4, by simp [h3]⟩
 have hee := (other e (Ne.symm hTe)).trans x.get
 refine wpAny_setField t1 t3 h3 (h _ ⟨⟨oe, vs, T, x.step us hee rfl rfl x.data rfl rfl, h1, tat⟩, ⟨us, fun b o hb hi => ?_⟩, st.of (fun b o hb => ?_) fun b o hb hlm => ?_⟩ ⟨_, hT', hee, tat⟩)
 ·refine o_ax hi fun hi vs' hd => ?_
  refine (other b fun q => ?_).trans hb
  rw [q, t1] at hb
  cases hb
  rw [t2] at hi
  exact ft hi
 ·exact (other b fun q => by rw [q, tb] at hb; exact nn hb).trans (st.base b o hb)
 ·refine (other b fun q => ?_).trans hb
  rw [q, t1] at hb
  cases hb
  refine o_xa hlm fun vs' hd hh => ?_
  clear hlm
  rw [t3] at hd
  cases hd
  rcases hh with hh | ⟨q, u, hh⟩
  ·rw [t2] at hh; cases hh
  ·rw [t4] at hh; cases hh
theorem noteX {Q : Unit → Shared → Prop} (hfr : A.frames = some (env :: outer)) (hl : s.heap.FunFrames S.B0 (env :: outer)) (hf : env.frame = some L) (st : Stays S s.heap (og s))
  (x : XFly S s.heap e c p ∨ XTr S s.heap e c p (rawInt L)) (h : ∀ h', XLeft S s.heap h' (og s) e c p (rawInt L) → Q () { s with heap := h' }) : wpAny M A (noteFrame (.ref e) env) Q E s := by
 unfold noteFrame
 simp only [hf]
 rcases x with (⟨oe, vs, x, h1⟩ | ⟨oe, vs, T, x, h1, t⟩) | ⟨oe, vs, T, x, h1, t⟩
 ·refine wpAny_bind (wpAny_field x.get x.data h1 ?_)
  rw [if_neg (by decide)]
  exact newEntryX hfr hl hf x.get x.data (by rw [x.size]; decide) fun h' n => h h' (entered_left x (fun q t e => by rw [h1] at e; cases e) st hl n)
 ·refine wpAny_bind (wpAny_field x.get x.data h1 ?_)
  rw [if_pos (show (Value.ref T != Value.none) = true from by simp)]
  refine o_xxxaaaa t.get fun oT ts L' t1 t2 t3 t4 t5 => ?_
  refine wpAny_bind (wpAny_field t1 t3 t5 ?_)
  rw [if_neg (show ¬ ((Value.none == rawInt L) = true) from by simp [rawInt])]
  refine wpAny_bind (markX x h1 t st fun h₁ y ⟨oT', _, he', t'⟩ => ?_)
  have hl' : h₁.FunFrames S.B0 (env :: outer) := frames_up y.up hl
  have x' : XAt S h₁ e c p oe vs := x.up y.up he'
  exact newEntryX (s := { s with heap := h₁ }) hfr hl' hf x'.get x'.data (by rw [x.size]; decide) fun h' n => h h' (y.trans (entered_left x' (fun q t e => by rw [h1] at e; cases e) y.stays hl' n))
 ·refine wpAny_bind (wpAny_field x.get x.data h1 ?_)
  rw [if_pos (show (Value.ref T != Value.none) = true from by simp)]
  refine o_xxxaaaa t.get fun oT ts L' t1 t2 t3 t4 t5 => ?_
  refine wpAny_bind (wpAny_field t1 t3 t5 ?_)
  rw [if_pos (show (rawInt L == rawInt L) = true from by simp)]
  exact wpAny_pure (h s.heap ⟨⟨oe, vs, T, x, h1, t⟩, Up.refl _, st⟩)
theorem flightX {fl : Value} {f : Option Addr} {Q : Unit → Shared → Prop} (st : Stays S s.heap (og s)) (x : XTr S s.heap e c p fl)
  (h : ∀ h', XLeft S s.heap h' (og s) e c p (f.elim .none fun f => rawInt f) → Q () { s with heap := h' }) : wpAny M A (setFlight (.ref e) f) Q E s := by
 refine o_xxxaa x fun oe vs T x h1 t => ?_
 unfold setFlight
 refine wpAny_bind (wpAny_field x.get x.data h1 ?_)
 rw [if_pos (show (Value.ref T != Value.none) = true from by simp)]
 exact markX x h1 t st fun h' y _ => h h' y
theorem leavesX {Q : Unit → Shared → Prop} (hfr : A.frames = some (env :: outer)) (hl : s.heap.FunFrames S.B0 (env :: outer)) (hf : env.frame = some L) (st : Stays S s.heap (og s))
  (x : XFly S s.heap e c p ∨ XTr S s.heap e c p (rawInt L)) (h : ∀ h', XLeft S s.heap h' (og s) e c p .none → Q () { s with heap := h' }) : wpAny M A (leaving env (.ref e)) Q E s := by
 unfold leaving
 refine wpAny_bind (noteX hfr hl hf st x fun h₁ y => ?_)
 exact flightX (s := { s with heap := h₁ }) (f := none) y.stays y.tr fun h₂ z => h h₂ (y.trans z)
theorem XNew.keep {h h' : Heap} (x : XNew S h e c p) (k : Up h h') (g : ∀ o, h.get? e = some o → h'.get? e = some o) : XNew S h' e c p := by
 refine o_xxa x fun oe vs x h1 => ?_
 exact ⟨oe, vs, x.up k (g _ x.get), h1⟩
end
theorem leaves_all {S : Fixed} (hX : S.X = XFly S) : Leaves S := fun A env outer e c p s Q E hfr hl hf x st h => by
 rw [hX] at x
 exact leavesX hfr hl hf st (.inl x) fun h' y => h h' (by rw [hX]; exact .inr y.tr) y.up y.stays
end
section
open PySem PySem.W PySem.Calls PySem.Builtin PySem.Builtin.ObjectAttr
variable {κ κ' : OG}
noncomputable def excIn (K : Frag) (C : Addr) : Bool := match K.lookup C with
 | some ⟨_, _, .cls cd, sl⟩ => !cd.abstract && !cd.hasDel && (sl.toList[4]?).join == some (.builtin "Exception.__new__") && !cd.mro.isEmpty && cd.mro.contains (.ref C) && cd.mro.contains (.type "Exception") && cd.mro.contains (.type "BaseException") &&
   !cd.mro.contains (.type "AttributeError") && !cd.mro.contains (.type "NameError") && specialIn K (.ref C) "__call__" == some (some (.builtin "type.__call__")) && instIn K (.ref C) (.type "type") == some true
 | _ => false
structure ExcMakes (M : Model) (h : Heap) (C : Addr) : Prop where
 obj : ∃ oc od cd sl, h.get? C = some ⟨oc, od, .cls cd, sl⟩ ∧ cd.abstract = false ∧ cd.hasDel = false ∧ cd.mro.isEmpty = false
 made : Looks M h (Bind.madeBy (.ref C)) (some "Exception.__new__")
 base : Looks M h (Bind.staticBase (.ref C)) (.ref C)
 self : Looks M h (isSubtype (.ref C) (.ref C)) true
 exc : Looks M h (isSubtype (.ref C) (.type "Exception")) true
 bexc : Looks M h (isSubtype (.ref C) (.type "BaseException")) true
 attr : Looks M h (isSubtype (.ref C) (.type "AttributeError")) false
 name : Looks M h (isSubtype (.ref C) (.type "NameError")) false
 call : Looks M h (specialOf (.ref C) "__call__") (some (.builtin "type.__call__"))
 typ : Looks M h (isInstance (.ref C) (.type "type")) true
set_option tactic.hygienic true in
theorem excMakes_of {K : Frag} {M : Model} {h : Heap} (X : K.In h) {C : Addr} (e : excIn K C = true) : ExcMakes M h C := by
 unfold excIn at e
 split at e
 ·rename_i oc od cd sl ho
  simp only [Bool.and_eq_true, Bool.not_eq_true', beq_iff_eq] at e
  refine via fun Gv kv => ?_
  obtain ⟨⟨⟨⟨⟨⟨⟨⟨⟨⟨e1, e2⟩, e3⟩, e4⟩, e5⟩, e6⟩, e7⟩, e8⟩, e9⟩, e10⟩, e11⟩ := e
  refine kv ?_
  clear kv Gv
  have hc : clsIn K C = some cd := by unfold clsIn; rw [ho]
  have hm : Looks M h (mroOf (.ref C)) cd.mro := (looks_clsIn X hc).andThen .now
  obtain ⟨c, l, hl⟩ : ∃ c l, cd.mro = c :: l := by induction q : cd.mro using List.casesOn with | nil => rw [q] at e4; cases e4 | cons c l => exact ⟨c, l, rfl⟩
  have made : Looks M h (Bind.madeBy (.ref C)) (some "Exception.__new__") := by
   intro A Q E s k q
   unfold Bind.madeBy
   refine wpAny_bind (hm A _ E s k ?_)
   rw [hl, List.forIn_cons]
   refine wpAny_bind (wpAny_bind (wpAny_bind (wpAny_bind (wpAny_loadPart (k _ _ (X _ _ ho)) (wpAny_pure ?_)))))
   dsimp only
   rw [← Array.getElem?_toList, e3]
   exact wpAny_pure (wpAny_pure (wpAny_pure q))
  have sub : ∀ {b : Value} {r : Bool}, cd.mro.contains b = r → Looks M h (isSubtype (.ref C) b) r := fun {b r} q => looks_mroIn X (by unfold mroIn; rw [hc, Option.bind_some, if_neg (by rw [e4]; decide), q])
  refine ⟨⟨oc, od, cd, sl, X _ _ ho, e1, e2, e4⟩, made, ?_, sub e5, sub e6, sub e7, sub e8, sub e9, looks_specialIn X e10, looks_instIn X e11⟩
  intro A Q E s k q
  unfold Bind.staticBase
  refine wpAny_bind (hm A _ E s k ?_)
  rw [hl, List.forIn_cons]
  exact wpAny_bind (wpAny_bind (wpAny_bind (made A _ E s k (wpAny_pure (wpAny_pure (wpAny_pure q))))))
 ·exact ft e
noncomputable abbrev excObj0 (C t : Addr) : Obj := { cls := .ref C, data := .fields #[.ref t, .none, .none, .none, .bool false, .none] }
section
variable {prog : Program} {w : World} {A : Around} {K : Frag} {C : Addr} {R : Result → Shared → Prop} {h : Heap} {g : Array GenState} {d : Drawn} {t : Nat} {os : OsState}
theorem exc_new {rest : List Value} (Y : ExcMakes (model prog w) h C) (hrest : rest.length ≤ 64)
  (hq : R (.ok (.ret (.ref (h.objs.size + 1)))) ⟨(h.push { cls := .type "tuple", data := .seq rest.toArray }).push (excObj0 C h.objs.size), g, d, t, os⟩) :
  codeAny (model prog w) A (.call (.builtin "Exception.__new__") ⟨.ref C :: rest, []⟩) R ⟨h, g, d, t, os⟩ := by
 refine via fun Gv kv => ?_
 obtain ⟨⟨oc, od, cd, sl, hC, e1, e2, e4⟩, made, base, self, exc, bexc, attr, name, call, typ⟩ := Y
 refine kv ?_
 clear kv Gv
 have F := PySem.F.excBase_Exception
 have hstar := F.noStar
 have hends := F.ends
 have here : Looks (model prog w) h (Bind.madeHere "BaseException.__new__" (.ref C)) () := base.andThen (made.andThen (Looks.of_pure (by simp only [Option.map_some, F.canon, bne_self_eq_false, Bool.false_eq_true, if_false])))
 refine codeAny_call_builtin_code (Code.quiet_builtin _ F.quiet) ?_
 simp only [checkBuiltinCall, F.newKind, F.newSplit, F.newRow]
 repeat (first | simp only [bne_self_eq_false, Bool.false_eq_true, if_false] | lk)
 refine codeAny_builtinAt F.entry ?_
 unfold Builtin.«BaseException.__new__»
 refine wpAt_bind ?_
 show wpAt _ _ _ (stack >>= _) _ _ _
 refine wpAt_bind (wpAt_stack fun p below => wpAt_of_wpAny ?_)
 wp_walk
 refine wpAt_of_wpAny ?_
 rw [F.owner]
 repeat lk
 show wpAny _ _ (newTuple rest) _ _ _
 refine wpAny_newTuple ?_ (hsz := by show rest.length ≤ 2 ^ 24; (exact Nat.le_trans ‹_› (by decide)))
 have hC' := Heap.get?_push_of_some { cls := .type "tuple", data := .seq rest.toArray } hC
 refine wpAny_bind ?_
 show wpAny _ _ (newObjAsIs _ _ _) _ _ _
 unfold newObjAsIs classHasDel
 refine wpAny_bind (wpAny_alloc (wpAny_bind (wpAny_bind (wpAny_load (Heap.get?_push_of_some _ hC') (wpAny_pure ?_)))))
 dsimp only
 rw [e2]
 refine wpAny_pure (wpAny_pure ?_)
 show R _ _
 rw [Heap.size_push]
 exact hq
theorem exc_make {rest : List Value} {fI : Addr} (X : K.In h) (he : excIn K C = true) (hi : findIn K (.ref C) "__init__" = some (some (.ref fI))) (hf : typeIn K (.ref fI) = some (.type "function")) (hrest : rest.length ≤ 64)
  (hq : codeAny (model prog w) (A.under (.builtin "type.__call__" ⟨.ref C :: rest, []⟩)) (.call (.ref fI) ⟨.ref (h.objs.size + 1) :: rest, []⟩) (InitBack (h.objs.size + 1) R) ⟨(h.push { cls := .type "tuple", data := .seq rest.toArray }).push (excObj0 C h.objs.size), g, d, t, os⟩) :
  codeAny (model prog w) A (.call (.ref C) ⟨rest, []⟩) R ⟨h, g, d, t, os⟩ := by
 have Y' := excMakes_of (M := model prog w) X he
 have Y := Y'
 have hi' := looks_findIn (M := model prog w) X hi
 have hb := fun self => bind_fn (M := model prog w) X self hf
 refine via fun Gv kv => ?_
 obtain ⟨⟨oc, od, cd, sl, hC, e1, e2, e4⟩, made, base, self, exc, bexc, attr, name, call, typ⟩ := Y
 refine kv ?_
 clear kv Gv
 refine codeAny_of_tree ?_
 show wpAny _ _ (callAny (.ref C) _) _ _ _
 refine nd_load hC ?_
 show wpAny _ _ (callAny.viaDunder (.ref C) _) _ _ _
 unfold callAny.viaDunder
 refine wpAny_bind (call.at ?_)
 dsimp only
 rw [tc_bind]
 refine wpAny_bind (wpAny_pure (wpAny_bind (wpAny_pure ?_)))
 refine wpAny_pure (a := Fin.again (.call (.builtin "type.__call__") ⟨.ref C :: rest, []⟩)) (And.intro rfl ?_)
 refine codeAny_call_builtin_at (Code.quiet_builtin _ (by decide +kernel)) entry_typeCall (check_slot tc_kind tc_split typ (tc_args _ _ _) ?_)
 unfold Builtin.«type.__call__»
 have hm : ∃ l, Looks (model prog w) h (mroOf (.ref C)) l ∧ l.isEmpty = false := ⟨cd.mro, ((Looks.ld (part := none) hC).andThen .now).andThen .now, e4⟩
 refine o_xa hm fun l hm el => ?_
 repeat (first | simp only [el, Bool.false_eq_true, if_false] | with_reducible refine wpAny_call ?_ | lk)
 refine exc_new Y' hrest ?_
 have k : ∀ b o, h.get? b = some o → ((h.push { cls := .type "tuple", data := .seq rest.toArray }).push (excObj0 C h.objs.size)).get? b = some o := fun b o e => Heap.get?_push_of_some _ (Heap.get?_push_of_some _ e)
 have hx : ((h.push { cls := .type "tuple", data := .seq rest.toArray }).push (excObj0 C h.objs.size)).get? (h.objs.size + 1) = some (excObj0 C h.objs.size) := by heap_get
 have t1 : Looks (model prog w) ((h.push { cls := .type "tuple", data := .seq rest.toArray }).push (excObj0 C h.objs.size)) (typeOf (.ref (h.objs.size + 1))) (.ref C) := (Looks.ld hx).andThen .now
 have s1 := self.keeps k
 have i1 := hi'.keeps k
 have b1 := (hb (.ref (h.objs.size + 1))).keeps k
 unfold isInstance callSpecial? specialOf
 repeat (first | with_reducible refine wpAny_call ?_ | lk)
 refine codeAny_mono hq fun r s' z => ?_
 rcases r with e | (v | _ | _ | _) <;> first | exact z | exact z.elim | skip
 obtain ⟨rfl, z⟩ := z
 exact wpAny_pure (wpAny_pure z)
end
end
section
set_option backward.match.sparseCases false
open PySem PySem.W PySem.Calls PySem.Builtin PySem.Builtin.ObjectAttr
variable {κ κ' : OG}
noncomputable def excTail : List Value → Bool
 | .ref _ :: r => excTail r
 | l => l == [.type "Exception", .type "BaseException", .type "object"]
theorem refuse_tail (self : Value) : ∀ {l : List Value}, excTail l = true → refuseLoop self "__setattr__" l = pure ()
 | .ref c :: r, e => by rw [refuseLoop_ref]; exact refuse_tail self (show excTail r = true from e)
 | [], e => by exact ft e
 | .type n :: r, e => by
  have e' : (.type n :: r : List Value) = [.type "Exception", .type "BaseException", .type "object"] := eq_of_beq e
  rw [e']
  exact PySem.F.store_Exception.passes self
 | .none :: r, e => by have e' := eq_of_beq (show ((.none :: r : List Value) == [.type "Exception", .type "BaseException", .type "object"]) = true from e); cases e'
 | .bool _ :: r, e => by have e' := eq_of_beq (show ((.bool _ :: r : List Value) == [.type "Exception", .type "BaseException", .type "object"]) = true from e); cases e'
 | .int _ _ :: r, e => by have e' := eq_of_beq (show ((.int _ _ :: r : List Value) == [.type "Exception", .type "BaseException", .type "object"]) = true from e); cases e'
 | .float _ _ :: r, e => by have e' := eq_of_beq (show ((.float _ _ :: r : List Value) == [.type "Exception", .type "BaseException", .type "object"]) = true from e); cases e'
 | .str _ _ :: r, e => by have e' := eq_of_beq (show ((.str _ _ :: r : List Value) == [.type "Exception", .type "BaseException", .type "object"]) = true from e); cases e'
 | .bytes _ _ :: r, e => by have e' := eq_of_beq (show ((.bytes _ _ :: r : List Value) == [.type "Exception", .type "BaseException", .type "object"]) = true from e); cases e'
 | .builtin _ :: r, e => by have e' := eq_of_beq (show ((.builtin _ :: r : List Value) == [.type "Exception", .type "BaseException", .type "object"]) = true from e); cases e'
noncomputable def excAttrIn (K : Frag) (C : Addr) : Bool := (clsIn K C).any (fun cd => excTail cd.mro && cd.hasDict && !cd.mro.isEmpty && cd.mro.contains (.type "object") && cd.mro.contains (.type "BaseException")) && findIn K (.ref C) "__setattr__" == some (some (.builtin "object.__setattr__")) &&
 findIn K (.ref C) "__getattribute__" == some (some (.builtin "BaseException.__getattribute__")) && findIn K (.ref C) "__getattr__" == some none
section
variable {prog : Program} {w : World} {A : Around} {E : Value → Shared → Prop} {s : Shared} {K : Frag} {C x : Addr} {name : Str} {v : Value}
noncomputable def OwnNs (h : Heap) (ox : Obj) (x : Addr) (mA : Str → Option Value) : Prop := (ox.dict = none ∧ ∀ n, mA n = none) ∨ ∃ D, ox.dict = some D ∧ D ≠ x ∧ h.Ns1 D mA
theorem exc_set {Q : Unit → Shared → Prop} {ox : Obj} {mA : Str → Option Value} {ns : List Str} (X : K.In s.heap) (e : excAttrIn K C = true) (hx : s.heap.get? x = some ox) (hc : ox.cls = .ref C) (hno : notCls ox = true)
  (hN : OwnNs s.heap ox x mA) (hw : Within mA ns) (hsz : ns.length ≤ 64) (ht : takerIn K C name = some none)
  (hQ : ∀ h' tk D, h'.get? x = some { ox with dict := some D } → D ≠ x → h'.Ns1 D (fun y => if y = name then some v else mA y) →
   (∀ b o, b ≠ x → (∀ dx, ox.dict = some dx → b ≠ dx) → s.heap.get? b = some o → h'.get? b = some o) → (∀ dx, ox.dict = some dx → D = dx) → (ox.dict = none → s.heap.get? D = none) → Q () { s with heap := h', toks := tk }) :
  wpAny (model prog w) A (setAttr (.ref x) name v) Q E s := by
 unfold excAttrIn at e
 simp only [Bool.and_eq_true, beq_iff_eq] at e
 refine via fun Gv kv => ?_
 obtain ⟨⟨⟨ea, es⟩, eg⟩, ek⟩ := e
 refine o_xa (any_some ea) fun cd hcd ea => ?_
 simp only [Bool.and_eq_true, Bool.not_eq_true'] at ea
 obtain ⟨⟨⟨⟨e1, e2⟩, e3⟩, e4⟩, e5⟩ := ea
 have I0 : ∃ od, InstAt s.heap x ox C od := by
  rcases hN with ⟨hd, _⟩ | ⟨D, hd, _, hns⟩
  ·exact ⟨none, hx, hc, hno, by rw [hd]; trivial⟩
  ·refine o_xxxa hns fun o es ep ho _ => ?_
   clear hns
   exact ⟨some o, hx, hc, hno, by rw [hd]; exact ho⟩
 obtain ⟨od, I⟩ := I0
 refine kv ?_
 clear kv Gv
 refine set_plain X I es ?_
 refine via fun Gv kv => ?_
 obtain ⟨hh, g, d, t, os⟩ := s
 refine kv ?_
 clear kv Gv
 dsimp only at X hx hN hQ I ⊢
 have SF := PySem.F.store_object
 have sub : Looks (model prog w) hh (isInstance (.ref x) (.type "object")) true := I.type.andThen (looks_mroIn X (by unfold mroIn; rw [hcd, Option.bind_some, if_neg (by rw [e3]; decide), e4]))
 refine codeAny_call_builtin SF.slot.plain SF.entry (@check_slot (model prog w) _ _ ⟨hh, g, d, t + 1, os⟩ "object.__setattr__" "object" "__setattr__" (.ref x) [.str name t, v] [] _ SF.kind SF.split sub (SF.args (.ref x) (.str name t) v) ?_)
 refine o_xa (Option.bind_eq_some_iff.mp ht) fun attr ha hr => ?_
 have hm : Looks (model prog w) hh (mroOf (.ref C)) cd.mro := (looks_clsIn X hcd).andThen .now
 have L3 : Looks (model prog w) hh (storeTaker? attr) none := by
  induction attr with
  | none => injection hr; exact .now
  | some a =>
   refine o_xa (Option.map_eq_some_iff.mp hr) fun b hb hb' => ?_
   refine (looks_takesIn X hb).andThen ?_
   induction b with
   | false => exact .now
   | true => injection hb'
 rw [osa_eq, refuse_eq]
 refine wpAny_bind (wpAny_bind (I.type.at (wpAny_bind (hm.at ?_))))
 rw [refuse_tail _ e1]
 refine wpAny_pure (wpAny_bind (I.type.at (wpAny_bind ((looks_findIn X ha).at (wpAny_bind (L3.at ?_))))))
 have hfr := (Heap.get?_some_iff.mp hx).2
 refine via fun Gv kv => ?_
 obtain ⟨oc, odi, oda, osl⟩ := ox
 refine kv ?_
 clear kv Gv
 dsimp only at hc hN hQ
 subst hc
 have hnc : ∀ c, oda ≠ .cls c := fun c q => by subst q; exact ft hno
 show wpAny _ _ (storeInOwnDict (.ref x) (.ref C) (.str name t) name v attr.isSome) _ _ _
 refine wpAny_bind (wpAny_pure (wpAny_bind (wpAny_bind (wpAny_loadPart (s := ⟨hh, g, d, t + 1, os⟩) hx (wpAny_bind ((looks_clsIn X hcd).at ?_))))))
 rw [e2]
 rcases hN with ⟨hdn, hmA⟩ | ⟨dx, hdx, hne, hns⟩
 ·dsimp only at hdn
  subst hdn
  simp only [Bool.not_true, Bool.false_eq_true, if_false, typeHasDict, Bool.or_self]
  have hx₁ : (hh.push { cls := .type "dict", data := .dict #[] }).get? x = some ⟨.ref C, none, oda, osl⟩ := Heap.get?_push_of_some _ hx
  have hxs : x ≠ hh.objs.size := Nat.ne_of_lt (Heap.lt_size hx)
  have hgd : ((hh.push { cls := .type "dict", data := .dict #[] }).update x fun o => { cls := o.cls, dict := some hh.objs.size, data := o.data, slots := o.slots }).get? hh.objs.size
    = some { cls := .type "dict", data := .dict #[] } :=
   (Heap.get?_update_ne _ _ _ _ hxs.symm).trans (Heap.get?_push_at rfl rfl)
  have hnd : ((hh.push { cls := .type "dict", data := .dict #[] }).update x fun o => { cls := o.cls, dict := some hh.objs.size, data := o.data, slots := o.slots }).Ns hh.objs.size (fun _ => none) :=
   ⟨_, #[], _, hgd, rfl, fun e he => absurd he (by simp), fun _ => rfl⟩
  refine wpAny_bind (wpAny_alloc' (wpAny_bind (wpAny_update' hx₁ (wpAny_pure (a := some hh.objs.size) ?_))))
  show wpAny _ _ (storeInDict hh.objs.size (.str name t) name v) _ _ _
  unfold storeInDict newKeyGuard
  refine wpAny_bind (wpAny_pure (wpAny_bind (wpAny_nsSet1 (Heap.Ns1.of_empty hnd) fun h' hn' hs => ?_)))
  refine o_xxxaa (hn'.count (Within.cons name v Within.nil)) fun oD esD epD hoD hdD hcD => ?_
  refine wpAny_bind (wpAny_lookBehind hoD (by rw [hdD]; exact pastItsLine_dict (Nat.le_trans hcD (by rw [List.length_cons, List.length_nil, sizeLine_eq]; decide))) ?_)
  refine wpAny_pure ?_
  have hx' : h'.get? x = some { cls := .ref C, dict := some hh.objs.size, data := oda, slots := osl } := by
   refine (hs.2 x hxs).trans (Heap.get?_update_self _ hx₁ ?_)
   induction oda <;> first | rfl | exact hfr
  refine hQ h' _ hh.objs.size hx' hxs.symm ?_ (fun b ob hbx _ hb => (hs.2 b (Nat.ne_of_lt (Heap.lt_size hb))).trans ((Heap.get?_update_ne _ _ _ _ hbx).trans (Heap.get?_push_of_some _ hb))) (fun _ e => by exact nn e) fun _ => Heap.get?_none_of_le (Nat.le_refl _)
  refine o_xxxaaaa hn' fun o' es ep e1 e2 e3 eu e4 => ?_
  clear hn'
  exact ⟨o', es, ep, e1, e2, e3, eu, fun y => by rw [e4 y]; by_cases hy : y = name <;> simp [hy, hmA]⟩
 ·dsimp only at hdx
  subst hdx
  refine wpAny_pure (a := some dx) ?_
  show wpAny _ _ (storeInDict dx (.str name t) name v) _ _ _
  unfold storeInDict newKeyGuard
  refine wpAny_bind (wpAny_pure (wpAny_bind (wpAny_nsSet1 hns fun h' hn' hs => ?_)))
  refine o_xxxaa (hn'.count (Within.cons name v hw)) fun oD esD epD hoD hdD hcD => ?_
  refine wpAny_bind (wpAny_lookBehind hoD (by rw [hdD]; exact pastItsLine_dict (Nat.le_trans hcD (by rw [List.length_cons, sizeLine_eq]; (exact Nat.lt_of_le_of_lt ‹_› (by decide))))) ?_)
  refine wpAny_pure ?_
  exact hQ h' _ dx ((hs.2 x hne.symm).trans hx) hne hn' (fun b ob _ hbd hb => (hs.2 b (hbd dx rfl)).trans hb) (fun _ e => Option.some.inj e) fun e => by injection e
end
end
section
open PySem PySem.W PySem.Calls PySem.Builtin PySem.Builtin.ObjectAttr
variable {κ κ' : OG}
theorem lookIn_of_ns {h : Heap} {D : Addr} {m : Str → Option Value} (x : h.Ns D m) : ∃ o, h.get? D = some o ∧ ∀ n, lookIn n o = some (m n) := by
 refine o_xxxaaa x fun o es ep ho hd hk hm => ?_
 clear x
 refine ⟨o, ho, fun n => ?_⟩
 unfold lookIn
 rw [hd]
 dsimp only
 have hf := hm n
 have hany : es.toList.any (·.refKey) = false := by
  rw [List.any_eq_false]
  intro e he
  refine o_xx (hk e (Array.mem_toList_iff.mp he)) fun k t hh => ?_
  simp [DictEntry.refKey, hh]
 simp only [nsFind, findBy] at hf
 rw [← Array.find?_toList] at hf
 induction q : es.toList.find? (fun e => e.key.isStr n) with
 | some e =>
  rw [← hf]
  have : es.toList.find? (fun e => Value.isStr e.key n) = some e := q
  simp [this]
 | none =>
  have : es.toList.find? (fun e => Value.isStr e.key n) = none := q
  rw [this] at hf
  rw [← hf, hany]
  rfl
section
variable {prog : Program} {w : World} {A : Around} {E : Value → Shared → Prop} {s : Shared} {K : Frag} {C x : Addr} {name : Str} {v : Value}
theorem exc_get {Q : Value → Shared → Prop} {expr : Bool} {ox : Obj} {D : Addr} {mA : Str → Option Value} (X : K.In s.heap) (e : excAttrIn K C = true) (hx : s.heap.get? x = some ox) (hc : ox.cls = .ref C) (hno : notCls ox = true)
  (hd : ox.dict = some D) (hn : s.heap.Ns D mA) (hv : mA name = some v) (hh : handedIn v = true) (hf : findIn K (.ref C) name = some none) (h : ∀ tk, Q v { s with toks := tk }) : wpAny (model prog w) A (getAttr (.ref x) name expr) Q E s := by
 unfold excAttrIn at e
 simp only [Bool.and_eq_true, beq_iff_eq] at e
 refine via fun Gv kv => ?_
 obtain ⟨⟨⟨ea, es⟩, eg⟩, ek⟩ := e
 refine o_xa (any_some ea) fun cd hcd ea => ?_
 simp only [Bool.and_eq_true, Bool.not_eq_true'] at ea
 obtain ⟨⟨⟨⟨e1, e2⟩, e3⟩, e4⟩, e5⟩ := ea
 refine o_xa (lookIn_of_ns hn) fun oD hoD lkD => ?_
 have I : InstAt s.heap x ox C (some oD) := ⟨hx, hc, hno, by rw [hd]; exact hoD⟩
 have hfo : findObj K C (some oD) name = some (.value v) := by
  unfold findObj
  rw [hcd, Option.bind_some, hf, Option.bind_some, Option.bind_some, Option.bind_some]
  have ho : ownOf cd (some oD) name = some (some v) := by unfold ownOf; rw [if_pos e2]; exact (lkD name).trans (by rw [hv])
  dsimp only
  rw [ho]
  rfl
 obtain ⟨h0, g, d, t, os⟩ := s
 refine kv ?_
 clear kv Gv
 dsimp only at X hx hn hoD h I
 have L0 := I.type (M := model prog w)
 have L1 := looks_findIn (M := model prog w) X eg
 have L2 := looks_findIn (M := model prog w) X ek
 have L3 := looks_find (M := model prog w) X I hfo
 have FB := PySem.F.attrBase_Exception
 have sub : Looks (model prog w) h0 (isInstance (.ref x) (.type "BaseException")) true := I.type.andThen (looks_mroIn X (by unfold mroIn; rw [hcd, Option.bind_some, if_neg (by rw [e3]; decide), e5]))
 unfold getAttr getAttrBy
 refine wpAny_bind (wpAny_mkText (wpAny_holding (wpAny_bind (L0.at (wpAny_bind (L1.at ?_))))))
 dsimp only
 rw [show (onTheHeap (.ref C) && Value.builtin "BaseException.__getattribute__" == Value.builtin "object.__getattribute__") = false from by rw [show (Value.builtin "BaseException.__getattribute__" == Value.builtin "object.__getattribute__") = false from by decide +kernel, Bool.and_false], if_neg (by decide)]
 unfold getAttrByItsOwn
 refine wpAny_bind (wpAny_mono (show wpAny _ _ (hookBefore (.ref C)) (fun r s' => r = none ∧ s' = ⟨h0, g, d, t + 1, os⟩) _ _ from by unfold hookBefore; rw [if_pos (show onTheHeap (.ref C) = true from rfl)]; exact L2.at ⟨rfl, rfl⟩) (fun r s' hr => ?_) fun _ _ z => z)
 obtain ⟨rfl, rfl⟩ := hr
 refine wpAny_bind (wpAny_attempt (wpAny_holding ?_))
 unfold callGetattribute
 rw [show (expr && onTheHeap (Value.builtin "BaseException.__getattribute__")) = false from Bool.and_false _, if_neg (by decide)]
 unfold boundAndCalled
 rw [FB.ga.bind]
 refine wpAny_bind (wpAny_pure ?_)
 show wpAny _ _ (call (.builtin "BaseException.__getattribute__") [.ref x, .str name t]) _ _ _
 refine wpAny_call ?_
 refine codeAny_call_builtin FB.ga.plain PySem.F.entry_bexc_ga ?_
 refine @check_slot (model prog w) _ _ ⟨h0, g, d, t + 1, os⟩ "BaseException.__getattribute__" "BaseException" "__getattribute__" (.ref x) [.str name t] [] _ (by decide +kernel) (by decide +kernel) sub (PySem.F.args_bexc_ga (.ref x) (.str name t)) ?_
 refine wpAny_bind (wpAny_pure (wpAny_bind (wpAny_pure (wpAny_bind (L0.at (wpAny_bind (L3.at ?_)))))))
 refine wpAny_pure ?_
 show wpAny _ _ (handedOut v) _ _ _
 rw [handedOut_of hh]
 exact wpAny_pure (h _)
end
end
section
open PySem PySem.W PySem.Calls PySem.Builtin PySem.Builtin.ObjectAttr
open PyProof.Rows (MethodCall_)
variable {κ κ' : OG}
theorem method_line {x name y z : Str} {np apos pos yp zp : Pos} {env : Env} (hl : (apos.endLine == pos.line) = true) : eval (.Call (.Attribute (.Name x np) name apos) [.Name y yp, .Name z zp] [] pos) env = (do
   let ov ← eval (.Name x np) env
   standAt apos.atName
   let (f, first) ← holding [ov] (getMethod ov name (do return (← importBound (.Name x np) env).getD true))
   callWith pos f first (backTo pos (starEach [.Name y yp, .Name z zp] env)) []) := by
 rw [PySem.arm_eval_Call]
 show (eval (.Name x np) env >>= fun ov => standAt apos.atName >>= fun _ => methodCall _ _ _ _ _ _ _ _ _) = _
 unfold methodCall
 have hf : methodCallForm ([Expr.Name y yp, Expr.Name z zp].length + ([] : List Keyword).length) (backTo pos (starEach [.Name y yp, .Name z zp] env)) (backToKw pos (keywordEach [] env)) = true := rfl
 rw [hf]
 have hp : methodCallPos true (.Name x np) env apos pos = pure pos := by unfold methodCallPos; rw [hl]; rfl
 rw [hp]
 rfl
structure InitFn (S : Fixed) (mg mb : Str → Option Value) (fd : FuncData) : Prop where
 body : ∃ p1 p2 p3 p4 p5 p6 p7 p8 p9 p10 p11 p12 p13 p14 : Pos, (p2.endLine == p5.line) = true ∧
  fd.body = .stmts [.Expr (.Call (.Attribute (.Name (Str.ofString "Exception") p1) (Str.ofString "__init__") p2) [.Name (Str.ofString "self") p3, .Name (Str.ofString "message") p4] [] p5) p6,
   .Assign [.Attribute (.Name (Str.ofString "self") p7) (Str.ofString "message") p8] (.Name (Str.ofString "message") p9) p10,
   .Assign [.Attribute (.Name (Str.ofString "self") p11) (Str.ofString "spot") p12] (.Name (Str.ofString "spot") p13) p14]
 kind : fd.scope.kind = .function
 co : fd.scope.isCoroutine = false
 gen : fd.scope.isGenerator = false
 no : ∀ x ∈ fd.scope.names, x.2 ≠ .cell ∧ x.2 ≠ .free
 self : fd.scope.names.lookup (Str.ofString "self") = some .local
 message : fd.scope.names.lookup (Str.ofString "message") = some .local
 spot : fd.scope.names.lookup (Str.ofString "spot") = some .local
 exc : fd.scope.names.lookup (Str.ofString "Exception") = some .globalImplicit
 code : S.B0.CodeRec fd.code fd.qualname
 glob : fd.globals = mainGlobals
 blt : fd.builtins = builtinsNs
 clo : fd.closure = []
 bind2 : ∀ (s : Shared) (e m : Value), S.B0.StaysIn s.heap → ∃ t, BindsTo s fd ⟨[e, m], []⟩ [(Str.ofString "self", e), (Str.ofString "message", m), (Str.ofString "spot", .int 0 t)]
 bind3 : ∀ (s : Shared) (e m p : Value), S.B0.StaysIn s.heap → BindsTo s fd ⟨[e, m, p], []⟩ [(Str.ofString "self", e), (Str.ofString "message", m), (Str.ofString "spot", p)]
 nameG : mg (Str.ofString "Exception") = none
 nameB : mb (Str.ofString "Exception") = some (.type "Exception")
structure ExcCls (S : Fixed) (K : Frag) (fI : Addr) (C : Addr) : Prop where
 make : excIn K C = true
 init : findIn K (.ref C) (Str.ofString "__init__") = some (some (.ref fI))
 attr : excAttrIn K C = true
 msg : findIn K (.ref C) (Str.ofString "message") = some none
 spt : findIn K (.ref C) (Str.ofString "spot") = some none
section
variable {prog : Program} {w : World} {A : Around} {E : Value → Shared → Prop} {s : Shared} {K : Frag}
theorem method_excInit {pl : Sem Bool} {Q : Value × List Value → Shared → Prop} (X : K.In s.heap) (e : findCls K (.type "Exception") (.type "type") (Str.ofString "__init__") = some (.val (.builtin "Exception.__init__")))
  (h : ∀ tk, Q (.builtin "Exception.__init__", []) { s with toks := tk }) : wpAny (model prog w) A (getMethod (.type "Exception") (Str.ofString "__init__") pl) Q E s := by
 have hstub : opaqueClassAbove (.type "Exception") = pure none := by unfold opaqueClassAbove; dsimp only; rw [show Manifest.isStub "Exception" = false from by decide +kernel]; rfl
 have L0 : Looks (model prog w) s.heap (typeOf (.type "Exception")) (.type "type") := Looks.of_pure (by kernel_rfl)
 have hg : findIn K (.type "type") "__getattribute__" = some (some (.builtin "type.__getattribute__")) := type_tga
 unfold getMethod specialOf
 refine wpAny_bind (wpAny_bind (L0.here ((looks_findIn X hg).here ?_)))
 dsimp only
 rw [if_pos (by decide +kernel)]
 refine wpAny_bind (wpAny_mono (Q := fun v => Q (v, [])) (E := E) ?_ (fun _ _ z => wpAny_pure z) fun _ _ z => z)
 have LO : Looks (model prog w) s.heap (opaqueClassAbove (.type "Exception")) none := Looks.of_pure hstub
 refine cls_open X LO L0 hg (looks_hook X (r := none) (by rfl)) (by show subIn K _ _ = _; rfl) e
  (wpAny_pure (by show wpAny _ _ (handedOut _) _ _ _; rw [handedOut_of (by decide +kernel)]; exact wpAny_pure (h _)))
theorem excInit_call {Q : Value → Shared → Prop} {C x t0 : Addr} {m : Value} (X : K.In s.heap) (he : excIn K C = true) (hx : s.heap.get? x = some (excObj0 C t0))
  (h : ∀ h' tk t1, h'.get? x = some (excObj0 C t1) → (∀ b o, b ≠ x → s.heap.get? b = some o → h'.get? b = some o) → Q .none { s with heap := h', toks := tk }) :
  wpAny (model prog w) A (call (.builtin "Exception.__init__") [.ref x, m]) Q E s := by
 have F := PySem.F.excBase_Exception
 refine via fun Gv kv => ?_
 obtain ⟨h0, g, d, t, os⟩ := s
 refine kv ?_
 clear kv Gv
 dsimp only at X hx h
 have Y := excMakes_of (M := model prog w) X he
 have L0 : Looks (model prog w) h0 (typeOf (.ref x)) (.ref C) := (Looks.ld hx).andThen .now
 have L1 : Looks (model prog w) h0 (isInstance (.ref x) (.type "Exception")) true := L0.andThen Y.exc
 refine wpAny_call (codeAny_call_builtin F.init.plain F.initEntry ?_)
 have hshort := F.noStar
 have hx1 := Heap.get?_push_of_some { cls := .type "tuple", data := .seq #[m] } hx
 simp only [checkBuiltinCall, F.initKind, F.initSplit, F.initRow]
 refine via fun Gv kv => ?_
 obtain ⟨⟨oc, od, cd, sl, hC, _⟩, _⟩ := Y
 refine kv ?_
 clear kv Gv
 repeat (first | refine wpAny_of_eq (check_star_args _ _ _ _ _ _) ?_ | lk)
 repeat lk
 have hfr : (Obj.mapFields (fun x => x.setIfInBounds 0 (Value.ref h0.objs.size)) (excObj0 C t0)).isFreed = false := rfl
 show wpAny _ _ (update x _) _ _ _
 refine wpAny_update' hx1 ?_
 show wpAny _ _ (letGo _) _ _ _
 refine wpAny_letGo ?_
 refine wpAny_pure ?_
 refine h _ _ h0.objs.size (Heap.get?_update_self _ hx1 hfr) fun b o hb ho => (Heap.get?_update_other _ _ (Ne.symm hb)).trans (Heap.get?_push_of_some _ ho)
end
end
section
open PySem PySem.W PySem.Calls PySem.Builtin PySem.Builtin.ObjectAttr
open PyProof.Rows (MethodCall_)
variable {κ κ' : OG}
structure ExcFacts (S : Fixed) (K : Frag) (fI : Addr) (mg mb : Str → Option Value) : Prop where
 frag : K.In S.B0
 g : S.B0.Ns mainGlobals mg
 b : S.B0.Ns builtinsNs mb
 lim : S.B0.NoLimit
 fn : ∃ oI fd, S.B0.get? fI = some oI ∧ oI.data = .func fd ∧ InitFn S mg mb fd
 fty : typeIn K (.ref fI) = some (.type "function")
 cls : ∀ c, c ≤ 2 → ExcCls S K fI (S.exc c)
 init : findCls K (.type "Exception") (.type "type") (Str.ofString "__init__") = some (.val (.builtin "Exception.__init__"))
 taker : ∀ c, c ≤ 2 → takerIn K (S.exc c) (Str.ofString "message") = some none ∧ takerIn K (S.exc c) (Str.ofString "spot") = some none
 tty : ∀ c, c ≤ 2 → typeIn K (.ref (S.exc c)) = some (.type "type")
 names : ∀ k x, cx0.excs[k]? = some x → k ≤ 1 ∧ mg x = some (.ref (S.exc k))
 same : S.exc 2 = S.exc 0
 keep : ∀ c, c ≤ 2 → keepIn K (.ref (S.exc c)) = true
 isX : S.X = XFly S
theorem notCls_fields {o : Obj} {vs : Array Value} (h : o.data = .fields vs) : notCls o = true := by unfold notCls; rw [h]
section
variable {S : Fixed} {K : Frag} {fI : Addr} {mg mb : Str → Option Value}
theorem exc_call_all (X : ExcFacts S K fI mg mb) {c : Nat} (hc : c ≤ 2) {A : Around} {s : Shared} {Q E : Value → Shared → Prop} (room : A.depth + 3 < recursionLimit) (st : Stays S s.heap (og s)) {rest : List Value} {p : Dat} {x : Str} {t : Tok}
  (hr : (rest = [.str x t] ∧ p = .int 0) ∨ ∃ pv, rest = [.str x t, pv] ∧ DatH S.Ω s.heap pv p)
  (h : ∀ e s', XNew S s'.heap e c p → Keep S s.heap s'.heap (og s') → s.heap.get? e = none → All s.heap s'.heap → Q (.ref e) s') : wpAny S.M A (call (.ref (S.exc c)) rest) Q E s := by
 refine o_xxaa X.fn fun oI fd hfI hfd F => ?_
 have XC := X.cls c hc
 have KI : K.In s.heap := X.frag.keeps st.base
 have hlen : rest.length ≤ 64 := by rcases hr with ⟨rfl, _⟩ | ⟨pv, rfl, _⟩ <;> simp
 refine via fun Gv kv => ?_
 obtain ⟨h0, g, d, tk, os⟩ := s
 refine kv ?_
 clear kv Gv
 dsimp only at st KI h hr
 refine wpAny_call (exc_make KI XC.make XC.init X.fty hlen ?_)
 generalize hH : (h0.push { cls := .type "tuple", data := .seq rest.toArray }).push (excObj0 (S.exc c) h0.objs.size) = H
 have k0 : All h0 H := fun b o e => by rw [← hH]; exact Heap.get?_push_of_some _ (Heap.get?_push_of_some _ e)
 have hx0 : H.get? (h0.objs.size + 1) = some (excObj0 (S.exc c) h0.objs.size) := by rw [← hH]; heap_get
 have hnew : h0.get? (h0.objs.size + 1) = none := Heap.get?_none_of_le (Nat.le_succ _)
 generalize hx : h0.objs.size + 1 = e at hx0 hnew ⊢
 have st1 : Stays S H (os, g) := st.all k0
 have hdep : (A.under (.builtin "type.__call__" ⟨.ref (S.exc c) :: rest, []⟩)).depth < recursionLimit := by
  show A.depth + Code.weight _ < recursionLimit
  have : Code.weight (.builtin "type.__call__" ⟨.ref (S.exc c) :: rest, []⟩) = 1 := by kernel_rfl
  lia
 obtain ⟨pv, hbind, Dp⟩ : ∃ pv, BindsTo (⟨H, g, d, tk, os⟩ : Shared) fd ⟨.ref e :: rest, []⟩ [(Str.ofString "self", .ref e), (Str.ofString "message", .str x t), (Str.ofString "spot", pv)] ∧ DatH S.Ω h0 pv p := by
  rcases hr with ⟨rfl, rfl⟩ | ⟨pv, rfl, D⟩
  ·obtain ⟨t', hb⟩ := F.bind2 ⟨H, g, d, tk, os⟩ (.ref e) (.str x t) st1.base
   exact ⟨_, hb, .int 0 t'⟩
  ·exact ⟨pv, F.bind3 _ _ _ _ st1.base, D⟩
 refine o_xxxxxxxxxxxxxxa F.body fun p1 p2 p3 p4 p5 p6 p7 p8 p9 p10 p11 p12 p13 p14 hline hbody => ?_
 refine codeAny_call_def hdep (st1.base _ _ hfI) hfd (X.lim.keeps st1.base) (F.code.keeps st1.base) hbody hbind (fun y hy => (F.no y hy).1) ?_ (fun h₁ hns hall => ?_) F.co F.gen F.kind
 ·intro y hy
  rcases List.mem_cons.mp hy with rfl | hy
  ·exact F.self
  rcases List.mem_cons.mp hy with rfl | hy
  ·exact F.message
  rcases List.mem_cons.mp hy with rfl | hy
  ·exact F.spot
  ·cases hy
 generalize hA : (A.under (.builtin "type.__call__" ⟨.ref (S.exc c) :: rest, []⟩)).deeper (callEnv fd H.objs.size fI) = A'
 generalize hL : H.objs.size = L at hns hA ⊢
 have hLe : e ≠ L := by rw [← hL]; exact Nat.ne_of_lt (Heap.lt_size hx0)
 have hk : (callEnv fd L fI).scope.kind = .function := F.kind
 have k1 : All h0 h₁ := fun b o e => hall b o (k0 b o e)
 have st2 : Stays S h₁ (os, g) := st.all k1
 have hx1 : h₁.get? e = some (excObj0 (S.exc c) h0.objs.size) := hall _ _ hx0
 have v1 : (fun x_1 => List.lookup x_1 [(Str.ofString "self", Value.ref e), (Str.ofString "message", Value.str x t), (Str.ofString "spot", pv)].reverse) (Str.ofString "self") = some (.ref e) := by rfl
 have v2 : (fun x_1 => List.lookup x_1 [(Str.ofString "self", Value.ref e), (Str.ofString "message", Value.str x t), (Str.ofString "spot", pv)].reverse) (Str.ofString "message") = some (.str x t) := by rfl
 have v3 : (fun x_1 => List.lookup x_1 [(Str.ofString "self", Value.ref e), (Str.ofString "message", Value.str x t), (Str.ofString "spot", pv)].reverse) (Str.ofString "spot") = some pv := by rfl
 generalize (fun x_1 => List.lookup x_1 [(Str.ofString "self", Value.ref e), (Str.ofString "message", Value.str x t), (Str.ofString "spot", pv)].reverse) = mL at hns v1 v2 v3
 have ld : ∀ {s' : Shared} {y : Str} {u : Value} {py : Pos} {Q' E' : Value → Shared → Prop}, s'.heap.Ns L mL → fd.scope.names.lookup y = some .local → mL y = some u → (y == ("__debug__" : Str)) = false → Q' u s' → wpAny S.M A' (eval (.Name y py) (callEnv fd L fI)) Q' E' s' :=
  fun hn hl hv hd hq => wpAny_Name (wpAny_loadName_local hk hl hn hv hq) hd
 refine wpAny_execs_cons (wpAny_Expr (hi := by unfold interactive; rw [hk]; rfl) (hs := rfl) ?_)
 refine MethodCall_ (pl := (do return (← importBound (.Name (Str.ofString "Exception") p1) (callEnv fd L fI)).getD true)) ?_ (method_line hline)
 refine Calls.Name_function_global hk F.exc (Calls.loadGlobal_builtin (by show Heap.Ns _ fd.globals mg; rw [F.glob]; exact X.g.keeps st2.base) F.nameG (by show Heap.Ns _ fd.builtins mb; rw [F.blt]; exact X.b.keeps st2.base) F.nameB ?_) (by decide)
 refine method_excInit (X.frag.keeps st2.base) X.init fun tk1 => ?_
 refine Calls.callWith_builtin rfl (Calls.evalArgs_plain (Calls.spliced_cons (ld hns F.self v1 (by decide) (Calls.spliced_cons (ld hns F.message v2 (by decide) (Calls.spliced_nil ?_))))))
 refine excInit_call (t0 := h0.objs.size) (X.frag.keeps st2.base) XC.make hx1 fun h₂ tk2 t1 hx2 k2 => ?_
 have ne2 : ∀ b o, h0.get? b = some o → b ≠ e := fun b o hb q => by rw [q, hnew] at hb; exact nn hb
 have up2 : All h0 h₂ := fun b o hb => k2 b o (ne2 b o hb) (k1 b o hb)
 have st3 : Stays S h₂ (os, g) := st.all up2
 have hns2 : h₂.Ns L mL := by
  refine o_xxxa hns fun o es ep ho r => ?_
  clear hns
  exact ⟨o, es, ep, k2 _ _ (Ne.symm hLe) ho, r⟩
 have KI2 : K.In h₂ := X.frag.keeps st3.base
 refine wpAny_execs_cons (plainObj_wpAny_Assign_Attribute (ld (s' := ⟨h₂, _, _, _, _⟩) hns2 F.message v2 (by decide) (ld (s' := ⟨h₂, _, _, _, _⟩) hns2 F.self v1 (by decide) ?_)) rfl)
 refine exc_set (s := ⟨h₂, _, _, _, _⟩) (ox := excObj0 (S.exc c) t1) (mA := fun _ => none) KI2 XC.attr hx2 rfl rfl (.inl ⟨rfl, fun _ => rfl⟩) Within.nil (by simp) (X.taker c hc).1 fun h₃ tk3 D hx3 hDe hD3 k3 _ hDn => ?_
 have hDn' : h₂.get? D = none := hDn rfl
 have k3' : ∀ b o, b ≠ e → h₂.get? b = some o → h₃.get? b = some o := fun b o hb ho => k3 b o hb (fun dx q => by injection q) ho
 have up3 : All h0 h₃ := fun b o hb => k3' b o (ne2 b o hb) (up2 b o hb)
 have st4 : Stays S h₃ (os, g) := st.all up3
 have hns3 : h₃.Ns L mL := by
  refine o_xxxa hns2 fun o es ep ho r => ?_
  clear hns2
  exact ⟨o, es, ep, k3' _ _ (Ne.symm hLe) ho, r⟩
 have hDL : L ≠ D := fun q => by
  refine o_xxxa hns2 fun o es ep ho r => ?_
  clear hns2
  rw [← q, ho] at hDn'
  exact ns hDn'
 refine wpAny_execs_cons (plainObj_wpAny_Assign_Attribute (ld (s' := ⟨h₃, _, _, _, _⟩) hns3 F.spot v3 (by decide) (ld (s' := ⟨h₃, _, _, _, _⟩) hns3 F.self v1 (by decide) ?_)) rfl)
 refine exc_set (s := ⟨h₃, _, _, _, _⟩) (X.frag.keeps st4.base) XC.attr hx3 rfl rfl (.inr ⟨D, rfl, hDe, hD3⟩) (Within.cons _ _ Within.nil) (by simp) (X.taker c hc).2 fun h₄ tk4 D' hx4 hDe4 hD4 k4 hDD _ => ?_
 have hDD' : D' = D := hDD D rfl
 subst hDD'
 have up4 : All h0 h₄ := fun b o hb => k4 b o (ne2 b o hb) (fun dx q r => by obtain rfl := si q; rw [r] at hb; have := up2 _ _ hb; rw [hDn'] at this; injection this) (up3 b o hb)
 refine wpAny_execs_nil ⟨rfl, ?_⟩
 refine h e _ ⟨_, _, ⟨hx4, rfl, rfl, by simp, fun _ => by simp, ?_, D', _, pv, x, t, rfl, hD4.ns, ?_, Dp.up (Up.of_all up4), ?_⟩, by simp⟩ ⟨Up.of_all up4, st.all up4⟩ hnew up4
 ·induction hq : S.B0.get? e with
  | none => rfl
  | some o => have := st.base _ _ hq; rw [hnew] at this; exact nn this
 ·simp
 ·rfl
theorem exc_call (X : ExcFacts S K fI mg mb) {c : Nat} (hc : c ≤ 2) {A : Around} {s : Shared} {Q E : Value → Shared → Prop} (room : A.depth + 3 < recursionLimit) (st : Stays S s.heap (og s)) {rest : List Value} {p : Dat} {x : Str} {t : Tok}
  (hr : (rest = [.str x t] ∧ p = .int 0) ∨ ∃ pv, rest = [.str x t, pv] ∧ DatH S.Ω s.heap pv p)
  (h : ∀ e s', XNew S s'.heap e c p → Keep S s.heap s'.heap (og s') → s.heap.get? e = none → Q (.ref e) s') : wpAny S.M A (call (.ref (S.exc c)) rest) Q E s :=
 exc_call_all X hc room st hr fun e s' x k n _ => h e s' x k n
end
end
section
open PySem PySem.W PySem.Calls PySem.Builtin PySem.Builtin.ObjectAttr
variable {κ κ' : OG}
section
variable {S : Fixed} {K : Frag} {fI : Addr} {mg mb : Str → Option Value}
theorem xnew_looks (X : ExcFacts S K fI mg mb) {c : Nat} (hc : c ≤ 2) {h : Heap} {e : Addr} {oe : Obj} {vs : Array Value} {p : Dat} (st : Stays S h κ) (x : XAt S h e c p oe vs) :
  Looks S.M h (isExcClass (.ref e)) false ∧ Looks S.M h (isInstance (.ref e) (.type "BaseException")) true ∧ Looks S.M h (isType (.ref e)) false ∧ Looks S.M h (raisedInstance (.ref e)) (.ref e) := by
 have KI : K.In h := X.frag.keeps st.base
 have Y := excMakes_of (M := S.M) KI (X.cls c hc).make
 have hg := x.get
 refine via fun Gv kv => ?_
 obtain ⟨oc, od, oda, osl⟩ := oe
 refine kv ?_
 clear kv Gv
 have hcl : oc = .ref (S.exc c) := x.cls
 have hda : oda = .fields vs := x.data
 subst hcl
 subst hda
 have L0 : Looks S.M h (typeOf (.ref e)) (.ref (S.exc c)) := (Looks.ld hg).andThen .now
 have L1 : Looks S.M h (isType (.ref e)) false := (Looks.ld hg).andThen .now
 have L2 : Looks S.M h (typeOf (.ref (S.exc c))) (.type "type") := looks_typeIn KI (X.tty c hc)
 exact ⟨L1.andThen .now, L0.andThen Y.bexc, L1, L0.andThen (L2.andThen .now)⟩
theorem raise_made (X : ExcFacts S K fI mg mb) {c : Nat} (hc : c ≤ 2) {A : Around} {env : Env} {x : Sem Value} {s : Shared} {p : Dat} {Q : Flow → Shared → Prop} {E : Value → Shared → Prop} (hh : A.handled = none)
  (h : wpAny S.M A x (fun v s₁ => ∃ e, v = .ref e ∧ XNew S s₁.heap e c p ∧ Stays S s₁.heap (og s₁) ∧ E (.ref e) s₁) E s) : wpAny S.M A (raiseStmt env (some x) none) Q E s := by
 unfold raiseStmt
 refine wpAny_bind (wpAny_mono h (fun v s₁ h₁ => ?_) fun _ _ y => y)
 refine via fun Gv kv => ?_
 refine o_xaaa h₁ fun e q1' r2' st hE => ?_
 clear h₁
 subst q1'
 obtain ⟨oe, vs, x, h1⟩ := r2'
 refine o_aaa (xnew_looks X hc st x) fun L1 L2 L3 L4 => ?_
 obtain ⟨hp, g, d, tk, os⟩ := s₁
 refine kv ?_
 clear kv Gv
 refine wpAny_bind (wpAny_pure (wpAny_bind (wpAny_holding ?_)))
 unfold excFromValue
 refine wpAny_bind (L1.at ?_)
 rw [if_neg (by decide)]
 refine wpAny_bind (L2.at ?_)
 rw [if_pos rfl]
 refine wpAny_pure ?_
 refine wpAny_bind (L3.at ?_)
 rw [if_neg (by decide)]
 refine wpAny_bind (L4.at ?_)
 unfold setFlight
 refine wpAny_bind (wpAny_bind (wpAny_field x.get x.data h1 ?_))
 rw [if_neg (by decide)]
 exact wpAny_pure (wpAny_raiseNew_none hh hE)
end
section
variable {S : Fixed} {t : Tabs} {n : Nat} {ρ : List Dat} {out : Out} {fa : Nat → Addr} {mg mb : Str → Option Value} {K : Frag} {fI : Addr}
theorem lenB_str {h : Heap} {v : Value} {d : Dat} {k : Nat} (D : DatH S.Ω h v d) (e : lenB d = some k) : ∃ x tk, v = .str x tk := by
 induction d using Dat.casesOn with
 | str c => obtain ⟨x, tk, rfl, _⟩ := datStr D; exact ⟨x, tk, rfl⟩
 | txt m => obtain ⟨x, tk, rfl, _⟩ := D.ix; exact ⟨x, tk, rfl⟩
 | _ => exact nn e
theorem raisR_inv {k : Nat} {ds : List Dat} {out : Out} (h : raisR k ds = some out) : ∃ m j, lenB m = some j ∧ ((ds = [m] ∧ out = .err k (.int 0)) ∨ ∃ d, ds = [m, d] ∧ out = .err k d) := by
 unfold raisR at h
 induction ds using List.casesOn with
 | nil => exact nn h
 | cons m r =>
  dsimp only at h
  induction hl : lenB m with
  | none => rw [hl] at h; exact nn h
  | some j =>
   rw [hl] at h
   dsimp only at h
   induction r using List.casesOn with
   | nil => obtain rfl := si h; exact ⟨m, j, hl, .inl ⟨rfl, rfl⟩⟩
   | cons d r => induction r using List.casesOn with
    | nil => obtain rfl := si h; exact ⟨m, j, hl, .inr ⟨d, rfl, rfl⟩⟩
    | cons _ _ => exact nn h
theorem exc_eval (I : SoundE S t n) (G : Globs S t fa mg mb) (X : ExcFacts S K fI mg mb) {k : Nat} (hk : k ≤ 1) {A : Around} {env : Env} {xs : List Str} {s : Shared} {x : Str} {np cp : Pos} {a : M} {Q E : Value → Shared → Prop} {out : Out}
  (h : andS (runT t n (.exs a) ρ) (raisR k) = some out) (hg : okGlob env.scope.names x = true) (hm : mg x = some (.ref (S.exc k))) (ha : okM env.scope.names xs a = true) (h3 : some1 a = true) (h4 : allPlain a = true) (C : Cond S (n + 1) A env xs ρ s.heap (og s))
  (room : A.depth + 3 < recursionLimit)
  (perr : ∀ c p, out = .err c p → ∀ e s', S.X s'.heap e c p → Keep S s.heap s'.heap (og s') → E (.ref e) s')
  (nxt : ∀ e s' d, out = .err k d → XNew S s'.heap e k d → Keep S s.heap s'.heap (og s') → Q (.ref e) s') : wpAny S.M A (eval (.Call (.Name x np) (toEs a) [] cp) env) Q E s := by
 have C' := C.less (Nat.le_succ n)
 refine wpAny_Call_ofName (name_top G C hg hm ?_)
 refine callWith_of (P := fun h => K.In h) (by rw [plain_args a cp env h4]; rfl) (keeps_K (X.keep k (by (exact Nat.le_trans ‹_› (by decide))))) ?_
 refine args_at I h h3 ha C' perr fun ds vs s₁ hr D K1 => ⟨X.frag.keeps K1.stays.base, ?_⟩
 refine o_xxa (raisR_inv hr) fun m j hl hout => ?_
 show wpAny S.M A (call (.ref (S.exc k)) ([] ++ vs) []) Q E s₁
 rw [List.nil_append]
 rcases hout with ⟨rfl, ho⟩ | ⟨d, rfl, ho⟩
 ·refine o_xa D.i1 fun v q Dm => ?_
  subst q
  ·refine o_xx (lenB_str Dm hl) fun y tk q2' => ?_
   subst q2'
   exact exc_call X (by omega) room K1.stays (.inl ⟨rfl, rfl⟩) fun e s' x k' _ => nxt e s' _ ho x (K1.trans k')
 ·refine o_xxaa D.i2 fun v w q Dm Dd => ?_
  subst q
  ··refine o_xx (lenB_str Dm hl) fun y tk q2' => ?_
    subst q2'
    exact exc_call X (by omega) room K1.stays (.inr ⟨_, rfl, Dd⟩) fun e s' x k' _ => nxt e s' _ ho x (K1.trans k')
theorem st_rais (I : SoundE S t n) (G : Globs S t fa mg mb) (X : ExcFacts S K fI mg mb) {k : Nat} {x : Str} {np cp p : Pos} {a : M} (h : sRais k (runT t n) ρ a = some out) :
  StOk S (n + 1) (toS (.u (.rais k x np cp p) a)) (fun sc xs => okSt sc xs (.u (.rais k x np cp p) a)) ρ out := by
 intro A env xs s h0 outer Q E hok T P
 have hok' : (okM env.scope.names xs a && (okGlob env.scope.names x && at? cx0.excs k x && some1 a && allPlain a)) = true := hok
 simp only [Bool.and_eq_true] at hok'
 refine via fun Gv kv => ?_
 refine o_aa hok' fun h1 r1' h4 => ?_
 clear hok'
 obtain ⟨⟨h2, h5⟩, h3⟩ := r1'
 obtain ⟨hk, hm⟩ := X.names k x (at?_eq h5)
 refine kv ?_
 clear kv Gv
 refine one_stmt ?_
 rw [PySem.arm_exec_Raise]
 refine wpAny_bind (wpAny_standAt ?_)
 have fin : ∀ c0 d, out = .err c0 d → wpAny S.M A (raiseStmt env (some (do let v ← eval (.Call (.Name x np) (toEs a) [] cp) env; standAt p; pure v)) none) Q E s := fun c0 d ho => by
  refine raise_made X (c := k) (p := d) (by (exact Nat.le_trans ‹_› (by decide))) T.cond.handled (wpAny_bind (exc_eval I G X hk h h2 hm h1 h3 h4 T.cond (by have := T.cond.room; lia) (PostF.perr T P) fun e s' d' ho' x K1 => wpAny_bind (wpAny_standAt (wpAny_pure ?_))))
  rw [ho] at ho'
  cases ho'
  refine ⟨e, rfl, x, K1.stays, PostF.perr T P k d ho e s' (by rw [X.isX]; exact .inl x) K1⟩
 rcases andS_inv (show andS (runT t n (.exs a) ρ) (raisR k) = some out from h) with ⟨ds, hds, hr⟩ | ⟨c, q, hds, ho⟩
 ·obtain ⟨m, j, hl, ⟨rfl, ho⟩ | ⟨d, rfl, ho⟩⟩ := raisR_inv hr
  ·exact fin _ _ ho
  ·exact fin _ _ ho
 ·exact fin _ _ ho
end
end
section
open PySem PySem.W PySem.Calls PySem.Builtin PySem.Builtin.ObjectAttr
open PyProof.Rows (Attribute_name)
variable {κ κ' : OG}
structure InstIs (h : Heap) (v : Value) (C : Addr) (m : Str → Option Value) : Prop where
 ex : ∃ x o D, v = .ref x ∧ h.get? x = some o ∧ o.cls = .ref C ∧ notCls o = true ∧ o.dict = some D ∧ h.Ns D m
theorem InstIs.keeps {h h' : Heap} {v : Value} {C : Addr} {m : Str → Option Value} (x : InstIs h v C m) (k : ∀ b o, h.get? b = some o → h'.get? b = some o) : InstIs h' v C m := by
 refine o_xxxaaaaa x.ex fun a o D e1 e2 e3 e4 e5 e6 => ?_
 exact ⟨a, o, D, e1, k _ _ e2, e3, e4, e5, e6.keeps k⟩
noncomputable def objIn (K : Frag) (C : Addr) : Bool := plainGet K C (Str.ofString "") && (clsIn K C).any (·.hasDict)
section
variable {prog : Program} {w : World} {A : Around} {E : Value → Shared → Prop} {s : Shared} {K : Frag} {C : Addr} {name : Str} {v u : Value} {m : Str → Option Value}
theorem inst_get {Q : Value → Shared → Prop} {expr : Bool} (X : K.In s.heap) (I : InstIs s.heap v C m) (hk : objIn K C = true) (hf : findIn K (.ref C) name = some none) (hm : m name = some u) (hh : handedIn u = true)
  (h : ∀ tk, Q u { s with toks := tk }) : wpAny (model prog w) A (getAttr v name expr) Q E s := by
 refine o_xxxaaaaa I.ex fun x o D q3' hx hc hno hd hn => ?_
 subst q3'
 refine b_Lnn hk fun h1 h2 => ?_
 refine o_xa (any_some h2) fun cd hcd hdict => ?_
 refine o_xa (lookIn_of_ns hn) fun oD hoD lkD => ?_
 have J : InstAt s.heap x o C (some oD) := ⟨hx, hc, hno, by rw [hd]; exact hoD⟩
 have hfo : findObj K C (some oD) name = some (.value u) := by
  unfold findObj
  rw [hcd, Option.bind_some, hf, Option.bind_some, Option.bind_some, Option.bind_some]
  have ho : ownOf cd (some oD) name = some (some u) := by unfold ownOf; rw [if_pos hdict]; exact (lkD name).trans (by rw [hm])
  dsimp only
  rw [ho]
  rfl
 exact get_value X J (plainGet_of h1).1 hfo hh (h _)
theorem inst_method {Q : Value × List Value → Shared → Prop} {pl : Sem Bool} {f : Addr} (X : K.In s.heap) (I : InstIs s.heap v C m) (hk : objIn K C = true) (hf : findIn K (.ref C) name = some (some (.ref f))) (ht : isFn K (.ref f) = true) (hm : m name = none)
  (h : Q (.ref f, [v]) s) : wpAny (model prog w) A (getMethod v name pl) Q E s := by
 refine o_xxxaaaaa I.ex fun x o D q3' hx hc hno hd hn => ?_
 subst q3'
 refine b_Lnn hk fun h1 h2 => ?_
 refine o_xa (lookIn_of_ns hn) fun oD hoD lkD => ?_
 have J : InstAt s.heap x o C (some oD) := ⟨hx, hc, hno, by rw [hd]; exact hoD⟩
 exact method_fn X J (plainGet_of h1).1 (plainGet_of h1).2 hf (beq_iff_eq.mp ht) (by show (lookIn name oD).map _ = _; rw [lkD, hm]; rfl) h
theorem method_at {o : Expr} {apos pos : Pos} {args : List Expr} {env : Env} {Q : Value → Shared → Prop} (hb : attributeBase o name env (eval o env) = eval o env) (hl : (apos.endLine == pos.line) = true)
  (hp : (backTo pos (starEach args env)).any (·.1) = false) (hn : args.length < 30)
  (h : wpAny (model prog w) A (eval o env) (fun ov s₁ => ∀ pl, wpAny (model prog w) A (getMethod ov name pl) (fun fx s₂ => wpAny (model prog w) A (callWith pos fx.1 fx.2 (backTo pos (starEach args env)) []) Q E s₂) E s₁) E s) :
  wpAny (model prog w) A (eval (.Call (.Attribute o name apos) args [] pos) env) Q E s := by
 rw [PySem.arm_eval_Call, hb]
 refine wpAny_bind (wpAny_mono h (fun ov s₁ h₁ => wpAny_bind (wpAny_standAt ?_)) fun _ _ y => y)
 unfold methodCall
 have hf : methodCallForm (args.length + ([] : List Keyword).length) (backTo pos (starEach args env)) (backToKw pos (keywordEach [] env)) = true := by
  unfold methodCallForm
  have : (backTo pos (starEach args env)).all (fun x => !x.1) = true := by
   rw [List.all_eq_true]
   intro q hq
   have := List.any_eq_false.mp hp q hq
   simpa using this
  simp only [this, Bool.true_and]
  show (true && decide (args.length + 0 + 0 < 30)) = true
  simp [hn]
 rw [hf]
 have hpos : methodCallPos true o env apos pos = pure pos := by unfold methodCallPos; rw [hl]; rfl
 rw [hpos]
 refine wpAny_bind (wpAny_holding (wpAny_mono (h₁ _) (fun fx s₂ h₂ => ?_) fun _ _ y => y))
 exact h₂
end
structure WorldFacts (S : Fixed) (K : Frag) (fm : Nat → Addr) (fb : Addr) (CC WC RC : Addr) (mk mw mr : Str → Option Value) : Prop where
 frag : K.In S.B0
 chk : InstIs S.B0 (S.Ω 0) CC mk
 chkC : objIn K CC = true
 world : findIn K (.ref CC) (Str.ofString "world") = some none ∧ mk (Str.ofString "world") = some (S.Ω 1)
 meth : ∀ j x, cx0.meths[j]? = some x → findIn K (.ref CC) x = some (some (.ref (fm j))) ∧ isFn K (.ref (fm j)) = true ∧ mk x = none ∧ ∃ o fd, S.B0.get? (fm j) = some o ∧ o.data = .func fd
 wld : InstIs S.B0 (S.Ω 1) WC mw
 wldC : objIn K WC = true
 base : findIn K (.ref WC) (Str.ofString "base_of") = some (some (.ref fb)) ∧ isFn K (.ref fb) = true ∧ mw (Str.ofString "base_of") = none ∧ ∃ o fd, S.B0.get? fb = some o ∧ o.data = .func fd
 named : findIn K (.ref WC) (Str.ofString "named") = some none ∧ ∃ N row T f, mw (Str.ofString "named") = some (.ref N) ∧ (N == sysModules) = false ∧ STab S.prog S.w S.B0 N f ∧ f (Str.ofString "main.K") = some row ∧ InstIs S.B0 row RC mr ∧
  findIn K (.ref RC) (Str.ofString "underlying") = some none ∧ mr (Str.ofString "underlying") = some T ∧ DatH S.Ω S.B0 T (.tup [.str (cS "int"), .str (cS "int8")])
 rowC : objIn K RC = true
section
variable {S : Fixed} {t : Tabs} {n : Nat} {ρ : List Dat} {out : Out} {K : Frag} {fm : Nat → Addr} {fb CC WC RC : Addr} {mk mw mr : Str → Option Value}
theorem isVar_form {a : M} (h : isVar a = true) : ∃ i x p, a = .var i x p := by
 induction a using M.casesOn <;> first | exact ⟨_, _, _, rfl⟩ | exact ft h
theorem handed_obj (Hr : OmRef S.Ω) (k : Nat) : handedIn (S.Ω k) = true := by obtain ⟨a, e⟩ := Hr k; rw [e]; rfl
theorem ex_world (I : SoundE S t n) (W : WorldFacts S K fm fb CC WC RC mk mw mr) (Hr : OmRef S.Ω) {p : Pos} {a : M} (h : uWorld (runT t n) ρ a = some out) : ExOk S (n + 1) (.u (.world p) a) ρ out := by
 intro A env xs s Q E hok C P
 refine b_Lnn (show (okM env.scope.names xs a && isVar a) = true from hok) fun ha hv => ?_
 refine o_xxx (isVar_form hv) fun i x q q3' => ?_
 subst q3'
 refine Attribute_name (step_ex h (fun o' ho R PR => I.ex _ ρ o' ho A env xs s R E ha (C.less (Nat.le_succ n)) PR) P.perr fun d v s₁ _ h1 D K1 => ?_)
 refine o_xa (onObj_inv h1) fun k q1' h2 => ?_
 subst q1'
 rcases iteO_inv (show iteO (Nat.beq k 0) (some (.val (.obj 1))) none = some out from h2) with ⟨hk, h3⟩ | ⟨_, h3⟩
 ·obtain rfl := si h3
  have hk0 : k = 0 := Nat.eq_of_beq_eq_true hk
  subst hk0
  obtain rfl := D.io
  ·refine inst_get (W.frag.keeps K1.stays.base) (W.chk.keeps K1.stays.base) W.chkC W.world.1 W.world.2 (handed_obj Hr 1) fun tk => P _ _ (.obj 1 rfl) K1
 ·exact nn h3
theorem meth_rest (I : SoundE S t n) (W : WorldFacts S K fm fb CC WC RC mk mw mr) {A : Around} {env : Env} {xs : List Str} {s : Shared} {a b : M} {name : Str} {ap p : Pos} {Q E : Value → Shared → Prop} {C f : Addr} {m : Str → Option Value} {k : Nat} {kk : List Dat → Option Out}
  (hrun : (andO (runT t n (.ex a) ρ) fun x => onObj x fun j => iteO (Nat.beq j k) (andS (runT t n (.exs b) ρ) kk) none) = some out)
  (ha : okM env.scope.names xs a = true) (hb : okM env.scope.names xs b = true) (hv : isVar a = true) (h1 : some1 b = true) (h2 : Nat.ble (lenM b) 8 = true) (h3 : allPlain b = true) (h4 : Nat.beq ap.endLine p.line = true) (Cn : Cond S (n + 1) A env xs ρ s.heap (og s))
  (hI : InstIs S.B0 (S.Ω k) C m) (hC : objIn K C = true) (hf : findIn K (.ref C) name = some (some (.ref f))) (ht : isFn K (.ref f) = true) (hm : m name = none) (ho : ∃ o fd, S.B0.get? f = some o ∧ o.data = .func fd)
  (perr : ∀ c p, out = .err c p → ∀ e s', S.X s'.heap e c p → Keep S s.heap s'.heap (og s') → E (.ref e) s')
  (nxt : ∀ ds vs s₁, kk ds = some out → DatsH S.Ω s₁.heap vs ds → Keep S s.heap s₁.heap (og s₁) → wpAny S.M A (call (.ref f) (S.Ω k :: vs)) Q E s₁) :
  wpAny S.M A (eval (.Call (.Attribute (toE a) name ap) (toEs b) [] p) env) Q E s := by
 refine o_xxx (isVar_form hv) fun i x q q3' => ?_
 subst q3'
 have C' := Cn.less (Nat.le_succ n)
 refine method_at rfl (by rw [beq_iff_eq]; exact Nat.eq_of_beq_eq_true h4) (plain_args b p env h3) (by rw [toEs_length]; have := Nat.le_of_ble_eq_true h2; (exact Nat.lt_of_le_of_lt ‹_› (by decide))) ?_
 refine step_ex hrun (fun o' ho R PR => I.ex _ ρ o' ho A env xs s R E ha C' PR) perr fun d v s₁ _ hk D K1 pl => ?_
 refine o_xa (onObj_inv hk) fun j q1' hk2 => ?_
 subst q1'
 rcases iteO_inv hk2 with ⟨hj, hk3⟩ | ⟨_, hk3⟩
 ·have hjk : j = k := Nat.eq_of_beq_eq_true hj
  subst hjk
  obtain rfl := D.io
  ·refine inst_method (W.frag.keeps K1.stays.base) (hI.keeps K1.stays.base) hC hf ht hm ?_
   refine o_xxa ho fun o fd ho1 ho2 => ?_
   clear ho
   refine Calls.callWith_function (o := o) (fd := fd) (args_at I hk3 h1 hb (C'.keep K1) (fun c p e e' s' x k' => perr c p e e' s' x (K1.trans k')) fun ds vs s₂ hds D2 K2 => ⟨⟨(K1.trans K2).stays.base _ _ ho1, ho2⟩, ?_⟩)
   exact nxt ds vs s₂ hds D2 (K1.trans K2)
 ·exact nn hk3
noncomputable def MethsOk (S : Fixed) (t : Tabs) (fm : Nat → Addr) (n : Nat) : Prop := ∀ k ds ρ out, k < cx0.meths.length → runT t n (.meth k ds) ρ = some out → CallOk S n (fm k) ds out
theorem ex_meth (I : SoundE S t n) (J : MethsOk S t fm n) (W : WorldFacts S K fm fb CC WC RC mk mw mr) {k : Nat} {x : Str} {ap p : Pos} {a b : M} (h : dMeth k (runT t n) ρ a b = some out) : ExOk S (n + 1) (.b (.meth k x ap p) a b) ρ out := by
 intro A env xs s Q E hok C P
 have hok' : (okM env.scope.names xs a && okM env.scope.names xs b && (at? cx0.meths k x && some1 b && Nat.ble (lenM b) 8 && allPlain b && Nat.beq ap.endLine p.line) && isVar a) = true := hok
 refine via fun Gv kv => ?_
 refine b_LLLnnLLLLnnnnnn hok' fun ha hb h1 h2 h3 h4 h5 h6 => ?_
 clear hok'
 refine o_aaa (W.meth k x (at?_eq h1)) fun q1 q2 q3 q4 => ?_
 refine kv ?_
 clear kv Gv
 refine meth_rest I W (k := 0) (kk := fun ds => runT t n (.meth k (.obj 0 :: ds)) ρ) h ha hb h6 h2 h3 h4 h5 C W.chk W.chkC q1 q2 q3 q4 P.perr fun ds vs s₁ hk D K1 => wpAny_call ?_
 have C1 := (C.less (Nat.le_succ n)).keep K1
 exact J k _ ρ out (List.getElem?_eq_some_iff.mp (at?_eq h1)).1 hk A s₁ _ Q E (.cons (.obj 0 rfl) D) C1.call (P.keep K1)
end
end
section
open PySem PySem.W
variable {κ κ' : OG}
theorem bytes_len_lk : typeLookup (.type "bytes") "__len__" = pure (some (.builtin "bytes.__len__")) := by rw [typeLookup_type, builtinLookup_eq_fast]; kernel_rfl
section
variable {prog : Program} {w : World} {A : Around} {E : Value → Shared → Prop} {s : Shared}
noncomputable def ByteAt (b : Array UInt8) (i : Nat) (v : Value) : Prop := ∃ c u, b[i]? = some c ∧ v = .int (c.toNat : Int) u
theorem extend_bytes {R : Result → Shared → Prop} (hh : A.handled = none) (b : Array UInt8) (t : Tok) (S : Addr) (res : Value) (c₀ : Nat) (hS : s.heap.get? S = some { cls := .type "list", data := .seq #[] c₀ }) (hn : b.size ≤ sizeLine)
  (hR : ∀ h' tk acc' c', (∀ b o, b ≠ S → s.heap.get? b = some o → h'.get? b = some o) → h'.get? S = some { cls := .type "list", dict := none, data := .seq acc' c', slots := #[] } →
   ItemsOf (ByteAt b) acc' b.size → R (.ok (.ret res)) { s with heap := h', toks := tk }) :
  wpAny (model prog w) A.in1 (Builtin.List.listExtendWith (.ref S) (.bytes b t) res)
   (fun fin s' => match fin with | .done f => R (.ok f) s' | .again c' => c'.quiet = true ∧ codeAny (model prog w) A c' R s') (fun e s' => R (.error e) s') s := by
 have hSI : S ≠ s.heap.objs.size := Nat.ne_of_lt (Heap.lt_size hS)
 have hSf : S ∉ [s.heap.objs.size] := fun hm => hSI (List.mem_singleton.mp hm)
 unfold Builtin.List.listExtendWith
 refine wpAny_bind (wpAny_typeOf (T := "bytes") (v := .bytes b t) rfl ?_)
 have h1 : Builtin.List.listSameRef (.ref S) (.bytes b t) = false := rfl
 have h2 : (Value.type "bytes" == Value.type "list") = false := by decide
 have h3 : (Value.type "bytes" == Value.type "tuple") = false := by decide
 simp only [h1, h2, h3, Bool.or_false, Bool.false_eq_true, if_false]
 refine wpAny_bind (KBw.pyIter_bytes ?_)
 refine wpAny_bind (wpAny_holding ?_)
 unfold Builtin.List.listLengthHint
 refine wpAny_bind (wpAny_specialOf (T := "bytes") (v := .bytes b t) rfl bytes_len_lk ?_)
 wp_delta
 refine wpAny_bind (wpAny_isInstance (T := "bytes") (v := .bytes b t) (b := true) rfl (by rw [isSubtype_type]; kernel_rfl) ?_)
 show wpAny _ _ (typeOf (Value.bytes b t) >>= _) _ _ _
 refine wpAny_bind (wpAny_typeOf (T := "bytes") (v := .bytes b t) rfl ?_)
 refine wpAny_pure ?_
 rw [if_neg (by decide)]
 have hst : KBw.IsBytesIter (s.heap.push { cls := .type "bytes_iterator", data := .fields #[.bytes b t, .int 0 0] }) s.heap.objs.size b t 0 := ⟨_, Heap.get?_push_size _ rfl, rfl, rfl⟩
 refine wpAny_pure ⟨plainId_quiet PySem.F.plain_extend_loop _, codeAny_extend_loopS (KBw.walks (A := A.in1) hh s.heap.objs.size b t).toS hn _ hSf _ b.size 0 _ _ _ rfl (Nat.zero_le _) hst (Heap.get?_push_of_some _ hS) (ItemsOf.nil _) fun s' acc' c' hm hS' hacc => ?_⟩
 rw [Moved.eq_with hm]
 refine hR s'.heap s'.toks acc' c' (fun b ob hb e => hm.heap b ob (fun hmem => ?_) (Heap.get?_push_of_some _ e)) hS' hacc
 rcases List.mem_cons.mp hmem with e' | hmem
 ·exact hb e'
 ·exact absurd (Heap.lt_size e) (by rw [List.mem_singleton.mp hmem]; exact Nat.lt_irrefl _)
theorem list_init_bytes {R : Result → Shared → Prop} (hh : A.handled = none) (b : Array UInt8) (t : Tok) (S : Addr) (hS : s.heap.get? S = some { cls := .type "list", data := .seq #[] }) (hn : b.size ≤ sizeLine)
  (hR : ∀ h' tk acc' c', (∀ b o, b ≠ S → s.heap.get? b = some o → h'.get? b = some o) → h'.get? S = some { cls := .type "list", dict := none, data := .seq acc' c', slots := #[] } →
   ItemsOf (ByteAt b) acc' b.size → R (.ok (.ret .none)) { s with heap := h', toks := tk }) :
  wpAny (model prog w) A.in1 (Builtin.«list.__init__» ⟨[.ref S, .bytes b t], []⟩)
   (fun fin s' => match fin with | .done f => R (.ok f) s' | .again c' => c'.quiet = true ∧ codeAny (model prog w) A c' R s') (fun e s' => R (.error e) s') s := by
 show wpAny _ _ (do let old ← Builtin.List.listItems (.ref S); Builtin.List.listUpdate (.ref S) (fun _ => #[]); letGo old.toList.reverse; Builtin.List.listExtendWith (.ref S) (.bytes b t) .none) _ _ s
 refine wpAny_bind ?_
 unfold Builtin.List.listItems
 refine wpAny_bind (wpAny_seqItems hS rfl (wpAny_pure ?_))
 show wpAny _ _ (updateSeq S (fun _ => #[]) >>= fun _ => letGo (#[] : Array Value).toList.reverse >>= fun _ => Builtin.List.listExtendWith (.ref S) (.bytes b t) .none) _ _ s
 refine wpAny_bind (wpAny_updateSeq hS rfl ?_)
 have hS₂ := Heap.get?_update_self (Obj.mapSeq (fun _ => (#[] : Array Value))) hS rfl
 have oth : ∀ b o, b ≠ S → s.heap.get? b = some o → (s.heap.update S (Obj.mapSeq (fun _ => (#[] : Array Value)))).get? b = some o :=
  fun b o hb e => (Heap.get?_update_other _ _ (Ne.symm hb)).trans e
 refine wpAny_bind (wpAny_letGo ?_)
 refine extend_bytes hh b t S .none _ hS₂ hn fun h' tk acc' c' hk hS' hacc => ?_
 exact hR h' tk acc' c' (fun b o hb e => hk b o hb (oth b o hb e)) hS' hacc
theorem list_bytes {Q : Value → Shared → Prop} (hh : A.handled = none) (b : Array UInt8) (t : Tok) (hn : b.size ≤ sizeLine)
  (hQ : ∀ h' tk acc' c', (∀ b o, s.heap.get? b = some o → h'.get? b = some o) →
   h'.get? s.heap.objs.size = some { cls := .type "list", dict := none, data := .seq acc' c', slots := #[] } → ItemsOf (ByteAt b) acc' b.size → Q (.ref s.heap.objs.size) { s with heap := h', toks := tk }) :
  wpAny (model prog w) A (call (.type "list") [.bytes b t]) Q E s := by
 refine callType_codes (Q₁ := fun obj s₁ => obj = .ref s.heap.objs.size ∧ s₁ = { s with heap := s.heap.push { cls := .type "list", data := .seq #[] } }) PySem.F.called_list (PySem.F.typeCall_list_1 _) PySem.F.entry_list_init
  (code_list_new _ ⟨rfl, rfl⟩) fun obj s₁ h₁ => ?_
 obtain ⟨rfl, rfl⟩ := h₁
 have hS : (s.heap.push { cls := .type "list", data := .seq #[] }).get? s.heap.objs.size = some { cls := .type "list", data := .seq #[] } := Heap.get?_push_size _ rfl
 refine ⟨⟨_, hS, rfl⟩, PySem.F.args_list_init_2 _ _, list_init_bytes (A := A.in1) hh b t _ hS hn fun h' tk acc' c' hk hS' hacc => ?_⟩
 exact ⟨rfl, hQ h' tk acc' c' (fun b o e => hk b o (Nat.ne_of_lt (Heap.lt_size e)) (Heap.get?_push_of_some _ e)) hS' hacc⟩
end
end
section
open PySem PySem.W PySem.SeqAt
variable {κ κ' : OG}
theorem intsOf_length : ∀ l : List UInt8, (intsOf l).length = l.length
 | [] => rfl
 | _ :: r => by show (intsOf r).length + 1 = _; rw [intsOf_length r]; rfl
theorem intsOf_get : ∀ (l : List UInt8) (j : Nat) (c : UInt8), l[j]? = some c → (intsOf l)[j]? = some (.int (.ofNat c.toNat))
 | [], j, c, h => by simp at h
 | b :: r, 0, c, h => by simp at h; subst h; rfl
 | b :: r, j + 1, c, h => by
  show (Dat.int (.ofNat b.toNat) :: intsOf r)[j + 1]? = _
  rw [List.getElem?_cons_succ]
  exact intsOf_get r j c (by simpa using h)
theorem datsH_of_get {Ω : Nat → Value} {h : Heap} : ∀ (vs : List Value) (ds : List Dat), vs.length = ds.length → (∀ (j : Nat) (v : Value) (d : Dat), vs[j]? = some v → ds[j]? = some d → DatH Ω h v d) → DatsH Ω h vs ds
 | [], [], _, _ => .nil
 | [], _ :: _, h, _ => by simp at h
 | _ :: _, [], h, _ => by simp at h
 | v :: vs, d :: ds, hl, k => .cons (k 0 v d rfl rfl) (datsH_of_get vs ds (by simpa using hl) fun j u e h1 h2 => k (j + 1) u e (by simpa using h1) (by simpa using h2))
theorem bytesOf_inv : ∀ (l : List Dat) (b : List UInt8), bytesOf l = some b → ∀ {Ω : Nat → Value} {h : Heap} {vs : List Value}, DatsH Ω h vs l → ∃ ns, PyProof.Rows.IntsAre vs ns ∧ (∀ n ∈ ns, 0 ≤ n ∧ n < 256) ∧ (byteArr ns) = b.toArray
 | [], b, e, Ω, h, vs, D => by
  obtain rfl := si e
  obtain rfl := D.i0
  exact ⟨[], .nil, (fun n hn => (by cases hn)), rfl⟩
 | d :: l, b, e, Ω, h, vs, D => by
  induction d using Dat.casesOn with
  | int i =>
   induction i with
   | ofNat n =>
    have e' : (match Nat.blt n 256 with | true => (match bytesOf l with | some l => some (UInt8.ofNat n :: l) | none => none) | false => none) = some b := e
    induction hn : Nat.blt n 256 with
    | false => rw [hn] at e'; exact nn e'
    | true =>
     rw [hn] at e'
     induction hb : bytesOf l with
     | none => rw [hb] at e'; exact nn e'
     | some b' =>
      rw [hb] at e'
      obtain rfl := si e'
      refine o_xxaa D.ic fun v r q Dv Dr => ?_
      subst q
      obtain ⟨t, rfl⟩ := Dv.ii
      ··refine o_xaa (bytesOf_inv l b' hb Dr) fun ns h1 h2 h3 => ?_
        have hlt : n < 256 := by simpa [Nat.blt_eq] using hn
        refine ⟨(n : Int) :: ns, .cons _ _ h1, fun m hm => ?_, ?_⟩
        ·rcases List.mem_cons.mp hm with e | e
         ·subst e; lia
         ·exact h2 m e
        ·have h4 := congrArg Array.toList h3
         simp only [byteArr] at h4 ⊢
         apply Array.toList_inj.mp
         simp only [List.map_cons] at h4 ⊢
         rw [h4]
         rfl
   | negSucc n => exact nn e
  | _ => exact nn e
section
variable {prog : Program} {w : World} {A : Around} {E : Value → Shared → Prop} {s : Shared} {Q : Value → Shared → Prop} {Ω : Nat → Value}
theorem bi_more {f : Bi} {vs : List Value} {ds : List Dat} {d : Dat} (hf : f = .len ∨ f = .list ∨ f = .bytes) (hh : A.handled = none) (D : DatsH Ω s.heap vs ds) (e : builtinD f ds = some d)
  (h : ∀ r h' tk, DatH Ω h' r d → All s.heap h' → Q r { s with heap := h', toks := tk }) : wpAny (model prog w) A (call f.val vs) Q E s := by
 rcases hf with rfl | rfl | rfl
 ·induction D using DatsH.casesOn with
  | nil => exact nn e
  | cons a r => induction r using DatsH.casesOn with
   | cons _ _ => induction a using DatH.casesOn <;> exact nn e
   | nil => induction a using DatH.casesOn with
    | bytes b t =>
     have e' : (match Nat.ble b.toList.length 4096 with | true => some (Dat.int (.ofNat b.toList.length)) | false => none) = some d := e
     induction hb : Nat.ble b.toList.length 4096 with
     | false => rw [hb] at e'; exact nn e'
     | true =>
      rw [hb] at e'
      cases e'
      have hz := Nat.le_of_ble_eq_true hb
      refine len_bytes (by simp at hz; (exact Nat.le_trans ‹_› (by decide))) (h _ _ _ ?_ (All.refl _))
      have : ((b.size : Nat) : Int) = .ofNat b.toList.length := by simp
      rw [this]
      exact .int _ _
    | _ => exact nn e
 ·induction D using DatsH.casesOn with
  | nil => exact nn e
  | cons a r => induction r using DatsH.casesOn with
   | cons _ _ => induction a using DatH.casesOn <;> exact nn e
   | nil => induction a using DatH.casesOn with
    | bytes b t =>
     have e' : (match Nat.ble b.toList.length 4096 with | true => some (Dat.list (intsOf b.toList)) | false => none) = some d := e
     induction hb : Nat.ble b.toList.length 4096 with
     | false => rw [hb] at e'; exact nn e'
     | true =>
      rw [hb] at e'
      cases e'
      have hz := Nat.le_of_ble_eq_true hb
      refine list_bytes hh b t (by rw [sizeLine_eq]; simp at hz; (exact Nat.le_trans ‹_› (by decide))) fun h' tk acc' c' hk hS hacc => h _ _ _ ?_ hk
      refine .list (vs := acc'.toList) ⟨_, hS, rfl, c', by simp⟩ (datsH_of_get _ _ (by rw [intsOf_length]; simp [hacc.1]) fun j v d h1 h2 => ?_)
      refine o_xxa (hacc.2 j v (by simpa using h1)) fun c u e1 q3' => ?_
      subst q3'
      rw [intsOf_get b.toList j c (by simpa using e1)] at h2
      obtain rfl := si h2
      exact .int _ _
    | _ => exact nn e
 ·induction D using DatsH.casesOn with
  | nil => exact nn e
  | cons a r => induction r using DatsH.casesOn with
   | cons _ _ => induction a using DatH.casesOn <;> exact nn e
   | nil => induction a using DatH.casesOn with
    | @list ad us l hx r =>
     have e' : (match Nat.ble l.length 4096 with | true => (match bytesOf l with | some b => some (Dat.bytes b) | none => none) | false => none) = some d := e
     induction hb : Nat.ble l.length 4096 with
     | false => rw [hb] at e'; exact nn e'
     | true =>
      rw [hb] at e'
      induction hq : bytesOf l with
      | none => rw [hq] at e'; exact nn e'
      | some b =>
       rw [hq] at e'
       obtain rfl := si e'
       have hz := Nat.le_of_ble_eq_true hb
       refine o_xaa (bytesOf_inv l b hq r) fun ns h1 h2 h3 => ?_
       refine call_bytes_ints hx h1 h2 (by rw [sizeLine_eq, r.length]; (exact Nat.le_trans ‹_› (by decide))) hh fun h' t k hk => h _ _ _ ?_ hk
       rw [h3]
       exact .bytes _ _
    | _ => exact nn e
end
section
variable {S : Fixed} {t : Tabs} {n : Nat} {ρ : List Dat} {out : Out} {fa : Nat → Addr} {mg mb : Str → Option Value}
theorem ex_bi_all (I : SoundE S t n) (G : Globs S t fa mg mb) (B : Blts mg mb) {f : Bi} {np p : Pos} {a : M} (h : uBi f (runT t n) ρ a = some out) : ExOk S (n + 1) (.u (.bi f np p) a) ρ out := by
 have more : f = .len ∨ f = .list ∨ f = .bytes → ExOk S (n + 1) (.u (.bi f np p) a) ρ out := by
  intro hf A env xs s Q E hok C P
  refine via fun Gv kv => ?_
  refine b_Lnn (show (okM env.scope.names xs a && (okGlob env.scope.names f.name && some1 a && allPlain a)) = true from hok) fun ha hu => ?_
  refine b_LLnnn hu fun h1 h2 h3 => ?_
  clear hu
  refine kv ?_
  clear kv Gv
  have C' := C.less (Nat.le_succ n)
  refine wpAny_Call_ofName (name_builtin G C h1 (B.bi f).1 (B.bi f).2 ?_)
  have fin : ∀ ds vs s₁, val? (builtinD f ds) = some out → DatsH S.Ω s₁.heap vs ds → Keep S s.heap s₁.heap (og s₁) → wpAny S.M A (call f.val ([] ++ vs) []) Q E s₁ := fun ds vs s₁ hk D K => by
   refine o_xa (val?_inv hk) fun d hd q2' => ?_
   subst q2'
   exact bi_more hf C.handled D hd fun r h' tk Dr k => P r _ Dr (K.trans ((C.keep K).all k))
  rcases hf with rfl | rfl | rfl
  ·exact Calls.callWith_builtin (plain_args a p env h3) (args_at I h h2 ha C' P.perr fin)
  ·exact callWith_excType (plain_args a p env h3) (args_at I h h2 ha C' P.perr fin)
  ·exact callWith_excType (plain_args a p env h3) (args_at I h h2 ha C' P.perr fin)
 induction f with
 | abs => exact ex_bi I G B (.inl rfl) h
 | int => exact ex_bi I G B (.inr (.inl rfl)) h
 | max => exact ex_bi I G B (.inr (.inr (.inl rfl))) h
 | min => exact ex_bi I G B (.inr (.inr (.inr rfl))) h
 | len => exact more (.inl rfl)
 | list => exact more (.inr (.inl rfl))
 | bytes => exact more (.inr (.inr rfl))
end
end
section
open PySem PySem.W PySem.SeqAt
open PyProof.Rows (subscriptTail Subscript_ List_)
variable {κ κ' : OG}
theorem trues_add : ∀ (l : List Dat) (a n : Nat), trues a l = some n → ∃ k, n = a + k ∧ trues 0 l = some k
 | [], a, n, h => by obtain rfl := si h; exact ⟨0, rfl, rfl⟩
 | d :: l, a, n, h => by
  induction d using Dat.casesOn with
  | bool b =>
   induction b with
   | true =>
    refine o_xa (trues_add l (a + 1) n h) fun k e1 e2 => ?_
    refine ⟨k + 1, by (simp +arith only [*]), ?_⟩
    show trues 1 l = some (k + 1)
    obtain ⟨m, hm⟩ : ∃ m, trues 1 l = some m := by
     induction q : trues 1 l with
     | some m => exact ⟨m, rfl⟩
     | none =>
      exfalso
      revert e2 q
      clear e1 h
      generalize 0 = z at *
      intro e2 q
      have : ∀ (l : List Dat) (x y : Nat), trues x l = none → trues y l = none := by
       intro l
       induction l with
       | nil => intro x y h; exact ns h
       | cons d l ih =>
        intro x y h
        induction d using Dat.casesOn with
        | bool b => induction b <;> exact ih _ _ h
        | _ => rfl
      rw [this l 1 _ q] at e2
      exact nn e2
    refine o_xa (trues_add l 1 m hm) fun k' e3 e4 => ?_
    rw [e2] at e4
    obtain rfl := si e4
    rw [hm, e3, Nat.add_comm]
   | false => exact trues_add l a n h
  | _ => exact nn h
theorem trues_reads {Ω : Nat → Value} {h : Heap} : ∀ (l : List Dat) (n : Nat) (vs : List Value), trues 0 l = some n → DatsH Ω h vs l → ∃ xs as, ReadsAll h vs xs as ∧ xs.all Spec.Shape.bool.has = true ∧ Spec.countIn (.bool true) xs = (n : Int)
 | [], n, vs, e, D => by
  cases e
  obtain rfl := D.i0
  exact ⟨[], [], .nil, rfl, rfl⟩
 | d :: l, n, vs, e, D => by
  induction d using Dat.casesOn with
  | bool b =>
   refine o_xxaa D.ic fun v r q Dv Dr => ?_
   subst q
   obtain rfl := Dv.ib
   ·induction b with
    | true =>
     refine o_xa (trues_add l 1 n e) fun k e1 e2 => ?_
     refine o_xxaa (trues_reads l k _ e2 Dr) fun xs as r1 r2 r3 => ?_
     refine ⟨.bool true :: xs, _, .cons (.bool true) r1, by rw [List.all_cons, r2]; rfl, ?_⟩
     show (if Spec.same (.bool true) (.bool true) = true then (1 : Int) else 0) + Spec.countIn (.bool true) xs = n
     rw [r3, if_pos (show Spec.same (.bool true) (.bool true) = true from rfl)]
     (simp [*])
    | false =>
     refine o_xxaa (trues_reads l n _ e Dr) fun xs as r1 r2 r3 => ?_
     refine ⟨.bool false :: xs, _, .cons (.bool false) r1, by rw [List.all_cons, r2]; rfl, ?_⟩
     show (if Spec.same (.bool false) (.bool true) = true then (1 : Int) else 0) + Spec.countIn (.bool true) xs = n
     rw [r3, if_neg (by decide)]
     (simp_all +arith)
  | _ => exact nn e
theorem onList_inv {d : Dat} {k : List Dat → Option Out} {out : Out} (h : onList d k = some out) : ∃ b, d = .list b ∧ k b = some out := by
 induction d using Dat.casesOn <;> first | exact ⟨_, rfl, h⟩ | exact nn h
theorem one_inv {ds : List Dat} {k : Dat → Option Out} {out : Out} (h : one ds k = some out) : ∃ d, ds = [d] ∧ k d = some out := by
 induction ds using List.casesOn with
 | nil => exact nn h
 | cons d r => induction r using List.casesOn with
  | nil => exact ⟨d, rfl, h⟩
  | cons _ _ => exact nn h
theorem cntR_inv {l : List Dat} {y : Dat} {out : Out} (h : cntR l y = some out) : ∃ n, y = .bool true ∧ trues 0 l = some n ∧ out = .val (.int (.ofNat n)) := by
 induction y using Dat.casesOn with
 | bool b =>
  induction b with
  | false => exact nn h
  | true =>
   have h' : (match trues 0 l with | some n => some (Out.val (.int (.ofNat n))) | none => none) = some out := h
   induction q : trues 0 l with
   | none => rw [q] at h'; exact nn h'
   | some n => rw [q] at h'; obtain rfl := si h'; exact ⟨n, rfl, rfl, rfl⟩
 | _ => exact nn h
section
variable {S : Fixed} {t : Tabs} {n : Nat} {ρ : List Dat} {out : Out}
theorem lst_cases {P : M → Prop} (l : ∀ p a, P (.u (.lst p) a)) (m : M) (h : isLst m = true) : P m := by
 induction m using M.casesOn with
 | u o a => induction o with
  | lst p => exact l p a
  | _ => exact ft h
 | _ => exact ft h
theorem ex_cnt (I : ∀ k, k ≤ n → SoundE S t k) {ap p : Pos} {a b : M} (h : dCnt (runT t n) ρ a b = some out) : ExOk S (n + 1) (.b (.cnt ap p) a b) ρ out := by
 intro A env xs s Q E hok C P
 refine b_LLLnnLLLnnnnn (show (okM env.scope.names xs a && okM env.scope.names xs b && (some1 b && Nat.ble (lenM b) 8 && allPlain b && Nat.beq ap.endLine p.line) && isLst a) = true from hok) fun ha hb h2 h3 h4 h5 h6 => ?_
 have C' := C.less (Nat.le_succ n)
 refine lst_cases (P := fun a => dCnt (runT t n) ρ a b = some out → okM env.scope.names xs a = true → wpAny S.M A (eval (toE (.b (.cnt ap p) a b)) env) Q E s) (fun lp es h ha => ?_) a h6 h ha
 clear h6 hok
 refine b_Lnn (show (okM env.scope.names xs es && Nat.ble (lenM es) 64) = true from ha) fun hes hle => ?_
 refine method_at rfl (by rw [beq_iff_eq]; exact Nat.eq_of_beq_eq_true h5) (plain_args b p env h4) (by rw [toEs_length]; have := Nat.le_of_ble_eq_true h3; (exact Nat.lt_of_le_of_lt ‹_› (by decide))) ?_
 induction n using Nat.casesAuxOn with
 | zero => rcases andO_inv h with ⟨d, q, _⟩ | ⟨c, q, q1, _⟩ <;> first | exact absurd q run_zero | exact absurd q1 run_zero
 | succ m =>
  have hl : runT t (m + 1) (.ex (.u (.lst lp) es)) ρ = (andS (runT t m (.exs es) ρ) fun ds => some (.val (.list ds))) := rfl
  rcases andO_inv h with ⟨d, q1, _, q2⟩ | ⟨c, q, q1, rfl⟩
  ·rw [hl] at q1
   rcases andS_inv q1 with ⟨ds, q3, q4⟩ | ⟨c, q, _, q4⟩
   ·cases q4
    refine o_xa (onList_inv q2) fun l e hk => ?_
    cases e
    refine List_ ((I m (by (simp_all +arith))).exs es ρ _ q3 A env xs s _ E lp hes (C.less (by (simp_all +arith))) fun vs s₁ D K => ?_)
    have hlen : vs.length ≤ 64 := by rw [D.length, exs_len m es ρ ds q3]; exact Nat.le_of_ble_eq_true hle
    have k2 := All.push s₁.heap { cls := .type "list", data := .seq vs.toArray }
    refine wpAny_newList ?_ (hsz := by show vs.length ≤ 2 ^ 24; (exact Nat.le_trans ‹_› (by decide)))
    intro pl
    have K2 : Keep S s.heap (s₁.heap.push { cls := .type "list", data := .seq vs.toArray }) (og s₁) := K.trans ((C.keep K).all k2)
    have hL : (s₁.heap.push { cls := .type "list", data := .seq vs.toArray }).get? s₁.heap.objs.size = some { cls := .type "list", data := .seq vs.toArray } := Heap.get?_push_size _ rfl
    refine PyProof.Rows.getMethod_list_of PySem.F.slot_list_count PySem.F.type_list_count (s := { s₁ with heap := s₁.heap.push { cls := .type "list", data := .seq vs.toArray } }) (items := vs.toArray) ⟨_, hL, rfl, 0, rfl⟩ ⟨_, hL, rfl⟩ ?_
    refine Calls.callWith_builtin (plain_args b p env h4) (args_at (I (m + 1) (Nat.le_refl _)) hk h2 hb (C'.keep K2) (fun c p e e' s' x k' => P.perr c p e e' s' x (K2.trans k')) fun ds2 vs2 s₂ hk2 D2 K3 => ?_)
    refine o_xa (one_inv hk2) fun y q1' hk3 => ?_
    subst q1'
    refine o_xaa (cntR_inv hk3) fun j q1' hj q3' => ?_
    subst q1'
    subst q3'
    refine o_xa D2.i1 fun v' q Dy => ?_
    subst q
    obtain rfl := Dy.ib
    ·have D3 := (D.up (Up.of_all k2)).up K3.up
     refine o_xxaa (trues_reads _ j vs hj D3) fun xs' as r1 r2 r3 => ?_
     refine PyProof.Rows.count_list_bools (up_isList K3.up ⟨_, hL, rfl, 0, rfl⟩) r1 r2 ?_
     rw [r3]
     exact P _ _ (.int _ _) (K2.trans K3)
   ·injection q4
  ·rw [hl] at q1
   rcases andS_inv q1 with ⟨ds, _, q4⟩ | ⟨c', q', q3, q4⟩
   ·cases q4
   ·cases q4
    exact List_ ((I m (by omega)).exs es ρ _ q3 A env xs s _ E lp hes (C.less (by omega)) P)
theorem stab_get {prog : Program} {w : World} {A : Around} {E : Value → Shared → Prop} {s : Shared} {d : Addr} {f : Str → Option Value} {x : Str} {tk : Tok} {Q : Value → Shared → Prop} (m : STab prog w s.heap d f) (hd : (d == sysModules) = false)
  (h : Q ((f x).getD .none) { s with toks := s.toks + 1 }) : wpAny (model prog w) A (call (.builtin "dict.get") [.ref d, .str x tk]) Q E s := by
 refine wpAny_call_entry PySem.F.slot_dict_get m.typeIs PySem.F.entry_dict_get ?_ (PySem.F.args_dict_get_2 _ _)
 show wpAny _ _ (PySem.dictGet d (.str x tk) >>= _) _ _ s
 refine wpAny_bind (stab_dictGet m ?_)
 induction hf : f x with
 | some v =>
  rw [hf] at h
  exact wpAny_pure ⟨v, rfl, h⟩
 | none =>
  rw [hf] at h
  show wpAny _ _ (Builtin.Dict.missed d (.str x tk) >>= _) _ _ _
  exact wpAny_bind (wpAny_missed_other hd (wpAny_pure ⟨.none, rfl, h⟩))
theorem getR_inv {k : Dat} {ks vs : List Dat} {out : Out} (h : getR k ks vs = some out) : ∃ c o, k = .str c ∧ dictGet (.str c) ks vs = some o ∧ out = .val (o.getD .none) := by
 induction k using Dat.casesOn with
 | str c =>
  have h' : (match dictGet (.str c) ks vs with | some o => (match o with | some v => some (Out.val v) | none => some (.val .none)) | none => none) = some out := h
  induction hd : dictGet (.str c) ks vs with
  | none => rw [hd] at h'; exact nn h'
  | some o =>
   rw [hd] at h'
   induction o with
   | none => obtain rfl := si h'; exact ⟨c, none, rfl, hd, rfl⟩
   | some v => obtain rfl := si h'; exact ⟨c, some v, rfl, hd, rfl⟩
 | _ => exact nn h
theorem ex_dget (G : ∃ mg, S.B0.Ns mainGlobals mg) (I : ∀ k, k ≤ n → SoundE S t k) {dp ap p : Pos} {a b c : M} (h : tDget (runT t n) ρ a b c = some out) : ExOk S (n + 1) (.c (.dget dp ap p) a b c) ρ out := by
 intro A env xs s Q E hok C P
 have hok' : (okM env.scope.names xs a && (okM env.scope.names xs b && okM env.scope.names xs c) && okDisp a b && notRaw c && Nat.beq ap.endLine p.line) = true := hok
 refine via fun Gv kv => ?_
 refine b_LLLLnLnnnnn hok' fun h1 h2 h3 hd h4 h5 => ?_
 clear hok'
 have C' := C.less (Nat.le_succ n)
 refine o_xa (pureS_inv h) fun ks ha h => ?_
 refine o_xa (pureS_inv h) fun vs hb h => ?_
 refine o_xa (pureO_inv h) fun k hc h => ?_
 refine o_xxaa (getR_inv h) fun cc o q2' hl q4' => ?_
 subst q2'
 subst q4'
 refine kv ?_
 clear kv Gv
 have hs : starEach [toE c] env = [(false, eval (toE c) env)] := by rw [star_plain h4]; rfl
 refine method_at rfl (by rw [beq_iff_eq]; exact Nat.eq_of_beq_eq_true h5) (by rw [hs]; rfl) (by simp) ?_
 refine disp_at I ha hb hd h2 C' fun T us s₁ m z3 z4 z5 K hT hdn hTs => ?_
 intro pl
 have hne : (T == sysModules) = false := by
  refine o_xxxxa G fun mg o es ep ho _ => ?_
  clear G
  have hlt := Heap.lt_size (C.stays.base _ _ ho)
  rw [beq_eq_false_iff_ne]
  intro q
  rw [← hTs, q] at hlt
  revert hlt
  decide
 refine getMethod_builtin m.typeIs PySem.F.plainAttrs_dict PySem.F.slot_dict_get PySem.F.type_dict_get (fun b e => by cases e; exact hdn) ?_
 rw [hs]
 refine Calls.callWith_builtin rfl (Calls.evalArgs_plain (Calls.spliced_cons ?_))
 refine (I n (Nat.le_refl _)).ex c ρ _ hc A env xs s₁ _ E h3 (C'.keep K) fun v s₂ D K2 => Calls.spliced_nil ?_
 refine o_xxaa (datStr D) fun y tk q2' q3' oy => ?_
 subst q2'
 subst q3'
 rw [z3] at hl
 have lk := look_sound oy us vs z4 (z5.up K2.up) hl
 refine stab_get (m.up K2.up) hne ?_
 induction o with
 | some d =>
  refine o_xa lk fun u hu Du => ?_
  clear lk
  rw [hu]
  exact P u _ Du (K.trans K2)
 | none =>
  rw [show us.lookup y = none from lk]
  exact P .none _ .none (K.trans K2)
end
end
section
open PySem PySem.W PySem.SeqAt
variable {κ κ' : OG}
theorem closure_go (env : Env) : ∀ (names : Sc) (cs : List (Str × Addr)), (∀ p ∈ names, p.2 = .free → ∃ c, env.cells.lookup p.1 = some c) → (∀ y c, cs.lookup y = some c → env.cells.lookup y = some c) →
  ∃ cl, (forIn names cs fun (x : Str × NameKind) (r : List (Str × Addr)) => (if x.2 == .free then do let a ← cellOf env x.1; pure (ForInStep.yield ((x.1, a) :: r)) else pure (ForInStep.yield r) : Sem (ForInStep (List (Str × Addr))))) = (pure cl : Sem (List (Str × Addr))) ∧
   (∀ y c, cl.lookup y = some c → env.cells.lookup y = some c) ∧ (∀ y, (y, NameKind.free) ∈ names ∨ (∃ c, cs.lookup y = some c) → ∃ c, cl.lookup y = some c)
 | [], cs, _, h2 => ⟨cs, rfl, h2, fun y h => h.elim (fun h => by cases h) id⟩
 | (x, k) :: r, cs, h1, h2 => by
  rw [List.forIn_cons]
  by_cases hk : k = .free
  ·subst hk
   refine via fun Gv kv => ?_
   obtain ⟨c, hc⟩ := h1 (x, .free) (.head _) rfl
   have hcell : cellOf env x = pure c := by unfold cellOf; rw [show env.cells.lookup x = some c from hc]
   obtain ⟨cl, e1, e2, e3⟩ := closure_go env r ((x, c) :: cs) (fun p hp => h1 p (.tail _ hp)) fun y d h => by
    rw [List.lookup_cons] at h
    induction hb : y == x with
    | true => rw [hb] at h; obtain rfl := si h; rw [eq_of_beq hb]; exact hc
    | false => rw [hb] at h; exact h2 y d h
   refine kv ?_
   clear kv Gv
   refine ⟨cl, ?_, e2, fun y h => e3 y ?_⟩
   ·rw [if_pos (show ((x, NameKind.free).snd == NameKind.free) = true from rfl), hcell]
    exact e1
   ·rcases h with h | h
    ·rcases List.mem_cons.mp h with h | h
     ·cases h; exact .inr ⟨c, by rw [List.lookup_cons]; simp⟩
     ·exact .inl h
    ·refine .inr ?_
     rw [List.lookup_cons]
     induction y == x with
     | false => exact h
     | true => exact ⟨c, rfl⟩
  ·refine o_xaa (closure_go env r cs (fun p hp => h1 p (.tail _ hp)) h2) fun cl e1 e2 e3 => ?_
   refine ⟨cl, ?_, e2, fun y h => e3 y ?_⟩
   ·rw [if_neg (by simpa using hk)]
    exact e1
   ·rcases h with h | h
    ·rcases List.mem_cons.mp h with h | h
     ·cases h; exact absurd rfl hk
     ·exact .inl h
    ·exact .inr h
theorem closure_of {env : Env} {sc : Scope} (h : ∀ p ∈ sc.names, p.2 = .free → ∃ c, env.cells.lookup p.1 = some c) :
  ∃ cl, closureFor sc env = pure cl ∧ (∀ y c, cl.lookup y = some c → env.cells.lookup y = some c) ∧ (∀ y, (y, NameKind.free) ∈ sc.names → ∃ c, cl.lookup y = some c) := by
 refine o_xaa (closure_go env sc.names [] h fun y c h => by exact nn h) fun cl e1 e2 e3 => ?_
 refine ⟨cl, ?_, e2, fun y hy => e3 y (.inl hy)⟩
 unfold closureFor
 show (forIn sc.names [] _ >>= fun r => pure r) = _
 rw [show ∀ (x : Sem (List (Str × Addr))), (x >>= fun r => pure r) = x from fun x => bind_pure x]
 exact e1
inductive ItK where
 | tup (tp : Addr) (vs : List Value)
 | lst (l : Addr) (vs : List Value)
 | rng (m : Nat)
noncomputable def ItAt (k : ItK) (h : Heap) (it : Addr) (j : Nat) : Prop := match k with
 | .tup tp vs => h.IsTupleIter it tp j ∧ h.IsTuple tp vs.toArray
 | .lst l vs => h.IsListIter it l j ∧ h.IsList l vs.toArray
 | .rng m => j ≤ m ∧ IsRangeIter h it (j : Int) ((m : Int) - (j : Int)) 1
noncomputable def ItK.src : ItK → Option Addr
 | .tup tp _ => some tp
 | .lst l _ => some l
 | .rng _ => none
noncomputable def ItD (Ω : Nat → Value) (k : ItK) (h : Heap) (ds : List Dat) : Prop := match k with
 | .tup _ vs => DatsH Ω h vs ds
 | .lst _ vs => DatsH Ω h vs ds
 | .rng m => ds = rangeD m 0
theorem rangeD_length : ∀ n a, (rangeD n a).length = n
 | 0, _ => rfl
 | n + 1, a => by show (rangeD n (a + 1)).length + 1 = n + 1; rw [rangeD_length n]
theorem rangeD_get : ∀ (n a j : Nat), j < n → (rangeD n a)[j]? = some (.int (.ofNat (a + j)))
 | 0, _, _, h => absurd h (Nat.not_lt_zero _)
 | n + 1, a, 0, _ => rfl
 | n + 1, a, j + 1, h => by
  show (Dat.int (.ofNat a) :: rangeD n (a + 1))[j + 1]? = _
  rw [List.getElem?_cons_succ, rangeD_get n (a + 1) j (by (simp +arith at *; assumption)), show a + 1 + j = a + (j + 1) by (simp_all +arith)]
theorem ItAt.up {k : ItK} {h h' : Heap} {it : Addr} {j : Nat} (x : ItAt k h it j) (u : Up h h') : ItAt k h' it j := by
 induction k with
 | tup tp vs =>
  refine via fun Gv kv => ?_
  obtain ⟨⟨o, ho, hc, hd⟩, hx⟩ := x
  refine kv ?_
  clear kv Gv
  exact ⟨⟨o, u.iters _ _ ho ⟨by rw [hc]; rfl, _, hd⟩, hc, hd⟩, up_isTuple u hx⟩
 | lst l vs =>
  refine via fun Gv kv => ?_
  obtain ⟨⟨o, ho, hc, hd⟩, hx⟩ := x
  refine kv ?_
  clear kv Gv
  exact ⟨⟨o, u.iters _ _ ho ⟨by rw [hc]; rfl, _, hd⟩, hc, hd⟩, up_isList u hx⟩
 | rng m => exact ⟨x.1, u.iters _ _ x.2 ⟨rfl, _, rfl⟩⟩
theorem ItAt.but {k : ItK} {h h' : Heap} {it y : Addr} {j : Nat} (x : ItAt k h it j) (u : ∀ b o, b ≠ y → h.get? b = some o → h'.get? b = some o) (n1 : it ≠ y) (n2 : k.src ≠ some y) : ItAt k h' it j := by
 induction k with
 | tup tp vs =>
  refine via fun Gv kv => ?_
  obtain ⟨⟨o, ho, hc⟩, ⟨o2, ho2, r⟩⟩ := x
  refine kv ?_
  clear kv Gv
  exact ⟨⟨o, u _ _ n1 ho, hc⟩, ⟨o2, u _ _ (fun q => n2 (by rw [q]; rfl)) ho2, r⟩⟩
 | lst l vs =>
  refine via fun Gv kv => ?_
  obtain ⟨⟨o, ho, hc⟩, ⟨o2, ho2, r⟩⟩ := x
  refine kv ?_
  clear kv Gv
  exact ⟨⟨o, u _ _ n1 ho, hc⟩, ⟨o2, u _ _ (fun q => n2 (by rw [q]; rfl)) ho2, r⟩⟩
 | rng m => exact ⟨x.1, u _ _ n1 x.2⟩
theorem ItAt.obj {k : ItK} {h : Heap} {it : Addr} {j : Nat} (x : ItAt k h it j) : ∃ o vs, h.get? it = some o ∧ o.data = .fields vs ∧ ¬ LamLike o := by
 induction k with
 | tup tp vs => obtain ⟨⟨o, ho, hc, hd⟩, _⟩ := x; exact ⟨o, _, ho, hd, not_lam hc hd⟩
 | lst l vs => obtain ⟨⟨o, ho, hc, hd⟩, _⟩ := x; exact ⟨o, _, ho, hd, not_lam hc hd⟩
 | rng m => exact ⟨_, _, x.2, rfl, not_lam rfl rfl⟩
section
variable {prog : Program} {w : World} {A : Around} {E : Value → Shared → Prop} {s : Shared} {Ω : Nat → Value}
theorem it_next {k : ItK} {it : Addr} {j : Nat} {ds : List Dat} {d : Dat} {Q : Option Value → Shared → Prop} (x : ItAt k s.heap it j) (D : ItD Ω k s.heap ds) (hd : ds[j]? = some d)
  (hQ : ∀ v h' tk, DatH Ω s.heap v d → ItAt k h' it (j + 1) → (∀ b o, b ≠ it → s.heap.get? b = some o → h'.get? b = some o) → Q (some v) { s with heap := h', toks := tk }) : wpAny (model prog w) A (pyNext (.ref it)) Q E s := by
 induction k with
 | tup tp vs =>
  refine o_xa (DatsH.get (show DatsH Ω s.heap vs ds from D) hd) fun y hy Dy => ?_
  refine o_xaa (id x.1) fun o ho hc hdd => ?_
  refine wpAny_pyNext_tuple_item x.1 x.2 (x := y) (by simpa using hy) fun h' hit' hs' => hQ y h' s.toks Dy ⟨hit', ?_⟩ fun b o hb e => (hs'.2 b hb).trans e
  refine o_xaa x.2 fun o2 ho2 hc2 r => ?_
  exact ⟨o2, (hs'.2 _ fun q => by rw [q, ho] at ho2; obtain rfl := si ho2; rw [hc] at hc2; exact absurd hc2 (by decide)).trans ho2, hc2, r⟩
 | lst l vs =>
  refine o_xa (DatsH.get (show DatsH Ω s.heap vs ds from D) hd) fun y hy Dy => ?_
  refine o_xaa (id x.1) fun o ho hc hdd => ?_
  refine wpAny_pyNext_list_item x.1 x.2 (x := y) (by simpa using hy) fun h' hit' hs' => hQ y h' s.toks Dy ⟨hit', ?_⟩ fun b o hb e => (hs'.2 b hb).trans e
  refine o_xaa x.2 fun o2 ho2 hc2 r => ?_
  exact ⟨o2, (hs'.2 _ fun q => by rw [q, ho] at ho2; obtain rfl := si ho2; rw [hc] at hc2; exact absurd hc2 (by decide)).trans ho2, hc2, r⟩
 | rng m =>
  have hds : ds = rangeD m 0 := D
  have hjm : j < m := by
   rw [hds] at hd
   have := (List.getElem?_eq_some_iff.mp hd).1
   rwa [rangeD_length] at this
  rw [hds, rangeD_get m 0 j hjm] at hd
  obtain rfl := si hd
  refine wpAny_pyNext_range_item x.2 (by (simp_all +arith)) fun h' hit' hs' => hQ _ h' _ ?_ ⟨hjm, ?_⟩ fun b o hb e => (hs'.2 b hb).trans e
  ·rw [show (0 : Nat) + j = j by (simp +arith only [*])]; exact .int _ _
  ·have e1 : ((j + 1 : Nat) : Int) = (j : Int) + 1 := by rfl
   have e2 : (m : Int) - ((j + 1 : Nat) : Int) = (m : Int) - (j : Int) - 1 := by (simp_all +arith)
   rw [e2, e1]
   exact hit'
theorem it_end {k : ItK} {it : Addr} {j : Nat} {ds : List Dat} {Q : Option Value → Shared → Prop} (hh : A.handled = none) (x : ItAt k s.heap it j) (D : ItD Ω k s.heap ds) (hd : ds.length ≤ j)
  (hQ : ∀ h', (∀ b o, b ≠ it → s.heap.get? b = some o → h'.get? b = some o) → Q none { s with heap := h' }) : wpAny (model prog w) A (pyNext (.ref it)) Q E s := by
 induction k with
 | tup tp vs =>
  have := (show DatsH Ω s.heap vs ds from D).length
  exact wpAny_pyNext_tuple_end hh x.1 x.2 (by simp; (simp_all +arith)) fun h' he => hQ h' he
 | lst l vs =>
  have := (show DatsH Ω s.heap vs ds from D).length
  exact wpAny_pyNext_list_end hh x.1 x.2 (by simp; omega) fun h' he => hQ h' he
 | rng m =>
  have hds : ds = rangeD m 0 := D
  rw [hds, rangeD_length] at hd
  have := x.1
  exact wpAny_pyNext_range_end hh x.2 (by lia) fun h' he => hQ h' he
end
end
section
open PySem PySem.W PySem.SeqAt
variable {κ κ' : OG}
noncomputable def TSoft (h h' : Heap) : Prop := ∀ b o items n, h.get? b = some o → o.cls = .type "tuple" → o.data = .seq items n → ∃ sl, h'.get? b = some { o with slots := sl }
theorem TSoft.tup {h h' : Heap} {a : Addr} {items : Array Value} (k : TSoft h h') (x : h.IsTuple a items) : h'.IsTuple a items := by
 refine o_xaax x fun o ho hc n hd => ?_
 clear x
 obtain ⟨sl, hs⟩ := k a o _ _ ho hc hd
 exact ⟨_, hs, hc, n, hd⟩
theorem noList_tup (ds : List Dat) : noList (.tup ds) = ds.all noList := by
 induction ds with
 | nil => rfl
 | cons d r ih =>
  have h1 : noList (.tup (d :: r)) = @Bool.rec (fun _ => Bool) false (noList (.tup r)) (noList d) := rfl
  rw [h1, ih, List.all_cons]
  induction noList d <;> rfl
theorem DatH.tsoft {Ω : Nat → Value} {h h' : Heap} (k : TSoft h h') {v : Value} {d : Dat} (D : DatH Ω h v d) : noList d = true → DatH Ω h' v d :=
 DatH.rec (motive_1 := fun v d _ => noList d = true → DatH Ω h' v d) (motive_2 := fun vs ds _ => ds.all noList = true → DatsH Ω h' vs ds) (fun _ => .none) (fun b _ => .bool b) (fun i t _ => .int i t) (fun x t o _ => .str x t o) (fun x t n o _ => .txt x t n o) (fun b t _ => .bytes b t)
  (fun x _ r e => .tup (k.tup x) (r ((noList_tup _).symm.trans e))) (fun _ _ _ e => ft e) (fun i _ e _ => .obj i e) (fun _ => .nil) (fun _ _ a r e => .cons (a (ba e).1) (r (ba e).2)) D
theorem DatsH.tsoft {Ω : Nat → Value} {h h' : Heap} (k : TSoft h h') {vs : List Value} {ds : List Dat} (D : DatsH Ω h vs ds) (e : ds.all noList = true) : DatsH Ω h' vs ds := by
 induction ds generalizing vs with
 | nil => rw [D.i0]; exact .nil
 | cons d ds ih =>
  obtain ⟨v, r, q, a, D⟩ := D.ic
  refine b_Lnn e fun e1 e2 => ?_
  rw [q]
  exact .cons (a.tsoft k e1) (ih D e2)
theorem up_but {b h h' : Heap} {y : Addr} (u : Up b h) (k : ∀ x o, x ≠ y → h.get? x = some o → h'.get? x = some o) (hy : b.get? y = none) : Up b h' := by
 have ne : ∀ x o, b.get? x = some o → x ≠ y := fun x o e q => by rw [q, hy] at e; exact nn e
 exact ⟨fun x o e hn => let ⟨sl, hs⟩ := u.slots x o e hn; ⟨sl, k x _ (ne x o e) hs⟩, fun x o e hi => k x o (ne x o e) (u.iters x o e hi)⟩
theorem stays_but {S : Fixed} {h h' : Heap} {y : Addr} (st : Stays S h κ) (k : ∀ x o, x ≠ y → h.get? x = some o → h'.get? x = some o) (hy : S.B0.get? y = none) (hl : ∀ o, h.get? y = some o → ¬ LamLike o) : Stays S h' κ :=
 st.of (fun x o e => k x o (fun q => by rw [q, hy] at e; exact nn e) (st.base x o e)) fun x o e l => k x o (fun q => by subst q; exact hl o e l) e
theorem soft_but {h h' : Heap} {y : Addr} (k : ∀ x o, x ≠ y → h.get? x = some o → h'.get? x = some o) (hl : ∀ o, h.get? y = some o → ∀ items n, o.data ≠ .seq items n) : Soft h h' :=
 fun b o items n e hd => ⟨o.slots, k b o (fun q => by subst q; exact hl o e items n hd) e⟩
theorem ns_lam {h : Heap} {a : Addr} {m : Str → Option Value} (x : h.Ns a m) : ∀ o, h.get? a = some o → ¬ LamLike o := fun o e ⟨vs, hd, _⟩ => by
 refine o_xxxaa x fun o' es ep ho' hd' _ => ?_
 clear x
 rw [e] at ho'
 cases ho'
 rw [hd] at hd'
 injection hd'
theorem list_lam {h : Heap} {a : Addr} {items : Array Value} (x : h.IsList a items) : ∀ o, h.get? a = some o → ¬ LamLike o := fun o e ⟨vs, hd, _⟩ => by
 refine o_xaax x fun o' ho' _ n hd' => ?_
 clear x
 rw [e] at ho'
 cases ho'
 rw [hd] at hd'
 injection hd'
theorem ns_seq {h : Heap} {a : Addr} {m : Str → Option Value} (x : h.Ns a m) : ∀ o, h.get? a = some o → ∀ items n, o.data ≠ .seq items n := fun o e items n hd => by
 refine o_xxxaa x fun o' es ep ho' hd' _ => ?_
 clear x
 rw [e] at ho'
 cases ho'
 rw [hd] at hd'
 injection hd'
theorem b0_none {S : Fixed} {b : Heap} {y : Addr} (st : Stays S b κ) (hy : b.get? y = none) : S.B0.get? y = none := by
 induction q : S.B0.get? y with
 | none => rfl
 | some o => have := st.base _ _ q; rw [hy] at this; exact nn this
/-! a comprehension's own names -/
theorem relabel_names {sc : Scope} {env : Env} (hk : env.scope.kind = .function) : (relabel sc env).names = relab env.scope.names sc.names := by
 unfold relabel relab
 refine List.map_congr_left fun p _ => ?_
 obtain ⟨n, k⟩ := p
 show (if (k == NameKind.free && env.scope.kind == .function && env.kindOf n == some .cell) = true then (n, NameKind.cell) else (n, k)) = if (k == NameKind.free && env.scope.names.lookup n == some .cell) = true then (n, NameKind.cell) else (n, k)
 rw [hk]
 have : env.kindOf n = env.scope.names.lookup n := rfl
 rw [this]
 simp
structure CompOk (sc : Sc) (xs : List Str) (x : Str) (sc' : Scope) : Prop where
 kind : sc'.kind = .function
 noCell : ∀ p ∈ sc'.names, p.2 ≠ .cell
 free : ∀ p ∈ sc'.names, p.2 = .free → sc.lookup p.1 = some .cell
 names : ∀ p ∈ sc'.names, p.2 = .local → sc'.names.lookup p.1 = some .local
 lx : sc'.names.lookup x = some .local
 fresh : x ∉ xs
 loc : ∀ p ∈ relab sc sc'.names, p.2 = .local → p.1 ∉ xs
 noFree : ∀ p ∈ relab sc sc'.names, p.2 ≠ .free
 lam : ∀ q ∈ lamList, q.1.lookup x ≠ some .local
 rx : (relab sc sc'.names).lookup x = some .local
theorem compOk_of {sc : Sc} {xs : List Str} {x : Str} {sc' : Scope} (h : okComp sc xs x sc' = true) : CompOk sc xs x sc' := by
 unfold okComp at h
 simp only [Bool.and_eq_true, List.all_eq_true, beq_iff_eq, Bool.not_eq_true', Bool.or_eq_true, beq_eq_false_iff_ne, decide_eq_true_eq] at h
 refine via fun Gv kv => ?_
 obtain ⟨⟨⟨⟨⟨⟨⟨⟨h1, h2⟩, h3⟩, h4⟩, h5⟩, h6⟩, h7⟩, h8⟩, h9⟩ := h
 refine kv ?_
 clear kv Gv
 refine ⟨h1, fun p hp => (h2 p hp).1.1, fun p hp hf => ?_, fun p hp hl => ?_, h3, by simpa using h4, fun p hp hl => ?_, fun p hp => h6 p hp, fun q hq => h7 q hq, h8⟩
 ·rcases (h2 p hp).1.2 with e | e
  ·exact absurd hf e
  ·exact e
 ·rcases (h2 p hp).2 with e | e
  ·exact absurd hl e
  ·exact e
 ·rcases h5 p hp with e | e
  ·exact absurd hl e
  ·simpa using e
set_option tactic.hygienic true in
theorem relab_cell {sc sc' : Sc} {y : Str} (hn : ∀ p ∈ sc', p.2 ≠ .cell) (h : (relab sc sc').lookup y = some .cell) : (y, NameKind.free) ∈ sc' ∧ sc.lookup y = some .cell := by
 have hm := lookup_mem h
 refine o_xa (List.mem_map.mp hm) fun p hp e => ?_
 split at e
 ·rename_i hc
  simp only [Bool.and_eq_true, beq_iff_eq] at hc
  cases e
  obtain ⟨a, k⟩ := p
  exact ⟨by cases hc.1; exact hp, hc.2⟩
 ·subst e
  exact absurd rfl (hn _ hp)
section
variable {S : Fixed} {env : Env} {xs : List Str} {ρ : List Dat} {h : Heap}
theorem frm_comp (F : Frm S.Ω env xs ρ h) (hk : env.scope.kind = .function) {sc : Scope} {x : Str} (O : CompOk env.scope.names xs x sc) {cl : List (Str × Addr)} {C : Addr} {m : Str → Option Value} {v : Value} {d : Dat}
  (c1 : ∀ y c, cl.lookup y = some c → env.cells.lookup y = some c) (c2 : ∀ y, (y, NameKind.free) ∈ sc.names → ∃ c, cl.lookup y = some c) (hn : h.Ns C m) (hm : m x = some v) (D : DatH S.Ω h v d) :
  Frm S.Ω (compEnvC sc cl C env) (xs ++ [x]) (ρ ++ [d]) h := by
 have kind : ∀ y, (compEnvC sc cl C env).kindOf y = (relab env.scope.names sc.names).lookup y := fun y => by
  show (relabel sc env).names.lookup y = _
  rw [relabel_names hk]
 refine via fun Gv kv => ?_
 obtain ⟨⟨m0, hn0, hv⟩, hc, hh, h1, hln⟩ := F
 refine kv ?_
 clear kv Gv
 refine ⟨⟨m, hn, fun i y d' hy hd => ?_⟩, fun y c e => hc y c (c1 y c e), fun y e => ?_, fun y z c e1 e2 => h1 y z c (c1 y c e1) (c1 z c e2), by simp [hln]⟩
 ·by_cases hi : i < xs.length
  ·rw [List.getElem?_append_left hi] at hy
   rw [List.getElem?_append_left (by rw [hln]; exact hi)] at hd
   have hyx : y ∈ xs := List.mem_of_getElem? hy
   rcases hv i y d' hy hd with e | ⟨_, b⟩
   ·exact .inl e
   ·refine .inr ⟨fun e => ?_, fun e => ?_⟩
    ·rw [kind] at e
     exact absurd hyx (O.loc _ (lookup_mem e) rfl)
    ·rcases e with e | e
     ·rw [kind] at e
      refine via fun Gv kv => ?_
      obtain ⟨e1, e2⟩ := relab_cell O.noCell e
      refine o_xxaa (b (.inl e2)) fun c u b1 b2 b3 => ?_
      obtain ⟨c', e3⟩ := c2 y e1
      refine kv ?_
      clear kv Gv
      have e4 := c1 y c' e3
      rw [b1] at e4
      cases e4
      exact ⟨c, u, e3, b2, b3⟩
     ·rw [kind] at e
      exact absurd rfl (O.noFree _ (lookup_mem e))
  ·have hix : i = xs.length := by
    have := (List.getElem?_eq_some_iff.mp hy).1
    simp at this
    lia
   subst hix
   rw [List.getElem?_append_right (Nat.le_refl _), Nat.sub_self] at hy
   cases hy
   rw [← hln, List.getElem?_append_right (Nat.le_refl _), Nat.sub_self] at hd
   cases hd
   refine .inr ⟨fun _ => ⟨v, hm, D⟩, fun e => ?_⟩
   rw [kind, O.rx] at e
   rcases e with e | e <;> cases e
 ·rw [kind] at e
  exact c2 y (relab_cell O.noCell e).1
theorem cond_comp {n : Nat} {A : Around} (hLam : ∀ l ∈ S.lams, ∃ q ∈ lamList, q.1 = l.sc) (K : Cond S n A env xs ρ h κ) {sc : Scope} {x : Str} (O : CompOk env.scope.names xs x sc) {cl : List (Str × Addr)} {C : Addr} {m : Str → Option Value} {v : Value} {d : Dat}
  (c1 : ∀ y c, cl.lookup y = some c → env.cells.lookup y = some c) (c2 : ∀ y, (y, NameKind.free) ∈ sc.names → ∃ c, cl.lookup y = some c) (hn : h.Ns C m) (hm : m x = some v) (D : DatH S.Ω h v d) :
  Cond S n A (compEnvC sc cl C env) (xs ++ [x]) (ρ ++ [d]) h κ := by
 refine ⟨K.room, K.units, K.handled, K.frames, K.stays, frm_comp K.frm K.kind O c1 c2 hn hm D, O.kind, K.glob, K.blt, fun l hl e => ?_⟩
 exfalso
 refine o_xa (hLam l hl) fun q hq e2 => ?_
 have e3 : l.sc = relab env.scope.names sc.names := e.trans (relabel_names K.kind)
 refine O.lam q hq ?_
 rw [e2, e3]
 exact O.rx
end
end
section
open PySem PySem.W PySem.SeqAt
variable {κ κ' : OG}
section
variable {S : Fixed} {n : Nat} {env : Env} {xs : List Str} {ρ : List Dat} {A : Around}
noncomputable def testsTree (ifs : List Expr) (cenv : Env) : Sem Bool := forIn ifs true fun c r => if r = true then do let ok ← isTrue c cenv (eval c cenv); pure (ForInStep.yield ok) else pure (ForInStep.yield r)
noncomputable def TestRes (S : Fixed) (n : Nat) (A : Around) (env : Env) (xs : List Str) (ρ : List Dat) (x : Str) (sc : Scope) (ifs : List Expr) (d : Dat) (b : Bool) : Prop :=
 ∀ (cenv : Env) (s : Shared) (Q : Bool → Shared → Prop) (E : Value → Shared → Prop), cenv.scope.names = relab env.scope.names sc.names → Cond S n A cenv (xs ++ [x]) (ρ ++ [d]) s.heap (og s) →
  (∀ s', Keep S s.heap s'.heap (og s') → Q b s') → wpAny S.M A (testsTree ifs cenv) Q E s
noncomputable def EltRes (S : Fixed) (n : Nat) (A : Around) (env : Env) (xs : List Str) (ρ : List Dat) (x : Str) (sc : Scope) (elt : Expr) (d v : Dat) : Prop :=
 ∀ (cenv : Env) (s : Shared) (Q : Value → Shared → Prop) (E : Value → Shared → Prop), cenv.scope.names = relab env.scope.names sc.names → Cond S n A cenv (xs ++ [x]) (ρ ++ [d]) s.heap (og s) →
  (∀ u s', DatH S.Ω s'.heap u v → Keep S s.heap s'.heap (og s') → Q u s') → wpAny S.M A (eval elt cenv) Q E s
inductive CoreI (S : Fixed) (base : Heap) (k : ItK) (it D Cc : Addr) (ds : List Dat) (Rm : Nat → List Dat → Prop) (h : Heap) (g : OG) (q : Nat) : Prop where
 | mk (j : Nat) (acc : List Dat) (vs : List Value) (m : Str → Option Value) (hq : q = ds.length - j) (hj : j ≤ ds.length) (hR : Rm j acc) (hI : ItAt k h it j) (hL : h.IsList D vs.toArray) (hD : DatsH S.Ω h vs acc) (hnl : acc.all noList = true) (hal : acc.length ≤ j) (hN : h.Ns Cc m) (hK : Keep S base h g)
theorem comp_core (hLam : ∀ l ∈ S.lams, ∃ q ∈ lamList, q.1 = l.sc) {s : Shared} {base : Heap} {E : Value → Shared → Prop} (C0 : Cond S n A env xs ρ base (og s)) {sc : Scope} {x : Str} (O : CompOk env.scope.names xs x sc) {cl : List (Str × Addr)}
  (c1 : ∀ y c, cl.lookup y = some c → env.cells.lookup y = some c) (c2 : ∀ y, (y, NameKind.free) ∈ sc.names → ∃ c, cl.lookup y = some c)
  {k : ItK} {it : Addr} {ds : List Dat} (hit : ItAt k s.heap it 0) (hds : ItD S.Ω k base ds) {io : Obj} (hpush : s.heap = base.push io) (hito : it = base.objs.size) (hsrc : ∀ a, k.src = some a → ∃ o, base.get? a = some o) (hsz : ds.length ≤ 4096)
  {elt iter : Expr} {ifs : List Expr} {px pos : Pos} (Rm : Nat → List Dat → Prop) (start : Rm 0 [])
  (turn : ∀ j acc d, Rm j acc → ds[j]? = some d → ∃ b, TestRes S n A env xs ρ x sc ifs d b ∧ (b = true → ∃ v, EltRes S n A env xs ρ x sc elt d v ∧ noList v = true ∧ Rm (j + 1) (acc ++ [v])) ∧ (b = false → Rm (j + 1) acc))
  {RR : Value → Addr → Result → Shared → Prop}
  (fin : ∀ (D Cc : Addr) (s' : Shared) m (vs : List Value) acc, Rm ds.length acc → s'.heap.IsList D vs.toArray → DatsH S.Ω s'.heap vs acc → acc.all noList = true → Keep S base s'.heap (og s') → s'.heap.Ns Cc m → base.get? Cc = none → base.get? D = none → D ≠ Cc → RR (.ref D) Cc (.ok .next) s') :
  wpAny S.M A (newList []) (fun acc s₃ => wpAny S.M A (newFunctionEnv sc env.globals cl [] env.qual none .none (some env)) (fun cenv s₄ =>
   codeAny S.M A (.compStart (.ListComp elt [⟨.Name x px, iter, ifs, 0⟩] sc pos) 0 (.ref it) acc { cenv with scope := relabel sc env }) (RR acc cenv.locals) s₄) E s₃) E s := by
 have hitN : base.get? it = none := by rw [hito]; exact Heap.get?_none_of_le (Nat.le_refl _)
 have kp : All base s.heap := by rw [hpush]; exact All.push _ _
 have K0 : Keep S base s.heap (og s) := C0.all kp
 refine wpAny_newObj_type (wpAny_newFunctionEnv O.noCell (by intro y hy; simp at hy) (fun h₁ hns₁ hsb₁ => ?_) O.kind)
 dsimp only at hns₁ hsb₁ ⊢
 generalize hH2 : s.heap.push { cls := .type "list", dict := none, data := .seq ([] : List Value).toArray } = H2 at hns₁ hsb₁ ⊢
 have hs1 : s.heap.objs.size = base.objs.size + 1 := by rw [hpush, Heap.size_push]
 have hC : H2.objs.size = s.heap.objs.size + 1 := by rw [← hH2, Heap.size_push]
 obtain ⟨D, hDd⟩ : ∃ D : Nat, s.heap.objs.size = D := ⟨_, rfl⟩
 obtain ⟨Cc, hCc⟩ : ∃ C : Nat, H2.objs.size = C := ⟨_, rfl⟩
 rw [hCc] at hns₁ hsb₁ hC ⊢
 rw [hDd] at hs1 hC ⊢
 have hDC : D ≠ Cc := by (simp +arith [*])
 have hitD : it ≠ D := by rw [hito, hs1]; exact Nat.ne_of_lt (Nat.lt_succ_self _)
 have hitC : it ≠ Cc := by rw [hito, hC, hs1]; exact Nat.ne_of_lt (Nat.lt_succ_of_lt (Nat.lt_succ_self _))
 have hDle : base.objs.size ≤ D := by rw [hs1]; exact Nat.le_succ _
 have hCle : base.objs.size ≤ Cc := by rw [hC]; exact Nat.le_succ_of_le hDle
 have hDn : base.get? D = none := Heap.get?_none_of_le hDle
 have hCn : base.get? Cc = none := Heap.get?_none_of_le hCle
 have old : ∀ b o, s.heap.get? b = some o → h₁.get? b = some o := fun b o e => hsb₁.extBut b o (fun q => by have h9 := Heap.lt_size e; rw [hDd] at h9; rw [q, hC] at h9; exact absurd h9 (Nat.not_lt.mpr (Nat.le_succ _))) (Heap.get?_push_of_some _ (hH2 ▸ Heap.get?_push_of_some _ e))
 have K1 : Keep S base h₁ (og s) := K0.trans ((C0.keep K0).all old)
 have hD1 : h₁.IsList D ([] : List Value).toArray := ⟨_, hsb₁.extBut _ _ hDC (Heap.get?_push_of_some _ (hH2 ▸ (hDd ▸ Heap.get?_push_size _ rfl))), rfl, 0, rfl⟩
 have hit1 : ItAt k h₁ it 0 := hit.up (Up.of_all old)
 have srcNe : ∀ {y : Addr}, base.get? y = none → k.src ≠ some y := fun {y} hy q => by
  obtain ⟨o, ho⟩ := hsrc y q
  rw [hy] at ho
  exact nn ho
 have dsAt : ∀ {h : Heap}, Up base h → ItD S.Ω k h ds := fun {h} u => by
  induction k with
  | tup tp vs => exact DatsH.up u (show DatsH S.Ω base vs ds from hds)
  | lst l vs => exact DatsH.up u (show DatsH S.Ω base vs ds from hds)
  | rng m => exact hds
 have loop : ∀ s₃ : Shared, s₃.heap = h₁ → og s₃ = og s → codeAny S.M A (.compLoop (.ListComp elt [⟨.Name x px, iter, ifs, 0⟩] sc pos) 0 (.ref it) (.ref D) (compEnvC sc cl Cc env)) (RR (.ref D) Cc) s₃ := by
  intro s₃ hs₃ hg₃
  refine codeAny_compLoop_tests (fun q s' => CoreI S base k it D Cc ds Rm s'.heap (og s') q) ?_ ds.length
   ⟨0, [], [], _, by rfl, Nat.zero_le _, start, hs₃ ▸ hit1, hs₃ ▸ hD1, .nil, rfl, Nat.le_refl _, hs₃ ▸ hns₁, by rw [hs₃, hg₃]; exact K1⟩
  rintro q s' ⟨j, acc, vs, m, rfl, hj, hR, hI, hL, hDs, hnl, hal, hN, hK⟩
  refine o_xxaa hI.obj fun io' iv hio hid hil => ?_
  have kindx : (compEnvC sc cl Cc env).kindOf x = some .local := by
   show (relabel sc env).names.lookup x = _
   rw [relabel_names C0.kind]
   exact O.rx
  by_cases hlt : j < ds.length
  ·obtain ⟨d, hd⟩ : ∃ d, ds[j]? = some d := ⟨ds[j], List.getElem?_eq_getElem hlt⟩
   refine it_next hI (dsAt hK.up) hd fun v h' tk Dv hI' k1 => ?_
   have K2 : Keep S base h' (og s') := ⟨up_but hK.up k1 hitN, stays_but hK.stays k1 (b0_none C0.stays hitN) fun o e => by rw [hio] at e; obtain rfl := si e; exact hil⟩
   have sf1 : Soft s'.heap h' := soft_but k1 fun o e items n hd => by rw [hio] at e; obtain rfl := si e; rw [hid] at hd; injection hd
   have hL1 := sf1.lst hL
   have hN1 : h'.Ns Cc m := by obtain ⟨o, es, ep, ho, r⟩ := hN; exact ⟨o, es, ep, k1 _ _ (Ne.symm hitC) ho, r⟩
   have hDs1 := hDs.soft sf1
   have Dv1 := Dv.soft sf1
   refine wpAny_assign_Name (wpAny_storeName_local kindx (s := { s' with heap := h', toks := tk }) hN1 (fun h2 hN2 hs2 => ?_) (by rw [show (compEnvC sc cl Cc env).scope.kind = .function from O.kind]; rfl))
   have k2 : ∀ b o, b ≠ Cc → h'.get? b = some o → h2.get? b = some o := fun b o hb e => (hs2.2 b hb).trans e
   have K3 : Keep S base h2 (og s') := ⟨up_but K2.up k2 hCn, stays_but K2.stays k2 (b0_none C0.stays hCn) (ns_lam hN1)⟩
   have sf2 : Soft h' h2 := soft_but k2 (ns_seq hN1)
   have hL2 := sf2.lst hL1
   have hDs2 := hDs1.soft sf2
   have Dv2 := Dv1.soft sf2
   have hI2 : ItAt k h2 it (j + 1) := hI'.but k2 hitC (srcNe hCn)
   refine o_xaa (turn j acc d hR hd) fun b tr tt tf => ?_
   have CC := cond_comp (C := Cc) hLam (C0.keep K3) O c1 c2 hN2 (if_pos rfl) Dv2
   show wpAny S.M A (testsTree ifs (compEnvC sc cl Cc env)) _ _ _
   refine tr (compEnvC sc cl Cc env) _ _ _ (relabel_names C0.kind) CC fun s4 K4 => ?_
   have hI4 := hI2.up K4.up
   have hL4 := up_isList K4.up hL2
   have hDs4 := hDs2.up K4.up
   have hN4 := K4.up.slots.ns hN2
   induction b with
   | false => exact ⟨ds.length - (j + 1), by lia, j + 1, acc, vs, _, rfl, hlt, tf rfl, hI4, hL4, hDs4, hnl, by lia, hN4, K3.trans K4⟩
   | true =>
    refine o_xaa (tt rfl) fun u er hu hR' => ?_
    show wpAny _ _ _ _ _ s4
    refine er (compEnvC sc cl Cc env) s4 _ _ (relabel_names C0.kind) (CC.keep K4) fun w s5 Dw K5 => ?_
    have hI5 := hI4.up K5.up
    have hL5 := up_isList K5.up hL4
    have hDs5 := hDs4.up K5.up
    have hN5 := K5.up.slots.ns hN4
    have K6 : Keep S base s5.heap (og s5) := (K3.trans K4).trans K5
    have hvl : vs.length = acc.length := hDs5.length
    refine wpAny_list_append hL5 (fun h6 hL6 hs6 => ?_) (by rw [sizeLine_eq]; simp; lia)
    have k6 : ∀ b o, b ≠ D → s5.heap.get? b = some o → h6.get? b = some o := fun b o hb e => (hs6.2 b hb).trans e
    have ts6 : TSoft s5.heap h6 := fun b o items n e hc hd => ⟨o.slots, k6 b o (fun q => by
     refine o_xaa hL5 fun o' ho' hc' _ => ?_
     clear hL5
     rw [q, ho'] at e
     obtain rfl := si e
     rw [hc'] at hc
     exact absurd hc (by decide)) e⟩
    have K7 : Keep S base h6 (og s5) := ⟨up_but K6.up k6 hDn, stays_but K6.stays k6 (b0_none C0.stays hDn) (list_lam hL5)⟩
    obtain ⟨m6, hN6⟩ : ∃ m6, h6.Ns Cc m6 := by obtain ⟨o, es, ep, ho, r⟩ := hN5; exact ⟨_, o, es, ep, k6 _ _ (Ne.symm hDC) ho, r⟩
    refine ⟨ds.length - (j + 1), by lia, j + 1, acc ++ [u], vs ++ [w], _, rfl, hlt, hR', hI5.but k6 hitD (srcNe hDn), by simpa using hL6, (hDs5.tsoft ts6 hnl).append (.cons (Dw.tsoft ts6 hu) .nil), by rw [List.all_append, hnl]; simp [hu], by rw [List.length_append]; simp; omega, hN6, K7⟩
  ·have hje : j = ds.length := by lia
   refine it_end C0.handled hI (dsAt hK.up) (by (simp +arith at *; assumption)) fun h' k1 => ?_
   have K2 : Keep S base h' (og s') := ⟨up_but hK.up k1 hitN, stays_but hK.stays k1 (b0_none C0.stays hitN) fun o e => by rw [hio] at e; obtain rfl := si e; exact hil⟩
   have sf1 : Soft s'.heap h' := soft_but k1 fun o e items n hd => by rw [hio] at e; obtain rfl := si e; rw [hid] at hd; injection hd
   have hN1 : h'.Ns Cc m := by obtain ⟨o, es, ep, ho, r⟩ := hN; exact ⟨o, es, ep, k1 _ _ (Ne.symm hitC) ho, r⟩
   rw [hje] at hR
   exact fin D Cc _ m vs acc hR (sf1.lst hL) (hDs.soft sf1) hnl K2 hN1 hCn hDn hDC
 refine codeAny_compStart_list (loop _ rfl rfl) ?_
 have selfI : wpAny S.M A (pyIter (.ref it)) (fun it' s' => codeAny S.M A (.compLoop (.ListComp elt [⟨.Name x px, iter, ifs, 0⟩] sc pos) 0 it' (.ref D) (compEnvC sc cl Cc env)) (RR (.ref D) Cc) s')
   (notedBy S.M A (compEnvC sc cl Cc env) fun x s' => RR (.ref D) Cc (.error x) s') { s with heap := h₁, toks := s.toks + ([] : List (Str × Value)).length } := by
  induction k with
  | tup tp vs => exact wpAny_pyIter_tupleiter (s := { s with heap := h₁, toks := s.toks + ([] : List (Str × Value)).length }) hit1.1 (loop _ rfl rfl)
  | lst l vs => exact wpAny_pyIter_listiter (s := { s with heap := h₁, toks := s.toks + ([] : List (Str × Value)).length }) hit1.1 (loop _ rfl rfl)
  | rng m => exact wpAny_pyIter_rangeiter (s := { s with heap := h₁, toks := s.toks + ([] : List (Str × Value)).length }) hit1.2 (loop _ rfl rfl)
 exact selfI
end
end
section
open PySem PySem.W PySem.SeqAt
variable {κ κ' : OG}
section
variable {S : Fixed} {t : Tabs} {n : Nat} {env : Env} {xs : List Str} {ρ : List Dat} {A : Around} {out : Out}
structure Loops (S : Fixed) (n : Nat) (A : Around) (env : Env) (xs : List Str) (ρ : List Dat) (x : Str) (sc : Scope) (ifs : List Expr) (elt : Expr) (ds : List Dat) (out : Out) : Prop where
 len : ds.length ≤ 4096
 ex : ∃ Rm : Nat → List Dat → Prop, Rm 0 [] ∧ (∀ j acc d, Rm j acc → ds[j]? = some d → ∃ b, TestRes S n A env xs ρ x sc ifs d b ∧ (b = true → ∃ v, EltRes S n A env xs ρ x sc elt d v ∧ noList v = true ∧ Rm (j + 1) (acc ++ [v])) ∧ (b = false → Rm (j + 1) acc)) ∧
  ∀ acc, Rm ds.length acc → out = .val (.list acc)
theorem testRes_nil {x : Str} {sc : Scope} {d : Dat} : TestRes S n A env xs ρ x sc [] d true := fun cenv s Q E _ C h => by
 show wpAny S.M A (pure true) Q E s
 exact wpAny_pure (h s C.same)
theorem iteN_inv {b : Bool} {x : Option Out} {out : Out} (h : iteO b x none = some out) : b = true ∧ x = some out := by
 rcases iteO_inv h with h | ⟨_, h⟩
 ·exact h
 ·exact nn h
theorem drop_cons {ds : List Dat} {j : Nat} {d : Dat} (h : ds[j]? = some d) : ds.drop j = d :: ds.drop (j + 1) := by
 obtain ⟨h1, h2⟩ := List.getElem?_eq_some_iff.mp h
 rw [List.drop_eq_getElem_cons h1, h2]
theorem loops_comp (I : SoundE S t n) {x : Str} {sc : Scope} {elt : M} {ds : List Dat} (hok : okM (relab env.scope.names sc.names) (xs ++ [x]) elt = true) (hl : ds.length ≤ 4096) (h : compR (runT t n) ρ elt ds [] = some out) :
  Loops S n A env xs ρ x sc [] (toE elt) ds out := by
 refine ⟨hl, fun j acc => compR (runT t n) ρ elt (ds.drop j) acc = some out, by show _ = some out; rw [List.drop_zero]; exact h, fun j acc d hj hd => ?_, fun acc hj => ?_⟩
 ·have hj : compR (runT t n) ρ elt (ds.drop j) acc = some out := hj
  rw [drop_cons hd] at hj
  have hj' : (forceL (appD ρ [d]) fun ρ' => pureO (runT t n (.ex elt) ρ') fun v => iteO (noList v) (forceL (appD acc [v]) (compR (runT t n) ρ elt (ds.drop (j + 1)))) none) = some out := hj
  rw [forceL_eq, appD_eq] at hj'
  refine o_xa (pureO_inv hj') fun v h1 h2 => ?_
  obtain ⟨h3, h4⟩ := iteN_inv h2
  rw [forceL_eq, appD_eq] at h4
  refine ⟨true, testRes_nil, fun _ => ⟨v, fun cenv s Q E e C k => I.ex elt _ _ h1 A cenv (xs ++ [x]) s Q E (by rw [e]; exact hok) C k, h3, h4⟩, fun e => by cases e⟩
 ·have hj : compR (runT t n) ρ elt (ds.drop ds.length) acc = some out := hj
  rw [List.drop_length] at hj
  exact (Option.some.inj hj).symm
theorem pureT_inv {o : Option Out} {k : Bool → Option Out} {out : Out} (h : pureT o k = some out) : ∃ b, o = some (.test b) ∧ k b = some out := by
 induction o with
 | none => exact nn h
 | some o => induction o with
  | test b => exact ⟨b, rfl, by rw [← forceB_eq b k]; exact h⟩
  | _ => exact nn h
theorem loops_compIf (I : SoundE S t n) {x : Str} {sc : Scope} {q elt : M} {ds : List Dat} (hq : okM (relab env.scope.names sc.names) (xs ++ [x]) q = true) (htq : okT q = true) (hok : okM (relab env.scope.names sc.names) (xs ++ [x]) elt = true) (hl : ds.length ≤ 4096)
  (h : compIfR (runT t n) ρ q elt ds [] = some out) : Loops S n A env xs ρ x sc [toE q] (toE elt) ds out := by
 refine ⟨hl, fun j acc => compIfR (runT t n) ρ q elt (ds.drop j) acc = some out, by show _ = some out; rw [List.drop_zero]; exact h, fun j acc d hj hd => ?_, fun acc hj => ?_⟩
 ·have hj : compIfR (runT t n) ρ q elt (ds.drop j) acc = some out := hj
  rw [drop_cons hd] at hj
  have hj' : (forceL (appD ρ [d]) fun ρ' => pureT (runT t n (.test q) ρ') fun b => match b with
   | true => pureO (runT t n (.ex elt) ρ') fun v => iteO (noList v) (forceL (appD acc [v]) (compIfR (runT t n) ρ q elt (ds.drop (j + 1)))) none
   | false => compIfR (runT t n) ρ q elt (ds.drop (j + 1)) acc) = some out := hj
  rw [forceL_eq, appD_eq] at hj'
  refine o_xa (pureT_inv hj') fun b h1 h2 => ?_
  have tr : TestRes S n A env xs ρ x sc [toE q] d b := fun cenv s Q E e C k => by
   have key : wpAny S.M A (isTrue (toE q) cenv (eval (toE q) cenv)) (fun r s' => Q r s') E s := I.te q _ _ h1 A cenv (xs ++ [x]) s _ E (by rw [e]; exact hq) htq C fun s' K => k s' K
   unfold testsTree
   rw [List.forIn_cons]
   refine wpAny_bind ?_
   rw [if_pos rfl]
   refine wpAny_bind (wpAny_mono key (fun r s' hr => wpAny_pure ?_) fun _ _ z => z)
   show wpAny S.M A (forIn [] r _) Q E s'
   rw [List.forIn_nil]
   exact wpAny_pure hr
  induction b with
  | true =>
   refine o_xa (pureO_inv (show (pureO (runT t n (.ex elt) (ρ ++ [d])) fun v => iteO (noList v) (forceL (appD acc [v]) (compIfR (runT t n) ρ q elt (ds.drop (j + 1)))) none) = some out from h2)) fun v h3 h4 => ?_
   obtain ⟨h5, h6⟩ := iteN_inv h4
   rw [forceL_eq, appD_eq] at h6
   exact ⟨true, tr, fun _ => ⟨v, fun cenv s Q E e C k => I.ex elt _ _ h3 A cenv (xs ++ [x]) s Q E (by rw [e]; exact hok) C k, h5, h6⟩, fun e => by cases e⟩
  | false => exact ⟨false, tr, (fun e => (by exact ft e)), fun _ => h2⟩
 ·have hj : compIfR (runT t n) ρ q elt (ds.drop ds.length) acc = some out := hj
  rw [List.drop_length] at hj
  exact (Option.some.inj hj).symm
theorem Keep.re {h h' : Heap} (k : Keep S h h' κ) (e : κ' = S.og) : Keep S h h' κ' := ⟨k.up, k.stays.base, k.stays.lam, e⟩
noncomputable def SrcOk (S : Fixed) (A : Around) (env : Env) (s : Shared) (iter : Expr) (out : Out) (Rest : List Dat → Prop) : Prop :=
 ∀ (R : Value → Shared → Prop) (E : Value → Shared → Prop), (∀ c p, out = .err c p → ∀ e s', S.X s'.heap e c p → Keep S s.heap s'.heap (og s') → E (.ref e) s') →
  (∀ (base : Heap) (it : Addr) (s₂ : Shared) (k : ItK) (ds : List Dat) (io : Obj), Keep S s.heap base (og s₂) → s₂.heap = base.push io → it = base.objs.size → ItAt k s₂.heap it 0 → ItD S.Ω k base ds → (∀ a, k.src = some a → ∃ o, base.get? a = some o) → Rest ds → R (.ref it) s₂) →
  wpAny S.M A (eval iter env) (fun x s₁ => wpAny S.M A (pyIter x) R E s₁) E s
theorem comp_run (hLam : ∀ l ∈ S.lams, ∃ q ∈ lamList, q.1 = l.sc) {s : Shared} (C : Cond S n A env xs ρ s.heap (og s)) {sc : Scope} {x : Str} (O : CompOk env.scope.names xs x sc) {elt iter : Expr} {ifs : List Expr} {px pos pos' : Pos} (hs : ∀ x, foldedSetIterable iter env x = pure x)
  {Rest : List Dat → Prop} (src : SrcOk S A env s iter out Rest) (hR : ∀ ds, Rest ds → Loops S n A env xs ρ x sc ifs elt ds out) {use : Option (Value → Sem Unit)} {Q E : Value → Shared → Prop}
  (perr : ∀ c p, out = .err c p → ∀ e s', S.X s'.heap e c p → Keep S s.heap s'.heap (og s') → E (.ref e) s')
  (fin : ∀ (base : Heap) (D Cc : Addr) (s' : Shared) m (vs : List Value) acc, Keep S s.heap base (og s) → out = .val (.list acc) → s'.heap.IsList D vs.toArray → DatsH S.Ω s'.heap vs acc → acc.all noList = true → Keep S base s'.heap (og s') → s'.heap.Ns Cc m → base.get? Cc = none → base.get? D = none → D ≠ Cc →
   compPost S.M A E use Q (.ref D) Cc (.ok .next) s') :
  wpAny S.M A (comprehension (.ListComp elt [⟨.Name x px, iter, ifs, 0⟩] sc pos) sc env pos' (newList []) false (eval iter env) use) Q E s := by
 refine o_xaa (closure_of (env := env) (sc := sc) fun p hp hf => C.frm.has p.1 (O.free p hp hf)) fun cl e1 c1 c2 => ?_
 refine wpAny_comprehension_free rfl hs e1 O.kind O.names ?_
 refine src _ E perr fun base it s₂ k ds io K0 hpush hito hit hds hsrc hrest => ?_
 refine via fun Gv kv => ?_
 obtain ⟨hlen, Rm, r0, rt, re⟩ := hR ds hrest
 refine kv ?_
 clear kv Gv
 exact comp_core hLam (C.keep K0) O c1 c2 hit hds hpush hito hsrc hlen Rm r0 rt fun D Cc s' m vs acc h1 h2 h3 h4 h5 h6 h7 h8 h9 => fin base D Cc s' m vs acc (K0.re C.stays.og) (re acc h1) h2 h3 h4 h5 h6 h7 h8 h9
theorem src_seq (I : SoundE S t n) {s : Shared} (C : Cond S n A env xs ρ s.heap (og s)) {a : M} (ha : okM env.scope.names xs a = true) {kk : List Dat → Option Out} (h : (andO (runT t n (.ex a) ρ) fun d => onSeq d fun ds => kk ds) = some out) :
  SrcOk S A env s (toE a) out fun ds => kk ds = some out := by
 intro R E perr nxt
 refine step_ex h (fun o' ho R' PR => I.ex a ρ o' ho A env xs s R' E ha C PR) perr fun d v s₁ _ hd D K => ?_
 induction d using Dat.casesOn with
 | tup ds =>
  refine o_xxaa D.it fun tp vs q hx r => ?_
  subst q
  ·refine wpAny_pyIter_tuple hx (nxt s₁.heap _ _ (.tup tp vs) ds _ K rfl rfl ⟨⟨_, Heap.get?_push_size _ rfl, rfl, rfl⟩, up_isTuple (Up.of_all (All.push _ _)) hx⟩ r (fun b e => ?_) hd)
   obtain rfl := si e
   refine o_xa hx fun o ho _ => ?_
   clear hx
   exact ⟨o, ho⟩
 | list ds =>
  refine o_xxaa D.il fun tp vs q hx r => ?_
  subst q
  ·refine wpAny_pyIter_list hx (nxt s₁.heap _ _ (.lst tp vs) ds _ K rfl rfl ⟨⟨_, Heap.get?_push_size _ rfl, rfl, rfl⟩, up_isList (Up.of_all (All.push _ _)) hx⟩ r (fun b e => ?_) hd)
   obtain rfl := si e
   refine o_xa hx fun o ho _ => ?_
   clear hx
   exact ⟨o, ho⟩
 | _ => exact nn hd
variable {fa : Nat → Addr} {mg mb : Str → Option Value}
theorem src_rng (G : Globs S t fa mg mb) {s : Shared} (C : Cond S n A env xs ρ s.heap (og s)) (e1 : mg (Str.ofString "range") = none) (e2 : mb (Str.ofString "range") = some (.type "range")) (h2 : okGlob env.scope.names (Str.ofString "range") = true)
  {m : Nat} {rp cp np : Pos} {nk : Nat} (hm : m ≤ 4095) : SrcOk S A env s (.Call (.Name (Str.ofString "range") rp) [.Constant (.int (.ofNat m)) nk cp] [] np) out fun ds => ds = rangeD m 0 := by
 intro R E perr nxt
 refine wpAny_Call_ofName (name_builtin G C h2 e1 e2 (callWith_excType rfl ?_))
 refine Calls.evalArgs_plain (Calls.spliced_cons (wpAny_Constant_int (k := nk) (pos := cp) (Calls.spliced_nil ?_)))
 refine call_range_1 ?_
 let s₁ : Shared := { s with heap := s.heap.push { cls := .type "range", data := .fields #[.int 0 (s.toks + 1), .int (.ofNat m) s.toks, .int 1 (s.toks + 1 + 1)] }, toks := s.toks + 1 + 1 + 1 }
 show wpAny S.M A (pyIter (.ref s.heap.objs.size)) _ E s₁
 have hrange : Builtin.Range.rangeSize 0 (Int.ofNat m) 1 = (m : Int) := by
  rw [rangeSize_one]
  show (if (0 : Int) < (m : Int) then (m : Int) - 0 else 0) = m
  split <;> (simp_all +arith)
 refine wpAny_pyIter_range (s := s₁) (IsRange.new _ _ _ _ _ _ _) (small_one (by decide) (by decide) (by show -(2 ^ 62) ≤ (m : Int); (simp_all +arith)) (by show (m : Int) < 2 ^ 62; lia)) ?_
 rw [hrange]
 have K1 : Keep S s.heap s₁.heap (og s₁) := C.all (All.push _ _)
 exact nxt s₁.heap _ _ (.rng m) (rangeD m 0) _ K1 rfl rfl ⟨Nat.zero_le _, by rw [show ((m : Int) - ((0 : Nat) : Int)) = (m : Int) by rfl]; exact Heap.get?_push_size _ rfl⟩ rfl (fun a e => by exact nn e) rfl
end
end
section
set_option backward.match.sparseCases false
open PySem PySem.W PySem.SeqAt
variable {κ κ' : OG}
section
variable {S : Fixed} {t : Tabs} {n : Nat} {ρ : List Dat} {out : Out} {fa : Nat → Addr} {mg mb : Str → Option Value}
noncomputable def isComp : M → Bool
 | .u o _ => match o with
  | .crng _ _ _ _ _ _ _ _ _ => true
  | _ => false
 | .b o _ _ => match o with
  | .comp _ _ _ _ => true
  | _ => false
 | .c o _ _ _ => match o with
  | .compIf _ _ _ _ => true
  | _ => false
 | _ => false
noncomputable def compSc : M → Scope × Pos
 | .u o _ => match o with
  | .crng _ _ sc _ _ _ _ _ p => (sc, p)
  | _ => default
 | .b o _ _ => match o with
  | .comp _ sc _ p => (sc, p)
  | _ => default
 | .c o _ _ _ => match o with
  | .compIf _ sc _ p => (sc, p)
  | _ => default
 | _ => default
structure CompParts (S : Fixed) (n : Nat) (A : Around) (env : Env) (xs : List Str) (ρ : List Dat) (m : M) (out : Out) (elt iter : Expr) (ifs : List Expr) (x : Str) (px : Pos) (Rest : List Dat → Prop) : Prop where
 shape : toE m = .ListComp elt [⟨.Name x px, iter, ifs, 0⟩] (compSc m).1 (compSc m).2
 ok : CompOk env.scope.names xs x (compSc m).1
 set : ∀ y, foldedSetIterable iter env y = pure y
 src : ∀ s, Cond S n A env xs ρ s.heap (og s) → SrcOk S A env s iter out Rest
 loops : ∀ ds, Rest ds → Loops S n A env xs ρ x (compSc m).1 ifs elt ds out
theorem comp_cases {P : M → Prop} (cr : ∀ k x sc xp rp cp np nk p a, P (.u (.crng k x sc xp rp cp np nk p) a)) (co : ∀ x sc xp p a b, P (.b (.comp x sc xp p) a b)) (ci : ∀ x sc xp p a b c, P (.c (.compIf x sc xp p) a b c)) (m : M) (hm : isComp m = true) : P m := by
 induction m using M.casesOn with
 | u o a => induction o with
  | crng k x sc xp rp cp np nk p => exact cr k x sc xp rp cp np nk p a
  | _ => exact ft hm
 | b o a b => induction o with
  | comp x sc xp p => exact co x sc xp p a b
  | _ => exact ft hm
 | c o a b c => induction o with
  | compIf x sc xp p => exact ci x sc xp p a b c
  | _ => exact ft hm
 | _ => exact ft hm
theorem use_comp {sc : Sc} {x : Str} {xp : Pos} {m : M} (h : okUse sc x xp m = true) : isComp m = true := by
 induction m using M.casesOn with
 | u o a => induction o with
  | crng k x sc xp rp cp np nk p => rfl
  | _ => exact ft h
 | b o a b => induction o with
  | comp x sc xp p => rfl
  | _ => exact ft h
 | c o a b c => induction o with
  | compIf x sc xp p => rfl
  | _ => exact ft h
 | _ => exact ft h
theorem comp_parts (I : SoundE S t n) (G : Globs S t fa mg mb) (e1 : mg (Str.ofString "range") = none) (e2 : mb (Str.ofString "range") = some (.type "range")) {m : M} (hm : isComp m = true) (h : runT t (n + 1) (.ex m) ρ = some out)
  {A : Around} {env : Env} {xs : List Str} (hok : okM env.scope.names xs m = true) : ∃ elt iter ifs x px Rest, CompParts S n A env xs ρ m out elt iter ifs x px Rest := by
 refine comp_cases (P := fun m => runT t (n + 1) (.ex m) ρ = some out → okM env.scope.names xs m = true → ∃ elt iter ifs x px Rest, CompParts S n A env xs ρ m out elt iter ifs x px Rest)
  (fun k x sc xp rp cp np nk p a h hok => ?_) (fun x sc xp p a b h hok => ?_) (fun x sc xp p a b c h hok => ?_) m hm h hok
 ·have hok' : (okM (relab env.scope.names sc.names) (xs ++ [x]) a && okComp env.scope.names xs x sc && (okGlob env.scope.names (Str.ofString "range") && Nat.ble k 4095)) = true := hok
  refine b_LLnnLnn hok' fun h1 h2 h3 h4 => ?_
  clear hok'
  have h' : compR (runT t n) ρ a (rangeD k 0) [] = some out := h
  have hk := Nat.le_of_ble_eq_true h4
  exact ⟨toE a, _, [], x, xp, fun ds => ds = rangeD k 0, rfl, compOk_of h2, fun _ => rfl, fun s C => src_rng G C e1 e2 h3 hk, fun ds e => by subst e; exact loops_comp I h1 (by rw [rangeD_length]; (exact Nat.le_trans ‹_› (by decide))) h'⟩
 ·have hok' : (okM env.scope.names xs a && okM (relab env.scope.names sc.names) (xs ++ [x]) b && okComp env.scope.names xs x sc && notRaw a) = true := hok
  refine b_LLLnnnn hok' fun h1 h2 h3 h4 => ?_
  clear hok'
  have h' : (andO (runT t n (.ex a) ρ) fun d => onSeq d fun ds => iteO (Nat.ble ds.length 4096) (compR (runT t n) ρ b ds []) none) = some out := h
  refine ⟨toE b, toE a, [], x, xp, _, rfl, compOk_of h3, fun y => iterable_no h4 env y, fun s C => src_seq I C h1 h', fun ds e => ?_⟩
  obtain ⟨q1, q2⟩ := iteN_inv e
  exact loops_comp I h2 (Nat.le_of_ble_eq_true q1) q2
 ·have hok' : (okM env.scope.names xs a && (okM (relab env.scope.names sc.names) (xs ++ [x]) b && okM (relab env.scope.names sc.names) (xs ++ [x]) c) && okT b && okComp env.scope.names xs x sc && notRaw a) = true := hok
  refine b_LLLLnLnnnnn hok' fun h1 h2 h5 h6 h3 h4 => ?_
  clear hok'
  have h' : (andO (runT t n (.ex a) ρ) fun d => onSeq d fun ds => iteO (Nat.ble ds.length 4096) (compIfR (runT t n) ρ b c ds []) none) = some out := h
  refine ⟨toE c, toE a, [toE b], x, xp, _, rfl, compOk_of h3, fun y => iterable_no h4 env y, fun s C => src_seq I C h1 h', fun ds e => ?_⟩
  obtain ⟨q1, q2⟩ := iteN_inv e
  exact loops_compIf I h2 h6 h5 (Nat.le_of_ble_eq_true q1) q2
theorem ex_comps (hLam : ∀ l ∈ S.lams, ∃ q ∈ lamList, q.1 = l.sc) (I : SoundE S t n) (G : Globs S t fa mg mb) (e1 : mg (Str.ofString "range") = none) (e2 : mb (Str.ofString "range") = some (.type "range")) {m : M} (hm : isComp m = true) (h : runT t (n + 1) (.ex m) ρ = some out) :
  ExOk S (n + 1) m ρ out := by
 intro A env xs s Q E hok C P
 refine o_xxxxxx (comp_parts (S := S) (A := A) I G e1 e2 hm h hok) fun elt iter ifs x px Rest W => ?_
 have C' := C.less (Nat.le_succ n)
 rw [W.shape, eval_ListComp]
 refine comp_run hLam C' W.ok W.set (W.src s C') W.loops P.perr fun base D Cc s' m' vs acc K0 ho hL hD hnl K1 hN hC hDn hDC => ?_
 subst ho
 refine ⟨m', hN, fun h' hs' => ?_⟩
 have k2 : ∀ b o, b ≠ Cc → s'.heap.get? b = some o → h'.get? b = some o := fun b o hb e => (hs'.2 b hb).trans e
 have sf : Soft s'.heap h' := soft_but k2 (ns_seq hN)
 have Kf : Keep S base h' (og s') := ⟨up_but K1.up k2 hC, stays_but K1.stays k2 (b0_none K0.stays hC) (ns_lam hN)⟩
 exact P (.ref D) { s' with heap := h' } (.list (sf.lst hL) (hD.soft sf)) (K0.trans Kf)
theorem sw_pure {env : Env} {x : Str} {l l' : Nat} {b : Bool} (hk : env.scope.kind = .function) (h : ((env.scope.names.lookup x == some .local) && Nat.beq l l' && !b) = true) :
  (pure (env.blockKind == .function && env.kindOf x == some .local && l == l' && !b) : Sem Bool) = pure true ∧ env.kindOf x = some .local := by
 have bk : env.blockKind = .function := by unfold Env.blockKind; rw [hk]; rfl
 refine b_LLnnn h fun h1 h2 h3 => ?_
 refine ⟨?_, beq_iff_eq.mp h1⟩
 rw [h3, bk, show (env.kindOf x == some .local) = true from h1, show (l == l') = true from beq_iff_eq.mpr (Nat.eq_of_beq_eq_true h2)]
 rfl
theorem use_sw {env : Env} {x : Str} {xp : Pos} {m : M} {p : Pos} (hk : env.scope.kind = .function) (h : okUse env.scope.names x xp m = true) : swapsWith (toE m) (some (.Name x xp)) p.line env = pure true ∧ env.kindOf x = some .local := by
 refine comp_cases (P := fun m => okUse env.scope.names x xp m = true → swapsWith (toE m) (some (.Name x xp)) p.line env = pure true ∧ env.kindOf x = some .local)
  (fun k y sc yp rp cp np nk q a h => ?_) (fun y sc yp q a b h => ?_) (fun y sc yp q a b c h => ?_) m (use_comp h) h
 ·exact sw_pure hk h
 ·exact sw_pure hk h
 ·exact sw_pure hk h
theorem up_but2 {b g h h' : Heap} {y : Addr} (u : Up b h) (v : Up b g) (hg : g.get? y = none) (k : ∀ x o, x ≠ y → h.get? x = some o → h'.get? x = some o) : Up b h' :=
 ⟨fun x o e hn => by
  obtain ⟨sl, hs⟩ := u.slots x o e hn
  obtain ⟨sl', hs'⟩ := v.slots x o e hn
  exact ⟨sl, k x _ (fun q => by rw [q, hg] at hs'; exact nn hs') hs⟩, fun x o e hi => k x o (fun q => by have := v.iters x o e hi; rw [q, hg] at this; exact nn this) (u.iters x o e hi)⟩
theorem Frm.but {env : Env} {xs : List Str} {h h' : Heap} {y : Addr} {m : Str → Option Value} (F : Frm S.Ω env xs ρ h) (k : ∀ b o, b ≠ y → h.get? b = some o → h'.get? b = some o) (hy : h.Ns y m) (hne : env.locals ≠ y) : Frm S.Ω env xs ρ h' := by
 have sf : Soft h h' := soft_but k (ns_seq hy)
 have ck : ∀ c v, h.IsCell c v → h'.IsCell c v := fun c v ⟨o, ho, hd⟩ => ⟨o, k c o (fun q => ns_cell (q ▸ hy) ⟨o, ho, hd⟩) ho, hd⟩
 refine via fun Gv kv => ?_
 obtain ⟨⟨m0, hn, hv⟩, hc, hh, h1, hln⟩ := F
 refine kv ?_
 clear kv Gv
 refine ⟨⟨m0, ?_, fun i x d hx hd => ?_⟩, fun x c e => let ⟨o, q⟩ := hc x c e; ⟨o, ck _ _ q⟩, hh, h1, hln⟩
 ·refine o_xxxa hn fun o es ep ho r => ?_
  clear hn
  exact ⟨o, es, ep, k _ _ hne ho, r⟩
 ·rcases hv i x d hx hd with e | ⟨a, b⟩
  ·exact .inl e
  ·exact .inr ⟨fun e => let ⟨v, e1, e2⟩ := a e; ⟨v, e1, e2.soft sf⟩, fun e => let ⟨c, v, e1, e2, e3⟩ := b e; ⟨c, v, e1, ck _ _ e2, e3.soft sf⟩⟩
theorem st_asg_use (hLam : ∀ l ∈ S.lams, ∃ q ∈ lamList, q.1 = l.sc) (I : ∀ k, k ≤ n → SoundE S t k) (G : Globs S t fa mg mb) (e1 : mg (Str.ofString "range") = none) (e2 : mb (Str.ofString "range") = some (.type "range")) {i : Nat} {x : Str} {xp p : Pos} {a : M} (h : sAsg i (runT t n) ρ a = some out)
  {A : Around} {env : Env} {xs : List Str} {s : Shared} {h0 : Heap} {outer : List Env} {Q : Flow → Shared → Prop} {E : Value → Shared → Prop} (hx : at? xs i x = true) (hu : okUse env.scope.names x xp a = true) (hok : okM env.scope.names xs a = true)
  (T : At S (n + 1) A env xs ρ h0 outer s.heap (og s)) (P : PostF S env xs h0 outer out Q E) : wpAny S.M A (exec (.Assign [.Name x xp] (toE a) p) env) Q E s := by
 obtain ⟨sw, hl⟩ := use_sw (p := p) T.cond.kind hu
 have hm := use_comp hu
 induction n using Nat.casesAuxOn with
 | zero => rcases andO_inv h with ⟨d, q, _⟩ | ⟨c, q, q1, _⟩ <;> first | exact absurd q run_zero | exact absurd q1 run_zero
 | succ n =>
  obtain ⟨o1, ho1⟩ : ∃ o1, runT t (n + 1) (.ex a) ρ = some o1 := by rcases andO_inv h with ⟨d, q, _⟩ | ⟨c, q, q1, _⟩ <;> exact ⟨_, by assumption⟩
  refine o_xxxxxx (comp_parts (S := S) (A := A) (I n (by (simp_all +arith))) G e1 e2 hm ho1 hok) fun elt iter ifs y py Rest W => ?_
  have C' := T.cond.less (show n ≤ n + 1 + 1 by (simp_all +arith))
  rw [W.shape] at sw ⊢
  rw [exec_Assign_Name_used _ _ _ _ sw]
  refine wpAny_bind (wpAny_standAt (wpAny_bind ?_))
  show wpAny _ A (do let _ ← comprehension _ (compSc a).1 env _ (newList []) false (eval iter env) (some (assign (.Name x xp) env))) _ _ s
  refine wpAny_bind (wpAny_mono (comp_run (Q := fun _ s' => Q .next s') hLam C' W.ok W.set (W.src s C') W.loops (use := some (assign (.Name x xp) env)) (fun c q ho => ?_) fun base D Cc s' m' vs acc K0 ho hL hD hnl K1 hN hC hDn hDC => ?_) (fun _ s' hq => wpAny_pure (wpAny_pure hq)) fun _ _ e => e)
  ·subst ho
   have : out = .err c q := by
    rcases andO_inv h with ⟨d, q2, _⟩ | ⟨c2, q2, q3, e⟩
    ·rw [ho1] at q2; cases q2
    ·rw [ho1] at q3; cases q3; exact e
   exact PostF.perr T P c q this
  ·subst ho
   have hout : out = .flow (putN (.list acc) i ρ) .next := by
    rcases andO_inv h with ⟨d, q2, _, q3⟩ | ⟨c2, q2, q3, e⟩
    ·rw [ho1] at q2; cases q2
     have q4 : (forceL (putN (.list acc) i ρ) fun ρ' => some (Out.flow ρ' .next)) = some out := q3
     rw [forceL_eq] at q4
     exact (Option.some.inj q4).symm
    ·rw [ho1] at q3; cases q3
   subst hout
   have T1 := (T.keep K0).keep K1
   have hneC : env.locals ≠ Cc := by
    intro q
    refine via fun Gv kv => ?_
    obtain ⟨⟨m0, ⟨o, _, _, ho, _⟩, _⟩, _⟩ := (T.keep K0).cond.frm
    refine kv ?_
    clear kv Gv
    rw [q, hC] at ho
    exact nn ho
   show wpAny _ A (assign (.Name x xp) env (.ref D)) _ _ _
   refine wpAny_assign_Name (wp_store T1.cond.frm T.nd (at?_eq hx) T.cond.kind (.inl hl) (.list hL hD) fun h₂ t₂ F O => ?_)
   have T2 : At S (n + 1 + 1) A env xs (putN (.list acc) i ρ) h0 outer h₂ (og s') := T1.next F (own_up T.ent T1.up O) (own_stays T.ent T1.cond.frm T1.cond.stays O)
   have hN2 : h₂.Ns Cc m' := by
    refine o_xxxa hN fun o es ep ho r => ?_
    clear hN
    refine ⟨o, es, ep, O _ _ ho (Ne.symm hneC) fun z _ hz => ?_, r⟩
    refine o_xxa (T1.cond.frm.cells z _ hz) fun v3 o3 ho3 hd3 => ?_
    rw [ho] at ho3
    obtain rfl := si ho3
    rw [r.1] at hd3
    injection hd3
   refine ⟨m', hN2, fun h' hs' => ?_⟩
   have k2 : ∀ b o, b ≠ Cc → h₂.get? b = some o → h'.get? b = some o := fun b o hb e => (hs'.2 b hb).trans e
   exact P .next { s' with heap := h', toks := t₂ } .next (F.but k2 hN2 hneC) (up_but2 T2.up (T.keep K0).up hC k2) (stays_but T2.cond.stays k2 (b0_none K0.stays hC) (ns_lam hN2))
end
end
section
open PySem PySem.W PySem.SeqAt
variable {κ κ' : OG}
theorem scEq_iff : ∀ {a b : Sc}, scEq a b = true ↔ a = b
 | [], [] => ⟨fun _ => rfl, fun _ => rfl⟩
 | [], _ :: _ => ⟨(fun h => nomatch h), (fun h => nomatch h)⟩
 | _ :: _, [] => ⟨(fun h => nomatch h), (fun h => nomatch h)⟩
 | (x, k) :: r, (y, l) :: t => by
  have ih := @scEq_iff r t
  show ((Fast.sEq x y && (k == l) && scEq r t) = true) ↔ _
  simp only [Bool.and_eq_true, Fast.sEq_iff, beq_iff_eq, ih]
  constructor
  ·rintro ⟨⟨rfl, rfl⟩, rfl⟩; rfl
  ·intro h; cases h; exact ⟨⟨rfl, rfl⟩, rfl⟩
structure LamFacts (S : Fixed) (mg : Str → Option Value) : Prop where
 g : S.B0.Ns mainGlobals mg
 lim : S.B0.NoLimit
 list : ∀ l ∈ S.lams, ∃ q ∈ lamList, q.1 = l.sc
 has : ∀ q ∈ lamList, ∃ l ∈ S.lams, l.sc = q.1 ∧ l.pos = q.2
 one : ∀ l ∈ S.lams, ∀ l' ∈ S.lams, l.P = l'.P → l = l'
 fresh : ∀ l ∈ S.lams, S.B0.get? l.P = none
 neG : ∀ l ∈ S.lams, mainGlobals ≠ l.P
 blt : ∀ l ∈ S.lams, S.B0.BuiltinsAt mg l.P
structure LamOk2 (sc : Sc) (g : Arguments) (sc' : Scope) (lp : Pos) : Prop where
 at_ : ∃ q ∈ lamList, q.1 = sc ∧ q.2.line = lp.line ∧ q.2.col = lp.col
 kind : sc'.kind = .function
 co : sc'.isCoroutine = false
 gen : sc'.isGenerator = false
 args : g = ⟨[], [], none, [], [], none, []⟩
 names : ∀ p ∈ sc'.names, p.2 ≠ .cell ∧ p.2 ≠ .local ∧ (p.2 = .free → sc.lookup p.1 = some .cell)
 not : ∀ q ∈ lamList, q.1 ≠ sc'.names
theorem lamOk2_of {sc : Sc} {g : Arguments} {sc' : Scope} {lp : Pos} (h : okLam sc g sc' lp = true) : LamOk2 sc g sc' lp := by
 unfold okLam at h
 simp only [Bool.and_eq_true, List.any_eq_true, List.all_eq_true, beq_iff_eq, Bool.not_eq_true', Bool.or_eq_true, beq_eq_false_iff_ne, List.isEmpty_iff, Option.isNone_iff_eq_none] at h
 refine via fun Gv kv => ?_
 obtain ⟨⟨⟨⟨⟨⟨⟨⟨⟨⟨⟨⟨⟨⟨q, hq, h1, h2⟩, h3⟩, h4⟩, h5⟩, g1⟩, g2⟩, g3⟩, g4⟩, g5⟩, g6⟩, g7⟩, h6⟩, _⟩, h8⟩ := h
 refine kv ?_
 clear kv Gv
 refine ⟨⟨q, hq, scEq_iff.mp h1, ?_, ?_⟩, h3, h4, h5, ?_, fun p hp => ?_, fun q hq e => ?_⟩
 ·unfold posEq at h2
  exact Nat.eq_of_beq_eq_true (ba h2).1
 ·unfold posEq at h2
  exact Nat.eq_of_beq_eq_true (ba h2).2
 ·obtain ⟨a, b, c, d, e, f, k⟩ := g
  simp only at g1 g2 g3 g4 g5 g6 g7
  subst g1 g2 g3 g4 g5 g6 g7
  rfl
 ·refine ⟨(h6 p hp).1.1, (h6 p hp).1.2, fun hf => ?_⟩
  rcases (h6 p hp).2 with e | e
  ·exact absurd hf e
  ·exact e
 ·have := List.any_eq_false.mp h8 q hq
  exact this (scEq_iff.mpr e)
section
variable {S : Fixed} {n : Nat} {env : Env} {xs : List Str} {ρ : List Dat} {A : Around} {mg : Str → Option Value}
structure LamMade (S : Fixed) (env : Env) (g : Arguments) (body : Expr) (sc : Scope) (h : Heap) (f : Addr) : Prop where
 ex : ∃ (clos : List (Str × Addr)) (pm : Value) (c' : Addr) (ctv : Value), h.get? f = some (kla_obj "<lambda>" (env.qual ++ "<lambda>") g body sc clos pm c' ctv) ∧ h.CodeRec (.ref c') (env.qual ++ "<lambda>") ∧
  (∀ y c, clos.lookup y = some c → env.cells.lookup y = some c) ∧ (∀ y, (y, NameKind.free) ∈ sc.names → ∃ c, clos.lookup y = some c)
theorem lam_at (L : LamFacts S mg) {s : Shared} (C : Cond S n A env xs ρ s.heap (og s)) {g : Arguments} {body : Expr} {sc : Scope} {lp : Pos} (ok : okLam env.scope.names g sc lp = true) {R E : Value → Shared → Prop}
  (nxt : ∀ f s', Keep S s.heap s'.heap (og s') → LamMade S env g body sc s'.heap f → R (.ref f) s') : wpAny S.M A (eval (.Lambda g body sc lp) env) R E s := by
 have O := lamOk2_of ok
 refine o_xaaa O.at_ fun q hq q1 q2 q3 => ?_
 refine o_xaa (L.has q hq) fun l hl l1 l2 => ?_
 refine o_xaa (C.lamc l hl (l1.trans q1)) fun c hcode hd hqual => ?_
 refine o_xaa (closure_of (env := env) (sc := sc) fun p hp hf => C.frm.has p.1 ((O.names p hp).2.2 hf)) fun clos e1 c1 c2 => ?_
 have hg := L.g.keeps C.stays.base
 have hB : s.heap.BuiltinsAt mg l.P := by
  refine o_xxaaaaa (L.blt l hl) fun bm o b1 b2 b3 b4 b5 b6 => ?_
  exact ⟨bm, o, b1, b2, b3, b4, C.stays.base _ _ b5, b6⟩
 have hdef : defaultsOf g env = ([], []) := by rw [O.args]; rfl
 have hd' : CodeHd s.heap c l.P := hd.keeps C.stays.base
 have grown : ∀ (h' : Heap) (c' : Addr) (fo : Obj), (∀ b o, b ≠ l.P → s.heap.get? b = some o → h'.get? b = some o) → h'.CodeRec (.ref c') (env.qual ++ "<lambda>") → h'.get? l.P = some (tabObj #[rawInt lp.line, rawInt lp.col, .ref c']) →
   (∃ ps, s.heap.get? l.P = some (tabObj ps) ∧ ∀ q t, ps[1]? ≠ some (.str q t)) → Keep S s.heap (h'.push fo) (og s) := by
  intro h' c' fo k1 hrec hP' ⟨ps, hP, hps⟩
  have k2 : ∀ b o, b ≠ l.P → s.heap.get? b = some o → (h'.push fo).get? b = some o := fun b o hb e => Heap.get?_push_of_some _ (k1 b o hb e)
  refine ⟨⟨fun b o e hn => ⟨o.slots, k2 b o (fun q => by rw [q, hP] at e; obtain rfl := si e; exact hn ps rfl) e⟩, fun b o e hi => k2 b o (fun q => by rw [q, hP] at e; obtain rfl := si e; cases hi.1) e⟩, fun b o e => k2 b o (fun q => by rw [q, L.fresh l hl] at e; injection e) (C.stays.base b o e), fun l' hl' => ?_, C.stays.og⟩
  by_cases hll : l'.P = l.P
  ·have e : l' = l := L.one l' hl' l hl hll
   subst e
   refine ⟨_, Heap.get?_push_of_some _ hP', .inr ⟨c', ?_, ?_⟩⟩
   ·rw [l2, q2, q3]
   ·rw [hqual]; exact hrec.keeps fun b o e => Heap.get?_push_of_some _ e
  ·refine o_xa (C.stays.lam l' hl') fun ps' a1 a2 => ?_
   refine ⟨ps', k2 _ _ hll a1, ?_⟩
   rcases a2 with a2 | ⟨c2, a3, c3, o, vs, tt, a4, a5, a6, a7⟩
   ·exact .inl a2
   ·exact .inr ⟨c2, a3, c3, o, vs, tt, a4, k2 _ _ (fun q => by rw [q, hP] at a5; cases a5; cases a6; exact hps _ _ a7) a5, a6, a7⟩
 refine o_xa (C.stays.lam l hl) fun ps hP hps => ?_
 refine kla_eval hdef ?_
 rcases hps with rfl | ⟨c0, rfl, hrec0⟩
 ·refine kla_makeFunction (mg := mg) (P := l.P) (ps := #[]) e1 C.glob hg hcode hd' hP trivial rfl (L.neG l hl) hB fun c' ctv h' tk hx hge hlt hrec hP' => ?_
  have hK := grown h' c' (kla_obj "<lambda>" (env.qual ++ "<lambda>") g body sc clos ((mg "__name__").getD .none) c' ctv) (fun b o hb e => hx b o hb e) hrec hP' ⟨_, hP, fun q t e => by simp at e⟩
  exact nxt h'.objs.size { s with heap := h'.push (kla_obj "<lambda>" (env.qual ++ "<lambda>") g body sc clos ((mg "__name__").getD .none) c' ctv), toks := tk } hK
   ⟨clos, _, c', ctv, Heap.get?_push_size _ rfl, hrec.keeps fun b o e => Heap.get?_push_of_some _ e, c1, c2⟩
 ·have hf : codeAmong lp (#[rawInt l.pos.line, rawInt l.pos.col, .ref c0] : Array Value).toList = some (.ref c0) := by
   rw [l2, q2, q3]
   simp [codeAmong, rawInt]
  refine kla_makeFunctionHit (mg := mg) (P := l.P) (ps := #[rawInt l.pos.line, rawInt l.pos.col, .ref c0]) e1 C.glob hg hcode hd' hP trivial hf hB fun ctv h' tk hk hsz => ?_
  have k2 : All s.heap (h'.push { cls := .type "function", data := .func (kla_fn "<lambda>" (env.qual ++ "<lambda>") g body sc clos ((mg "__name__").getD .none) (.ref c0) ctv) }) := fun b o e => Heap.get?_push_of_some _ (hk b o e)
  exact nxt h'.objs.size { s with heap := h'.push (kla_obj "<lambda>" (env.qual ++ "<lambda>") g body sc clos ((mg "__name__").getD .none) c0 ctv), toks := tk } (C.all k2)
   ⟨clos, _, c0, ctv, Heap.get?_push_size _ rfl, by rw [hqual] at hrec0; exact hrec0.keeps k2, c1, c2⟩
end
end
section
open PySem PySem.W PySem.SeqAt
variable {κ κ' : OG}
section
variable {S : Fixed} {n : Nat} {env : Env} {xs : List Str} {ρ : List Dat} {A : Around} {mg : Str → Option Value}
theorem frm_lam {h : Heap} (F : Frm S.Ω env xs ρ h) {g : Arguments} {sc : Scope} {lp : Pos} (O : LamOk2 env.scope.names g sc lp) {env' : Env} (hsc : env'.scope = sc) {clos : List (Str × Addr)} (hcl : env'.cells = clos) {m : Str → Option Value} (hn : h.Ns env'.locals m)
  (c1 : ∀ y c, clos.lookup y = some c → env.cells.lookup y = some c) (c2 : ∀ y, (y, NameKind.free) ∈ sc.names → ∃ c, clos.lookup y = some c) : Frm S.Ω env' xs ρ h := by
 have kind : ∀ y, env'.kindOf y = sc.names.lookup y := fun y => by show env'.scope.names.lookup y = _; rw [hsc]
 refine via fun Gv kv => ?_
 obtain ⟨⟨m0, hn0, hv⟩, hc, hh, h1, hln⟩ := F
 refine kv ?_
 clear kv Gv
 refine ⟨⟨m, hn, fun i y d hy hd => ?_⟩, fun y c e => hc y c (c1 y c (hcl ▸ e)), fun y e => ?_, fun y z c e1 e2 => h1 y z c (c1 y c (hcl ▸ e1)) (c1 z c (hcl ▸ e2)), hln⟩
 ·rcases hv i y d hy hd with e | ⟨_, b⟩
  ·exact .inl e
  ·refine .inr ⟨fun e => ?_, fun e => ?_⟩
   ·rw [kind] at e
    exact absurd rfl (O.names _ (lookup_mem e)).2.1
   ·rcases e with e | e
    ·rw [kind] at e
     exact absurd rfl (O.names _ (lookup_mem e)).1
    ·rw [kind] at e
     have hm := lookup_mem e
     have hcell := (O.names _ hm).2.2 rfl
     refine o_xxaa (b (.inl hcell)) fun c u b1 b2 b3 => ?_
     obtain ⟨c', e3⟩ := c2 y hm
     have e4 := c1 y c' e3
     rw [b1] at e4
     obtain rfl := si e4
     exact ⟨c, u, by rw [hcl]; exact e3, b2, b3⟩
 ·rw [kind] at e
  exact absurd rfl (O.names _ (lookup_mem e)).1
theorem lam_call (L : LamFacts S mg) (LV : Leaves S) {s : Shared} {f : Addr} {g : Arguments} {sc : Scope} {lp : Pos} {m : M} (O : LamOk2 env.scope.names g sc lp) (W : LamMade S env g (toE m) sc s.heap f) (F : Frm S.Ω env xs ρ s.heap)
  (C : CondC S n A s.heap (og s)) (room : A.depth + 1 + 3 * n + 10 < recursionLimit) (units : A.units + 3 + 24 * n + 100 < cLine) {out : Out} (I : ExOk S n m ρ out) (hok : okM sc.names xs m = true) {Q E : Value → Shared → Prop} (P : PostE S out s.heap Q E) :
  codeAny S.M A (.call (.ref f) ⟨[], []⟩) (fun r s' => match r with | .ok (.ret v) => Q v s' | .ok _ => False | .error e => E e s') s := by
 refine o_xxxxaaa W.ex fun clos pm c' ctv ho hrec c1 c2 => ?_
 refine o_xa C.frames fun l hfr hff => ?_
 refine kla_callFunE (by lia) ho rfl O.co O.gen rfl hrec ?_
 have hb : bindArgs (kla_fn "<lambda>" (env.qual ++ "<lambda>") g (toE m) sc clos pm (.ref c') ctv) ⟨[], []⟩ = pure [] := by
  refine via fun Gv kv => ?_
  obtain ⟨a, b, c, d, e, f, k⟩ := g
  refine kv ?_
  clear kv Gv
  have e := O.args
  cases e
  rfl
 rw [hb]
 refine wpAny_pure (wpAny_newFunctionEnv (fun p hp => (O.names p hp).1) (by intro y hy; simp at hy) (fun h₁ hns hsb => ?_) O.kind)
 have hall : All s.heap h₁ := fun b o e => hsb.extBut b o (Nat.ne_of_lt (Heap.lt_size e)) (Heap.get?_push_of_some _ e)
 have up0 : Up s.heap h₁ := Up.of_all hall
 have st0 : Stays S h₁ (og s) := C.stays.all hall
 refine ⟨L.lim.keeps st0.base, ?_⟩
 generalize henv : newEnv sc s.heap.objs.size mainGlobals clos (env.qual ++ "<lambda>" ++ ".<locals>.") (some f) (.ref c') none builtinsNs = env'
 have e1 : env'.scope = sc := by rw [← henv]; rfl
 have e2 : env'.cells = clos := by rw [← henv]; rfl
 have e3 : env'.locals = s.heap.objs.size := by rw [← henv]; rfl
 have e4 : env'.frame = some env'.locals := by rw [← henv]; rfl
 have e5 : env'.globals = mainGlobals := by rw [← henv]; rfl
 have e6 : env'.builtins = builtinsNs := by rw [← henv]; rfl
 have hfresh : s.heap.get? env'.locals = none := by rw [e3]; exact Heap.get?_none_of_le (Nat.le_refl _)
 have hns' : h₁.Ns env'.locals (fun x => List.lookup x ([] : List (Str × Value)).reverse) := by rw [e3]; exact hns
 have hkk : env'.scope.kind = .function := by rw [e1]; exact O.kind
 have ff : h₁.FunFrames S.B0 (env' :: l) := Heap.FunFrames.cons (by rw [hkk]; intro q; injection q) e4 hns' (b0_none C.stays hfresh) (frames_up up0 hff)
 have frm : Frm S.Ω env' xs ρ h₁ := frm_lam (F.up up0) O e1 e2 hns' c1 c2
 have hfrA : (A.deeper env').frames = some (env' :: l) := by show A.frames.map _ = _; rw [hfr]; rfl
 have CC : Cond S n (A.deeper env') env' xs ρ h₁ (og s) := ⟨by show A.depth + 1 + 3 * n + 10 < recursionLimit; omega, by show A.units + 3 + 24 * n + 100 < cLine; omega, C.handled, ⟨_, hfrA, ff⟩, st0, frm, hkk, e5, e6, fun l' hl' e => by
  exfalso
  refine o_xa (L.list l' hl') fun q hq hq2 => ?_
  exact O.not q hq (by rw [hq2, e, e1])⟩
 refine kla_codeExpr ?_
 have K0 : Keep S s.heap h₁ (og s) := ⟨up0, st0⟩
 refine I (A.deeper env') env' xs _ _ _ (by rw [e1]; exact hok) CC ?_
 induction out with
 | val d => exact fun v s' D K => P v s' D (K0.trans K)
 | err c p =>
  intro e s' x K
  have ff2 : s'.heap.FunFrames S.B0 (env' :: l) := frames_up K.up ff
  exact LV _ _ l e c p s' _ _ hfrA ff2 e4 x K.stays fun h' x' u' st' => P e _ x' ⟨(K0.trans K).up.trans u', st'⟩
 | _ => exact P
end
end
section
open PySem PySem.W PySem.SeqAt
open PyProof.Rows (List_)
variable {κ κ' : OG}
theorem soft_new {b h h' : Heap} {y : Addr} (u : Soft b h) (k : ∀ x o, x ≠ y → h.get? x = some o → h'.get? x = some o) (hy : ∀ o, b.get? y = some o → ∀ items n, o.data ≠ .seq items n) : Soft b h' := fun x o items n e hd => by
 obtain ⟨sl, hs⟩ := u x o items n e hd
 exact ⟨sl, k x _ (fun q => hy o (q ▸ e) items n hd) hs⟩
theorem Soft.trans {a b c : Heap} (x : Soft a b) (y : Soft b c) : Soft a c := fun p o items n e hd => by
 obtain ⟨sl, hs⟩ := x p o items n e hd
 obtain ⟨sl', hs'⟩ := y p _ items n hs hd
 exact ⟨sl', hs'⟩
theorem put_get {xs : List Str} {ρ : List Dat} {i : Nat} {x : Str} {d : Dat} (hnd : xs.Nodup) (hx : xs[i]? = some x) {j : Nat} {y : Str} {d' : Dat} (hj : xs[j]? = some y) (hd' : (putN d i ρ)[j]? = some d') : (y = x ∧ d' = d) ∨ (y ≠ x ∧ ρ[j]? = some d') := by
 rw [putN_get] at hd'
 by_cases hji : j = i
 ·subst hji
  rw [hx] at hj
  cases hj
  by_cases hlen : j < ρ.length
  ·rw [if_pos ⟨rfl, hlen⟩] at hd'
   cases hd'
   exact .inl ⟨rfl, rfl⟩
  ·rw [if_neg (fun q => hlen q.2)] at hd'
   exact absurd (List.getElem?_eq_some_iff.mp hd').1 hlen
 ·rw [if_neg (fun q => hji q.1)] at hd'
  refine .inr ⟨fun e => ?_, hd'⟩
  subst e
  obtain ⟨a1, a2⟩ := List.getElem?_eq_some_iff.mp hx
  obtain ⟨b1, b2⟩ := List.getElem?_eq_some_iff.mp hj
  exact hji ((List.getElem_inj hnd).mp (b2.trans a2.symm))
section
variable {S : Fixed} {t : Tabs} {n : Nat} {ρ : List Dat} {out : Out}
theorem st_lapp (I : SoundE S t n) {i : Nat} {x : Str} {xp lp ap np tp cp ep : Pos} {a b : M}
  (h : sLapp i (runT t n) ρ a b = some out) {A : Around} {env : Env} {xs : List Str} {s : Shared} {h0 : Heap} {outer : List Env} {Q : Flow → Shared → Prop} {E : Value → Shared → Prop}
  (hok : okSt env.scope.names xs (.b (.lapp i x xp lp ap np tp cp ep) a b) = true)
  (T : At S (n + 1) A env xs ρ h0 outer s.heap (og s)) (P : PostF S env xs h0 outer out Q E) : wpAny S.M A (execs (toS (.b (.lapp i x xp lp ap np tp cp ep) a b)) env) Q E s := by
 have hok' : (at? xs i x && (env.scope.names.lookup x == some .local) && plainName x && okM env.scope.names xs a && Nat.ble (lenM a) 64 && okM env.scope.names xs b && notRaw b && Nat.beq tp.endLine cp.line) = true := hok
 simp only [Bool.and_eq_true, beq_iff_eq] at hok'
 refine via fun Gv kv => ?_
 obtain ⟨⟨⟨⟨⟨⟨⟨k1, k2⟩, k3⟩, k4⟩, k5⟩, k6⟩, k7⟩, k8⟩ := hok'
 refine kv ?_
 clear kv Gv
 have hxi := at?_eq k1
 have hl : env.kindOf x = some .local := k2
 have T' := T.less (Nat.le_succ n)
 unfold sLapp at h
 rcases iteO_inv h with ⟨hh, h⟩ | ⟨_, h⟩
 case inr => cases h
 have hole : ∀ (j : Nat) (d : Dat), xs[j]? = some x → ρ[j]? = some d → d = .hole := fun j d hj hd => by
  obtain ⟨a1, a2⟩ := List.getElem?_eq_some_iff.mp hxi
  obtain ⟨b1, b2⟩ := List.getElem?_eq_some_iff.mp hj
  have : j = i := (List.getElem_inj T.nd).mp (b2.trans a2.symm)
  subst this
  rw [nth_of_get hd] at hh
  induction d using Dat.casesOn <;> first | rfl | cases hh
 refine o_xa (pureS_inv h) fun ds ha h => ?_
 refine o_xa (pureO_inv h) fun d hb h => ?_
 rcases iteO_inv h with ⟨hnl, h⟩ | ⟨_, h⟩
 case inr => cases h
 rw [forceL_eq, forceL_eq, appD_eq] at h
 cases h
 show wpAny S.M A (execs [.Assign [.Name x xp] (.List (toEs a) lp) ap, .Expr (.Call (.Attribute (.Name x np) (Str.ofString "append") tp) [toE b] [] cp) ep] env) Q E s
 refine wpAny_execs_cons (wpAny_Assign_Name (hs := rfl) (List_ (I.exs a ρ _ ha A env xs s _ E lp k4 T'.cond fun vs s₁ D K => ?_)))
 have hlen : vs.length ≤ 64 := by rw [D.length, exs_len n a ρ ds ha]; exact Nat.le_of_ble_eq_true k5
 refine wpAny_newList ?_ (hsz := by show vs.length ≤ 2 ^ 24; (exact Nat.le_trans ‹_› (by decide)))
 obtain ⟨L, hLs⟩ : ∃ L : Nat, s₁.heap.objs.size = L := ⟨_, rfl⟩
 obtain ⟨h2, hh2⟩ : ∃ h2, s₁.heap.push { cls := .type "list", data := .seq vs.toArray } = h2 := ⟨_, rfl⟩
 have hLn : s₁.heap.get? L = none := Heap.get?_none_of_le (Nat.le_of_eq hLs)
 have p2 : All s₁.heap h2 := hh2 ▸ All.push _ _
 have hL2 : h2.get? L = some { cls := .type "list", data := .seq vs.toArray } := by rw [← hh2, ← hLs]; exact Heap.get?_push_size _ rfl
 have T1 := T.keep K
 have K2 : Keep S s₁.heap h2 (og s₁) := T1.cond.all p2
 have T2 := T1.keep K2
 show wpAny _ A (storeName env x (.ref s₁.heap.objs.size)) _ _ { s₁ with heap := s₁.heap.push { cls := .type "list", data := .seq vs.toArray } }
 rw [hLs, hh2]
 have hne : env.locals ≠ L := by
  intro q
  refine via fun Gv kv => ?_
  obtain ⟨⟨m, ⟨o, _, _, ho, _⟩, _⟩, _⟩ := T1.cond.frm
  refine kv ?_
  clear kv Gv
  rw [q, hLn] at ho
  cases ho
 have hcne : ∀ y c, env.cells.lookup y = some c → c ≠ L := fun y c hy q => by
  refine o_xxa (T1.cond.frm.cells y c hy) fun o ob ho _ => ?_
  rw [q, hLn] at ho
  cases ho
 have F0 := T.cond.frm
 refine via fun Gv kv => ?_
 obtain ⟨⟨m, hn, hv⟩, hc, hhs, h1, hln⟩ := F0
 refine kv ?_
 clear kv Gv
 have U2 : Up s.heap h2 := K.up.trans K2.up
 have hn2 : h2.Ns env.locals m := U2.slots.ns hn
 refine wpAny_storeName_local hl (s := { s₁ with heap := h2 }) hn2 (fun h3 hn3 hs3 => ?_) (by rw [T.cond.kind]; rfl)
 have own : Own env h2 h3 := fun b o hb hne _ => (hs3.2 b hne).trans hb
 have F2 : Frm S.Ω env xs ρ h2 := T2.cond.frm
 have hc2 : ∀ y c, env.cells.lookup y = some c → ∃ o, h2.IsCell c o := F2.cells
 have soft23 : Soft h2 h3 := soft_of_own hn2 hc2 own
 have cellk : ∀ c o, h2.IsCell c o → h3.IsCell c o := fun c o q => q.sameBut hs3 fun e => ns_cell hn2 (e ▸ q)
 have F3 : Frm S.Ω env xs ρ h3 := by
  refine ⟨⟨_, hn3, fun j y d' hj hd' => ?_⟩, fun y c e => let ⟨o, q⟩ := hc2 y c e; ⟨o, cellk c o q⟩, hhs, h1, hln⟩
  by_cases hy : y = x
  ·subst hy
   exact .inl (hole j d' hj hd')
  ·rcases hv j y d' hj hd' with e | ⟨a, b⟩
   ·exact .inl e
   ·exact .inr ⟨fun e => let ⟨u, e1, e2⟩ := a e; ⟨u, by show (if y = x then some _ else m y) = some u; rw [if_neg hy]; exact e1, (e2.up U2).soft soft23⟩, fun e => let ⟨c, u, e1, e2, e3⟩ := b e; ⟨c, u, e1, cellk c _ (up_cell U2 e2), (e3.up U2).soft soft23⟩⟩
 have T3 : At S (n + 1) A env xs ρ h0 outer h3 (og s₁) := T2.next F3 (own_up T.ent T2.up own) (own_stays T.ent F2 T2.cond.stays own)
 have hL3 : h3.IsList L vs.toArray := soft23.lst ⟨_, hL2, rfl, 0, rfl⟩
 have hL3d : h3.NoDictAt (.ref L) := ⟨_, own L _ hL2 (Ne.symm hne) (fun y _ q => hcne y L q rfl), rfl⟩
 have hs : starEach [toE b] env = [(false, eval (toE b) env)] := by rw [star_plain k7]; rfl
 refine one_stmt (wpAny_Expr (hi := by unfold interactive; rw [T.cond.kind]; rfl) (hs := rfl) ?_)
 refine method_at rfl (by rw [beq_iff_eq]; exact Nat.eq_of_beq_eq_true k8) (by rw [hs]; rfl) (by simp) ?_
 refine wpAny_Name (wpAny_loadName_local T.cond.kind hl hn3 (if_pos rfl) fun pl => ?_) (by have := k3; simp only [plainName, Bool.and_eq_true, Bool.not_eq_true'] at this; exact this.1)
 refine PyProof.Rows.getMethod_list_of PySem.F.slot_list_append PySem.F.type_list_append (items := vs.toArray) (by exact hL3) (by exact hL3d) ?_
 rw [hs]
 refine Calls.callWith_builtin rfl (Calls.evalArgs_plain (Calls.spliced_cons ?_))
 refine I.ex b ρ _ hb A env xs _ _ E k6 (T3.less (Nat.le_succ n)).cond fun v s₄ Dv K4 => Calls.spliced_nil ?_
 have T4 := T3.keep K4
 have hL4 := up_isList K4.up hL3
 refine wpAny_list_append hL4 (fun h5 hL5 hs5 => ?_) (by rw [sizeLine_eq]; simp; (exact Nat.le_trans ‹_› (by decide)))
 have k5 : ∀ b o, b ≠ L → s₄.heap.get? b = some o → h5.get? b = some o := fun b o hb e => (hs5.2 b hb).trans e
 have soft4 : Soft s.heap s₄.heap := ((Soft.of_up U2).trans soft23).trans (Soft.of_up K4.up)
 have hLs0 : ∀ o, s.heap.get? L = some o → ∀ items n, o.data ≠ .seq items n := fun o q items n hd => by
  obtain ⟨sl, hs⟩ := Soft.of_up K.up L o items n q hd
  rw [hLn] at hs
  cases hs
 have soft5 : Soft s.heap h5 := soft_new soft4 k5 hLs0
 have soft15 : Soft s₁.heap h5 := soft_new (((Soft.of_up (Up.of_all p2)).trans soft23).trans (Soft.of_up K4.up)) k5 fun o e => by rw [hLn] at e; cases e
 have ts5 : TSoft s₄.heap h5 := fun b o items n e hc hd => ⟨o.slots, k5 b o (fun q => by
  refine o_xaa hL4 fun o' ho' hc' _ => ?_
  clear hL4
  rw [q, ho'] at e
  cases e
  rw [hc'] at hc
  exact absurd hc (by decide)) e⟩
 have ck : ∀ c v, s₄.heap.IsCell c v → c ≠ L → h5.IsCell c v := fun c v ⟨o, ho, hd⟩ hne => ⟨o, k5 c o hne ho, hd⟩
 have U14 : Up h3 s₄.heap := K4.up
 have hn5 : h5.Ns env.locals (fun y => if y = x then some (.ref L) else m y) := by
  refine o_xxxa (U14.slots.ns hn3) fun o es ep ho r => ?_
  exact ⟨o, es, ep, k5 _ _ hne ho, r⟩
 refine P .next _ .next ⟨⟨_, hn5, fun j y d' hj hd' => ?_⟩, fun y c e => ?_, hhs, h1, (putN_length _ _ _).trans hln⟩ ?_ ?_
 ·rcases put_get T.nd hxi hj hd' with ⟨rfl, rfl⟩ | ⟨hy, hd''⟩
  ·refine .inr ⟨fun _ => ⟨.ref L, if_pos rfl, .list (by simpa using hL5) ((D.soft soft15).append (.cons (Dv.tsoft ts5 hnl) .nil))⟩, fun q => ?_⟩
   rw [hl] at q
   rcases q with q | q <;> cases q
  ·rcases hv j y d' hj hd'' with e | ⟨a, b⟩
   ·exact .inl e
   ·exact .inr ⟨fun e => let ⟨u, e1, e2⟩ := a e; ⟨u, by show (if y = x then some _ else m y) = some u; rw [if_neg hy]; exact e1, e2.soft soft5⟩, fun e => let ⟨c, u, e1, e2, e3⟩ := b e; ⟨c, u, e1, ck c _ (up_cell U14 (cellk c _ (up_cell U2 e2))) (hcne y c e1), e3.soft soft5⟩⟩
 ·obtain ⟨o, q⟩ := F3.cells y c e
  exact ⟨o, ck c o (up_cell U14 q) (hcne y c e)⟩
 ·exact up_but2 T4.up T1.up hLn k5
 ·exact stays_but T4.cond.stays k5 (b0_none T1.cond.stays hLn) (list_lam hL4)
end
end
section
open PySem PySem.W PySem.SeqAt
variable {κ κ' : OG}
noncomputable def posAt (l : List Nat) (i : Nat) : Pos := match (l.drop (4 * i)) with
 | a :: b :: c :: d :: _ => ⟨a, b, c, d⟩
 | _ => ⟨0, 0, 0, 0⟩
structure HandFn (S : Fixed) (ps : List Str) (body : List Stmt) (fd : FuncData) : Prop where
 body : fd.body = .stmts body
 kind : fd.scope.kind = .function
 co : fd.scope.isCoroutine = false
 gen : fd.scope.isGenerator = false
 no : ∀ x ∈ fd.scope.names, x.2 ≠ .cell ∧ x.2 ≠ .free
 code : S.B0.CodeRec fd.code fd.qualname
 glob : fd.globals = mainGlobals
 blt : fd.builtins = builtinsNs
 loc : ∀ x ∈ ps, fd.scope.names.lookup x = some .local
 nd : ps.Nodup
 bind : ∀ (s : Shared) (vs : List Value), S.B0.StaysIn s.heap → vs.length = ps.length → BindsTo s fd ⟨vs, []⟩ (ps.zip vs)
structure HF (S : Fixed) (A : Around) (env : Env) (h0 : Heap) (outer : List Env) (m : Str → Option Value) (h : Heap) (κ : OG) : Prop where
 ns : h.Ns env.locals m
 ent : Ent S env h0 outer
 fr : A.frames = some (env :: outer)
 up : Up h0 h
 stays : Stays S h κ
 noC : ∀ x, env.kindOf x ≠ some .cell
 glob : env.globals = mainGlobals
 blt : env.builtins = builtinsNs
section
variable {S : Fixed} {A : Around} {env : Env} {h0 h h' : Heap} {outer : List Env} {m : Str → Option Value}
theorem HF.frames (F : HF S A env h0 outer m h κ) : h.FunFrames S.B0 (env :: outer) :=
 Heap.FunFrames.cons (by rw [F.ent.kind]; intro q; injection q) F.ent.hf F.ns (base_fresh F.ent) (frames_up F.up F.ent.fr0)
theorem HF.next (F : HF S A env h0 outer m h κ) (u : Up h h') (st : Stays S h' κ') : HF S A env h0 outer m h' κ' := ⟨u.slots.ns F.ns, F.ent, F.fr, F.up.trans u, st, F.noC, F.glob, F.blt⟩
theorem HF.keep (F : HF S A env h0 outer m h κ) (k : Keep S h h' κ') : HF S A env h0 outer m h' κ' := F.next k.up k.stays
theorem HF.left {e : Addr} {c : Nat} {p : Dat} {fl : Value} (F : HF S A env h0 outer m h κ) (k : XLeft S h h' κ' e c p fl) : HF S A env h0 outer m h' κ' := F.next k.up k.stays
theorem HF.mark (F : HF S A env h0 outer m h κ) (v : Option Value) : HF S (A.mark v) env h0 outer m h κ := ⟨F.ns, F.ent, F.fr, F.up, F.stays, F.noC, F.glob, F.blt⟩
theorem HF.own (F : HF S A env h0 outer m h κ) {m' : Str → Option Value} (hn : h'.Ns env.locals m') (hs : Heap.SameBut env.locals h h') : HF S A env h0 outer m' h' κ := by
 have k : ∀ b o, b ≠ env.locals → h.get? b = some o → h'.get? b = some o := fun b o hb e => (hs.2 b hb).trans e
 exact ⟨hn, F.ent, F.fr, up_but F.up k F.ent.fresh, stays_but F.stays k (base_fresh F.ent) (ns_lam F.ns), F.noC, F.glob, F.blt⟩
theorem HF.soft (F : HF S A env h0 outer m h κ) (hs : Heap.SameBut env.locals h h') : Soft h h' := soft_but (fun b o hb e => (hs.2 b hb).trans e) (ns_seq F.ns)
end
section
variable {S : Fixed} {A : Around} {s : Shared} {env : Env} {h0 : Heap} {outer : List Env} {m : Str → Option Value} {E : Value → Shared → Prop}
theorem HF.load (F : HF S A env h0 outer m s.heap (og s)) {x : Str} {v : Value} {p : Pos} {Q : Value → Shared → Prop} (hl : env.kindOf x = some .local) (hm : m x = some v) (hd : (x == ("__debug__" : Str)) = false) (h : Q v s) :
  wpAny S.M A (eval (.Name x p) env) Q E s := wpAny_Name (wpAny_loadName_local F.ent.kind hl F.ns hm h) hd
theorem HF.top (F : HF S A env h0 outer m s.heap (og s)) {mg : Str → Option Value} (hg : S.B0.Ns mainGlobals mg) {x : Str} {v : Value} {p : Pos} {Q : Value → Shared → Prop} (hl : env.kindOf x = some .globalImplicit) (hm : mg x = some v) (hd : (x == ("__debug__" : Str)) = false) (h : Q v s) :
  wpAny S.M A (eval (.Name x p) env) Q E s := Calls.Name_function_global F.ent.kind hl (Calls.loadGlobal_global (by rw [F.glob]; exact hg.keeps F.stays.base) hm h) hd
theorem HF.store (F : HF S A env h0 outer m s.heap (og s)) {x : Str} {v : Value} {Q : Unit → Shared → Prop} (hl : env.kindOf x = some .local)
  (h : ∀ h', HF S A env h0 outer (fun y => if y = x then some v else m y) h' (og s) → Soft s.heap h' → Heap.SameBut env.locals s.heap h' → Q () { s with heap := h', toks := s.toks + 1 }) : wpAny S.M A (storeName env x v) Q E s :=
 wpAny_storeName_local hl F.ns (fun h' hn hs => h h' (F.own hn hs) (F.soft hs) hs) (by rw [F.ent.kind]; rfl)
theorem HF.goes (F : HF S A env h0 outer m s.heap (og s)) {x : Str} {p : Pos} {Q : Unit → Shared → Prop} (hl : env.kindOf x = some .local)
  (h : ∀ h' m', HF S A env h0 outer m' h' (og s) → Soft s.heap h' → Heap.SameBut env.locals s.heap h' → Q () { s with heap := h', toks := s.toks + 1 }) : wpAny S.M A (do bindName env x .none; unbindBehindTheSuite env x p) Q E s :=
 wpAny_nameGoes hl F.ns (by rw [F.ent.kind]; rfl) fun h' m' hn hs => h h' m' (F.own hn hs) (F.soft hs) hs
end
section
variable {S : Fixed}
theorem call_hand (hlim : S.B0.NoLimit) {ps : List Str} {body : List Stmt} {fa : Addr} {o : Obj} {fd : FuncData} (ho : S.B0.get? fa = some o) (hd : o.data = .func fd) (F : HandFn S ps body fd) {n : Nat} {A : Around} {s : Shared} {vs : List Value} {Q E : Value → Shared → Prop}
  (hlen : vs.length = ps.length) (C : CondC S n A s.heap (og s)) {outer : List Env} (hout : A.frames = some outer)
  (walk : ∀ (env : Env) (s₁ : Shared) (Q' : Flow → Shared → Prop) (E' : Value → Shared → Prop), (∀ fl s', Q (match fl with | .ret v => v | _ => .none) s' → Q' fl s') → (∀ e s', wpAny S.M (A.deeper env) (leaving env e) (fun _ s'' => E e s'') (fun e' s'' => E e' s'') s' → E' e s') → env.scope = fd.scope → env.qual = (callEnv fd s.heap.objs.size fa).qual → HF S (A.deeper env) env s.heap outer (fun x => (ps.zip vs).reverse.lookup x) s₁.heap (og s₁) → All s.heap s₁.heap →
   wpAny S.M (A.deeper env) (execs body env) Q' E' s₁) :
  codeAny S.M A (.call (.ref fa) ⟨vs, []⟩) (fun r s' => match r with | .ok (.ret v) => Q v s' | .ok _ => False | .error e => E e s') s := by
 have hno : ∀ x, (callEnv fd s.heap.objs.size fa).kindOf x ≠ some .cell := fun x e => (F.no _ (lookup_mem e)).1 rfl
 refine o_xa C.frames fun l hfr hff => ?_
 rw [hout] at hfr
 obtain rfl := si hfr
 have room := C.room
 refine codeAny_call_def (by lia) (C.stays.base _ _ ho) hd (hlim.keeps C.stays.base) (F.code.keeps C.stays.base) F.body (F.bind s vs C.stays.base hlen) (fun x hx => (F.no x hx).1) (fun x hx => F.loc x.1 (List.of_mem_zip hx).1)
  (fun h₀ hns hall => ?_) F.co F.gen F.kind
 have st0 : Stays S h₀ (og s) := C.stays.all hall
 have ent : Ent S (callEnv fd s.heap.objs.size fa) s.heap outer := ⟨C.stays.base, Heap.get?_none_of_le (Nat.le_refl _), fun y c e => absurd e (hno y), hff, rfl, F.kind⟩
 refine walk (callEnv fd s.heap.objs.size fa) { s with heap := h₀, toks := s.toks + (ps.zip vs).length } _ _ (fun _ _ h => h) (fun _ _ h => h) rfl rfl ⟨hns, ent, by show A.frames.map _ = _; rw [hout]; rfl, Up.of_all hall, st0, hno, F.glob, F.blt⟩ hall
end
end
section
open PySem PySem.W PySem.SeqAt
open PyProof.Rows (Tuple_)
variable {κ κ' : OG}
structure CatchFacts (S : Fixed) (K : Frag) : Prop where
 hit : ∀ c, c ≤ 2 → exmOne K (.ref (S.exc c)) (.ref (S.exc 0)) = some (c != 1)
 hit1 : exmOne K (.ref (S.exc 1)) (.ref (S.exc 1)) = some true
section
variable {S : Fixed} {K : Frag} {fI : Addr} {mg mb : Str → Option Value} {A : Around} {s : Shared} {env : Env} {h0 : Heap} {outer : List Env} {m : Str → Option Value} {E : Value → Shared → Prop} {e : Addr} {c : Nat} {p : Dat}
theorem xat_type {h : Heap} {oe : Obj} {vs : Array Value} (x : XAt S h e c p oe vs) : Looks S.M h (typeOf (.ref e)) (.ref (S.exc c)) := by
 have hg := x.get
 refine via fun Gv kv => ?_
 obtain ⟨oc, od, oda, osl⟩ := oe
 refine kv ?_
 clear kv Gv
 have hcl : oc = .ref (S.exc c) := x.cls
 have hda : oda = .fields vs := x.data
 subst hcl
 subst hda
 exact (Looks.ld hg).andThen .now
theorem handed_dat (Hr : OmRef S.Ω) {h : Heap} {v : Value} {d : Dat} (D : DatH S.Ω h v d) : handedIn v = true := by
 induction D using DatH.casesOn with
 | obj k e => subst e; exact handed_obj Hr k
 | _ => rfl
theorem xtr_own {h h' : Heap} {fl : Value} (x : XTr S h e c p fl) (hn : h.Ns env.locals m) (hm : m (Str.ofString "message") = none) (sb : Heap.SameBut env.locals h h') : XTr S h' e c p fl := by
 have k3 : ∀ b o, b ≠ env.locals → h.get? b = some o → h'.get? b = some o := fun b o hb he => (sb.2 b hb).trans he
 have sf : Soft h h' := soft_but k3 (ns_seq hn)
 refine o_xxxaa x fun oe vs T xa h1 tb => ?_
 clear x
 have hne : e ≠ env.locals := by
  intro q
  refine o_xxxaa hn fun o' es ep ho' hd' _ => ?_
  clear hn
  have := xa.get
  rw [q, ho'] at this
  cases this
  rw [xa.data] at hd'
  cases hd'
 refine o_xxxaaaa tb.get fun oT ts L' t1 t2 t3 t4 t5 => ?_
 have hTne : T ≠ env.locals := by
  intro q
  refine o_xxxaa hn fun o' es ep ho' hd' _ => ?_
  clear hn
  rw [q, ho'] at t1
  cases t1
  rw [t3] at hd'
  cases hd'
 refine o_xxxxxaaaa xa.dict fun D mD v y tt d1 d2 d3 d4 d5 => ?_
 have hDne : D ≠ env.locals := by
  intro q
  refine o_xa (lookIn_of_ns (q ▸ d2)) fun o1 q1 q2 => ?_
  refine o_xa (lookIn_of_ns hn) fun o2 q3 q4 => ?_
  rw [q1] at q3
  cases q3
  have := (q2 (Str.ofString "message")).symm.trans (q4 (Str.ofString "message"))
  rw [d5, hm] at this
  cases this
 refine ⟨oe, vs, T, ⟨k3 _ _ hne xa.get, xa.cls, xa.data, xa.size, xa.ctx, xa.base, D, mD, v, y, tt, d1, ?_, d3, d4.soft sf, d5⟩, h1, tb.base, tb.ne, oT, ts, L', k3 _ _ hTne t1, t2, t3, t4, t5⟩
 refine o_xxxa d2 fun o es ep ho r => ?_
 clear d2
 exact ⟨o, es, ep, k3 _ _ hDne ho, r⟩
theorem x_get (X : ExcFacts S K fI mg mb) (hc : c ≤ 2) (st : Stays S s.heap (og s)) {fl : Value} (x : XTr S s.heap e c p fl) {name : Str} {Q : Value → Shared → Prop}
  (hn : (name = Str.ofString "spot" ∧ ∀ v tk, DatH S.Ω s.heap v p → handedIn v = true ∧ Q v { s with toks := tk }) ∨ (name = Str.ofString "message" ∧ ∀ y t tk, Q (.str y t) { s with toks := tk })) {expr : Bool} :
  wpAny S.M A (getAttr (.ref e) name expr) Q E s := by
 refine via fun Gv kv => ?_
 refine o_xxxaa x fun oe vs T x h1 _ => ?_
 obtain ⟨D, mD, v, y, t, d1, d2, d3, d4, d5⟩ := x.dict
 refine kv ?_
 clear kv Gv
 have XC := X.cls c hc
 rcases hn with ⟨rfl, h⟩ | ⟨rfl, h⟩
 ·exact exc_get (X.frag.keeps st.base) XC.attr x.get x.cls (notCls_fields x.data) d1 d2 d3 (h v 0 d4).1 XC.spt fun tk => (h v tk d4).2
 ·exact exc_get (X.frag.keeps st.base) XC.attr x.get x.cls (notCls_fields x.data) d1 d2 d5 rfl XC.msg fun tk => h y t tk
theorem try_call (hX : S.X = XFly S) (F : HF S A env h0 outer m s.heap (og s)) {f : Addr} {o : Obj} {fd : FuncData} {out : Out} {cn : Str} {np cp rp pos : Pos} {h₀ : ExceptHandler} {hs : List ExceptHandler} {Q : Flow → Shared → Prop}
  (hl : env.kindOf cn = some .local) (hm : m cn = some (.ref f)) (hdn : (cn == ("__debug__" : Str)) = false) (ho : s.heap.get? f = some o) (hd : o.data = .func fd)
  (run : ∀ (Q' E' : Value → Shared → Prop), PostE S out s.heap Q' E' → codeAny S.M A (.call (.ref f) ⟨[], []⟩) (fun r s' => match r with | .ok (.ret v) => Q' v s' | .ok _ => False | .error e => E' e s') s)
  (hout : (∃ d, out = .val d) ∨ ∃ c p, out = .err c p)
  (nrm : ∀ d, out = .val d → ∀ v s', DatH S.Ω s'.heap v d → HF S A env h0 outer m s'.heap (og s') → Q (.ret v) s')
  (exc : ∀ c p, out = .err c p → ∀ e s', XTr S s'.heap e c p .none → HF S A env h0 outer m s'.heap (og s') → Up s.heap s'.heap → wpAny S.M A (handleBy (.ref e) env (h₀ :: hs)) Q E s') :
  wpAny S.M A (exec (.Try [.Return (some (.Call (.Name cn np) [] [] cp)) rp] (h₀ :: hs) [] [] pos) env) Q E s := by
 refine wpAny_Try_except (wpAny_execs_cons (wpAny_Return_some (wpAny_Call_ofName (F.load hl hm hdn ?_))))
 refine Calls.callWith_function (o := o) (fd := fd) (evalArgs_none ⟨⟨ho, hd⟩, wpAny_call (run _ _ ?_)⟩)
 rcases hout with ⟨d, rfl⟩ | ⟨c, p, rfl⟩
 ·exact fun v s' D k => nrm d rfl v s' D (F.keep k)
 ·intro e s' x k
  rw [hX] at x
  have F1 := F.keep k
  refine noteX F1.fr F1.frames F1.ent.hf k.stays (.inl x) fun h2 y => ?_
  refine flightX (s := { s' with heap := h2 }) (f := none) y.stays y.tr fun h3 z => ?_
  have w := y.trans z
  exact exc c p rfl e { s' with heap := h3 } w.tr (F1.left w) (k.up.trans w.up)
theorem handle_own (X : ExcFacts S K fI mg mb) (F : HF S A env h0 outer m s.heap (og s)) (x : XTr S s.heap e c p .none) {k : Nat} {b : Bool} (hb : exmOne K (.ref (S.exc c)) (.ref (S.exc k)) = some b) {cn n : Str} {tp pos : Pos} {b₀ : Stmt} {body : List Stmt} {rest : List ExceptHandler}
  (hl : env.kindOf cn = some .globalImplicit) (hm : mg cn = some (.ref (S.exc k))) (hdn : (cn == ("__debug__" : Str)) = false) (hn : env.kindOf n = some .local) (hmsg : m (Str.ofString "message") = none) {Q : Flow → Shared → Prop}
  (no : b = false → wpAny S.M A (handleBy (.ref e) env rest) Q E s)
  (yes : b = true → ∀ s', HF S (A.mark (some (.ref e))) env h0 outer (fun y => if y = n then some (.ref e) else m y) s'.heap (og s') → XTr S s'.heap e c p .none → Soft s.heap s'.heap →
   wpAny S.M (A.mark (some (.ref e))) (execs (b₀ :: body) env) (fun f s₂ => wpAny S.M A (do bindName env n .none; unbindBehindTheSuite env n pos) (fun _ s₃ => Q f s₃) E s₂)
    (fun y s₂ => AsSuiteRaised S.M (A.mark (some (.ref e))) env n pos (notedBy S.M (A.mark (some (.ref e))) env (cameBackBy S.M A env E)) y s₂) s') :
  wpAny S.M A (handleBy (.ref e) env (.ExceptHandler (some (.Name cn tp)) (some n) (b₀ :: body) pos :: rest)) Q E s := by
 refine wpAny_handleBy_cons (codeAny_handlers_test ((F.mark _).top X.g hl hm hdn ?_)) (by intro q; injection q)
 refine via fun Gv kv => ?_
 refine o_xxxaa (id x) fun oe vs T xa h1 ht => ?_
 have L := exm_one (X.frag.keeps F.stays.base) (xat_type xa) hb
 obtain ⟨hp, g, d, tk, os⟩ := s
 refine kv ?_
 clear kv Gv
 refine L.at ?_
 induction b with
 | false => exact no rfl
 | true =>
  refine codeAny_handlers_suite_as ?_
  refine flightX (s := ⟨hp, g, d, tk, os⟩) (f := none) F.stays x fun h2 y => ?_
  have F2 := F.left y
  refine ((F2.mark (some (.ref e))).store (s := ⟨h2, g, d, tk, os⟩) hn fun h3 F3 sf sb => ?_)
  have x3 : XTr S h3 e c p .none := xtr_own y.tr F2.ns hmsg sb
  exact wpAny_mono (yes rfl { heap := h3, gens := g, drawn := d, toks := tk + 1, os := os } F3 x3 ((Soft.of_up y.up).trans sf)) (fun f s₂ h => h) fun _ _ h => h
end
end
section
open PySem PySem.W PySem.SeqAt
open PyProof.Rows (Tuple_)
variable {κ κ' : OG}
theorem ltR_inv {c : Nat} {p : Dat} {out : Out} (h : ltR c p = some out) : c ≤ 2 ∧ ((c ≠ 1 ∧ out = .val (.tup [.str (cS "const fault"), p])) ∨ (c = 1 ∧ out = .val (.tup [.str (cS "type fault"), p]))) := by
 unfold ltR at h
 split at h
 ·obtain rfl := si h; exact ⟨by decide, .inl ⟨by decide, rfl⟩⟩
 ·obtain rfl := si h; exact ⟨by decide, .inr ⟨rfl, rfl⟩⟩
 ·obtain rfl := si h; exact ⟨by decide, .inl ⟨by decide, rfl⟩⟩
 ·exact nn h
theorem metK_inv {o : Option Out} {k : Nat → Dat → Option Out} {out : Out} (h : metK o k = some out) : (∃ d, o = some (.val d) ∧ out = .val d) ∨ ∃ c p, o = some (.err c p) ∧ k c p = some out := by
 induction o with
 | none => exact nn h
 | some o => induction o with
  | val d => exact .inl ⟨d, rfl, (Option.some.inj h).symm⟩
  | err c p => exact .inr ⟨c, p, rfl, h⟩
  | vals ds => exact nn h
  | test b => exact nn h
  | flow ρ f => exact nn h
noncomputable def triedP (i : Nat) : Pos := posAt [643, 15, 643, 19, 643, 15, 643, 21, 643, 8, 643, 21, 644, 11, 644, 21, 645, 16, 645, 29, 645, 31, 645, 36, 645, 31, 645, 41, 645, 15, 645, 42, 645, 8, 645, 42, 644, 4, 645, 42, 646, 11, 646, 20, 647, 16, 647, 28, 647, 30, 647, 35, 647, 30, 647, 40, 647, 15, 647, 41, 647, 8, 647, 41, 646, 4, 647, 41, 642, 4, 647, 41] i
noncomputable def triedT : List Stmt := [.Try [.Return (some (.Call (.Name (Str.ofString "call") (triedP 0)) [] [] (triedP 1))) (triedP 2)] [.ExceptHandler (some (.Name (Str.ofString "ConstFault") (triedP 3))) (some (Str.ofString "fault")) [.Return (some (.Tuple [(.Constant (.str (Str.ofString "const fault")) 0 (triedP 4)), (.Attribute (.Name (Str.ofString "fault") (triedP 5)) (Str.ofString "spot") (triedP 6))] 0 (triedP 7))) (triedP 8)] (triedP 9), .ExceptHandler (some (.Name (Str.ofString "TypeFault") (triedP 10))) (some (Str.ofString "fault")) [.Return (some (.Tuple [(.Constant (.str (Str.ofString "type fault")) 0 (triedP 11)), (.Attribute (.Name (Str.ofString "fault") (triedP 12)) (Str.ofString "spot") (triedP 13))] 0 (triedP 14))) (triedP 15)] (triedP 16)] [] [] (triedP 17)]
structure TriedFn (S : Fixed) (fd : FuncData) : Prop where
 fn : HandFn S [Str.ofString "call"] triedT fd
 call : fd.scope.names.lookup (Str.ofString "call") = some .local
 fault : fd.scope.names.lookup (Str.ofString "fault") = some .local
 c0 : fd.scope.names.lookup (Str.ofString "ConstFault") = some .globalImplicit
 c1 : fd.scope.names.lookup (Str.ofString "TypeFault") = some .globalImplicit
theorem HF.unmark {S : Fixed} {A : Around} {v : Option Value} {env : Env} {h0 h : Heap} {outer : List Env} {m : Str → Option Value} (F : HF S (A.mark v) env h0 outer m h κ) : HF S A env h0 outer m h κ := ⟨F.ns, F.ent, F.fr, F.up, F.stays, F.noC, F.glob, F.blt⟩
section
variable {S : Fixed} {K : Frag} {fI : Addr} {mg mb : Str → Option Value} {t : Tabs} {n : Nat} {ρ : List Dat} {out : Out} {fa : Nat → Addr}
theorem told_suite (X : ExcFacts S K fI mg mb) (Hr : OmRef S.Ω) {A : Around} {s : Shared} {env : Env} {h0 : Heap} {outer : List Env} {m : Str → Option Value} {E E' : Value → Shared → Prop} {e : Addr} {c : Nat} {p : Dat} (hc : c ≤ 2) {w : Str} (hw : okS w)
  (F : HF S (A.mark (some (.ref e))) env h0 outer (fun y => if y = Str.ofString "fault" then some (.ref e) else m y) s.heap (og s)) (x : XTr S s.heap e c p .none) (hl : env.kindOf (Str.ofString "fault") = some .local)
  {p5 p6 p7 p8 p9 p10 : Pos} {k1 k2 : Nat} {Q : Flow → Shared → Prop}
  (h : ∀ v s', DatH S.Ω s'.heap v (.tup [.str (codeS w), p]) → Up h0 s'.heap → Stays S s'.heap (og s') → Q (.ret v) s') :
  wpAny S.M (A.mark (some (.ref e))) (execs [.Return (some (.Tuple [.Constant (.str w) k1 p5, .Attribute (.Name (Str.ofString "fault") p6) (Str.ofString "spot") p7] k2 p8)) p9] env)
   (fun f s₂ => wpAny S.M A (do bindName env (Str.ofString "fault") .none; unbindBehindTheSuite env (Str.ofString "fault") p10) (fun _ s₃ => Q f s₃) E s₂) E' s := by
 refine wpAny_execs_cons (wpAny_Return_some (Tuple_ ?_))
 refine Calls.spliced_cons (Calls.Constant_str (k := k1) (pos := p5) (Calls.spliced_cons (PyProof.Rows.Attribute_name (F.load (s := { s with toks := s.toks + 1 }) hl (if_pos rfl) (by decide) ?_))))
 refine x_get (s := { s with toks := s.toks + 1 }) X hc F.stays x (.inl ⟨rfl, fun v tk D => ⟨handed_dat Hr D, Calls.spliced_nil ?_⟩⟩)
 have k2 := All.push s.heap { cls := .type "tuple", data := .seq [Value.str w s.toks, v].toArray }
 refine wpAny_newTuple ?_ (hsz := by show (2 : Nat) ≤ 2 ^ 24; (simp_all +arith))
 have F2 := F.unmark.next (Up.of_all k2) (F.stays.all k2)
 refine HF.goes (s := { s with heap := s.heap.push { cls := .type "tuple", data := .seq [Value.str w s.toks, v].toArray }, toks := tk }) F2 hl fun h' m' F3 sf sb => ?_
 have D2 : DatH S.Ω (s.heap.push { cls := .type "tuple", data := .seq [Value.str w s.toks, v].toArray }) (.ref s.heap.objs.size) (.tup [.str (codeS w), p]) := .tup (push_tuple rfl rfl) (.cons (.str w _ hw) (.cons (D.up (Up.of_all k2)) .nil))
 exact h _ _ (D2.soft sf) F3.up F3.stays
end
end
section
open PySem PySem.W PySem.SeqAt
open PyProof.Rows (Tuple_)
variable {κ κ' : OG}
section
variable {S : Fixed} {K : Frag} {fI : Addr} {mg mb : Str → Option Value} {t : Tabs} {n : Nat} {ρ : List Dat} {out : Out} {fa : Nat → Addr}
theorem at_one {x : Str} {v : Value} : ([x].zip [v]).reverse.lookup x = some v := by
 show ([(x, v)] : List (Str × Value)).lookup x = some v
 simp
theorem msg_one {v : Value} : ([Str.ofString "call"].zip [v]).reverse.lookup (Str.ofString "message") = none := by
 show ([(Str.ofString "call", v)] : List (Str × Value)).lookup (Str.ofString "message") = none
 rfl
theorem tried_call (X : ExcFacts S K fI mg mb) (CF : CatchFacts S K) (Hr : OmRef S.Ω) {ft : Addr} {ot : Obj} {ftd : FuncData} (hot : S.B0.get? ft = some ot) (hotd : ot.data = .func ftd) (TF : TriedFn S ftd)
  {A : Around} {s : Shared} {N : Nat} (C : CondC S N A s.heap (og s)) {f : Addr} {o : Obj} {fd : FuncData} (ho : s.heap.get? f = some o) (hd : o.data = .func fd) {inner : Out}
  (run : ∀ (env1 : Env) (s1 : Shared), CondC S N A s.heap (og s) → (A.deeper env1).frames = some (env1 :: (A.frames.getD [])) → s1.heap.FunFrames S.B0 (env1 :: (A.frames.getD [])) → Stays S s1.heap (og s1) → All s.heap s1.heap → ∀ (Q' E' : Value → Shared → Prop), PostE S inner s1.heap Q' E' →
   codeAny S.M (A.deeper env1) (.call (.ref f) ⟨[], []⟩) (fun r s' => match r with | .ok (.ret v) => Q' v s' | .ok _ => False | .error e => E' e s') s1)
  (h : metK (some inner) ltR = some out) {Q E : Value → Shared → Prop} (P : PostE S out s.heap Q E) :
  codeAny S.M A (.call (.ref ft) ⟨[.ref f], []⟩) (fun r s' => match r with | .ok (.ret v) => Q v s' | .ok _ => False | .error e => E e s') s := by
 have HFn := TF.fn
 refine o_xa C.frames fun l hfr hff => ?_
 have hgl : A.frames.getD [] = l := by rw [hfr]; rfl
 refine call_hand X.lim hot hotd HFn rfl C hfr fun env s₁ Q' E' hQ hE hsc _ F hall => ?_
 have kind : ∀ y, env.kindOf y = ftd.scope.names.lookup y := fun y => by show env.scope.names.lookup y = _; rw [hsc]
 have n0 : mg (Str.ofString "ConstFault") = some (.ref (S.exc 0)) := (X.names 0 _ rfl).2
 have n1 : mg (Str.ofString "TypeFault") = some (.ref (S.exc 1)) := (X.names 1 _ rfl).2
 have hinner : (∃ d, inner = .val d ∧ out = .val d) ∨ ∃ c p, inner = .err c p ∧ ltR c p = some out := by
  rcases metK_inv h with ⟨d, e1, e2⟩ | ⟨c, p, e1, e2⟩
  ·exact .inl ⟨d, Option.some.inj e1, e2⟩
  ·exact .inr ⟨c, p, Option.some.inj e1, e2⟩
 refine wpAny_execs_cons (try_call X.isX F (out := inner) (by rw [kind]; exact TF.call) at_one (by decide) (hall _ _ ho) hd (run env s₁ C (by rw [hgl]; exact F.fr) (by rw [hgl]; exact F.frames) F.stays hall) ?_ ?_ ?_)
 ·rcases hinner with ⟨d, e, _⟩ | ⟨c, p, e, _⟩
  ·exact .inl ⟨d, e⟩
  ·exact .inr ⟨c, p, e⟩
 ·intro d hi v s' D F1
  rcases hinner with ⟨d', e, rfl⟩ | ⟨c, p, e, _⟩
  ·rw [hi] at e; cases e
   exact hQ (.ret v) s' (P v s' D ⟨F1.up, F1.stays⟩)
  ·rw [hi] at e; injection e
 ·intro c p hi e s' x F1 U1
  rcases hinner with ⟨d', e', _⟩ | ⟨c', p', e', hlt⟩
  ·rw [hi] at e'; injection e'
  ·rw [hi] at e'; cases e'
   obtain ⟨hc, hcase⟩ := ltR_inv hlt
   have hfa : env.kindOf (Str.ofString "fault") = some .local := by rw [kind]; exact TF.fault
   have hmsg : (fun x => List.lookup x ([Str.ofString "call"].zip [Value.ref f]).reverse) (Str.ofString "message") = none := msg_one
   refine handle_own X F1 x (CF.hit c hc) (by rw [kind]; exact TF.c0) n0 (by decide) hfa hmsg (fun hb => ?_) fun hb s2 F2 x2 _ => ?_
   ·have hc1 : c = 1 := by
     rcases hcase with ⟨q, _⟩ | ⟨q, _⟩
     ·rw [show (c != 1) = true from by simpa using q] at hb; exact tf hb
     ·exact q
    subst hc1
    rcases hcase with ⟨q, _⟩ | ⟨_, rfl⟩
    ·exact absurd rfl q
    refine handle_own X F1 x CF.hit1 (by rw [kind]; exact TF.c1) n1 (by decide) hfa hmsg (fun hb => by exact tf hb) fun _ s2 F2 x2 _ => ?_
    exact told_suite X Hr (by decide) (w := Str.ofString "type fault") (okSB_eq (by decide)) F2 x2 hfa fun v s' D u st => hQ (.ret v) s' (P v s' D ⟨u, st⟩)
   ·rcases hcase with ⟨_, rfl⟩ | ⟨q, _⟩
    ·exact told_suite X Hr hc (w := Str.ofString "const fault") (okSB_eq (by decide)) F2 x2 hfa fun v s' D u st => hQ (.ret v) s' (P v s' D ⟨u, st⟩)
    ·subst q; injection hb
theorem ex_lt (L : LamFacts S mg) (LV : Leaves S) (X : ExcFacts S K fI mg mb) (CF : CatchFacts S K) (Hr : OmRef S.Ω) (G : Globs S t fa mg mb) (I : SoundE S t n) {ft : Addr} {ot : Obj} {ftd : FuncData} (hft : mg (Str.ofString "_law_tried") = some (.ref ft))
  (hot : S.B0.get? ft = some ot) (hotd : ot.data = .func ftd) (TF : TriedFn S ftd) {k : Nat} {x : Str} {g : Arguments} {sc : Scope} {np p lp mp cp : Pos} {a : M} (h : uLt k x mp cp (runT t n) ρ a = some out) :
  ExOk S (n + 1) (.u (.lt k x g sc np p lp mp cp) a) ρ out := by
 intro A env xs s Q E hok C P
 have hok' : (okM sc.names xs a && (okGlob env.scope.names (Str.ofString "_law_tried") && at? cx0.fns k x && okGlob sc.names x && okLam env.scope.names g sc lp && some1 a)) = true := hok
 simp only [Bool.and_eq_true] at hok'
 refine via fun Gv kv => ?_
 refine o_aa hok' fun h1 r1' h6 => ?_
 clear hok'
 obtain ⟨⟨⟨h2, h3⟩, h4⟩, h5⟩ := r1'
 refine kv ?_
 clear kv Gv
 have hin : okM sc.names xs (.u (.call k x mp cp) a) = true := by
  show (okM sc.names xs a && okU sc.names (.call k x mp cp) a) = true
  rw [h1]
  show (okGlob sc.names x && at? cx0.fns k x && some1 a) = true
  rw [h4, h3, h6]; rfl
 obtain ⟨inner, hi, hm⟩ : ∃ inner, runT t n (.ex (.u (.call k x mp cp) a)) ρ = some inner ∧ metK (some inner) ltR = some out := by
  have h' : metK (runT t n (.ex (.u (.call k x mp cp) a)) ρ) ltR = some out := h
  induction q : runT t n (.ex (.u (.call k x mp cp) a)) ρ with
  | none => rw [q] at h'; exact nn h'
  | some i => rw [q] at h'; exact ⟨i, rfl, h'⟩
 have O := lamOk2_of h5
 refine wpAny_Call_ofName (name_top G C h2 hft ?_)
 refine Calls.callWith_function (o := ot) (fd := ftd) (Calls.evalArgs_plain (Calls.spliced_cons (lam_at L C h5 (body := toE (.u (.call k x mp cp) a)) fun f s₁ K1 W => Calls.spliced_nil ⟨⟨K1.stays.base _ _ hot, hotd⟩, ?_⟩)))
 have C1 := C.keep K1
 refine o_xxxxa W.ex fun clos pm c' ctv ho _ => ?_
 refine wpAny_call (tried_call X CF Hr hot hotd TF C1.call ho rfl (inner := inner) (fun env1 s2 _ hfr hff st hall Q' E' PE => ?_) hm (P.keep K1))
 have r1 := C.room
 have r2 := C.units
 have W2 : LamMade S env g (toE (.u (.call k x mp cp) a)) sc s2.heap f := by
  refine o_xxxxaa W.ex fun clos pm c' ctv ho hrec q => ?_
  exact ⟨clos, pm, c', ctv, hall _ _ ho, hrec.keeps hall, q⟩
 refine lam_call (n := n) (A := A.deeper env1) L LV O W2 (C1.frm.up (Up.of_all hall)) ⟨by show A.depth + 1 + 3 * n + 10 < recursionLimit; lia, by show A.units + 3 + 24 * n + 100 < cLine; lia, C.handled, ⟨_, hfr, hff⟩, st⟩ (by show A.depth + 1 + 1 + 3 * n + 10 < recursionLimit; lia) (by show A.units + 3 + 3 + 24 * n + 100 < cLine; lia) (I.ex _ ρ _ hi) hin PE
end
end
section
open PySem PySem.W PySem.SeqAt
variable {κ κ' : OG}
section
variable {S : Fixed} {A : Around} {s : Shared} {E : Value → Shared → Prop} {e : Addr} {c : Nat} {p : Dat}
theorem xnew_set (x : XNew S s.heap e c p) (st : Stays S s.heap (og s)) {i : Nat} {v : Value} (hi : i = 2 ∧ c = 2 ∨ i = 3 ∨ i = 4) {Q : Unit → Shared → Prop}
  (h : ∀ h', XNew S h' e c p → Up s.heap h' → Stays S h' (og s) → (∀ b, b ≠ e → h'.get? b = s.heap.get? b) → Q () { s with heap := h' }) : wpAny S.M A (setField (.ref e) i v) Q E s := by
 refine o_xxa x fun oe vs x h1 => ?_
 have hsz := x.size
 have hd₃ := Obj.data_mapFields x.data (·.setIfInBounds i v)
 have other : ∀ b, b ≠ e → (s.heap.update e (Obj.mapFields (·.setIfInBounds i v))).get? b = s.heap.get? b := fun b hb => Heap.get?_update_other _ _ (Ne.symm hb)
 have he' := Heap.get?_update_self (Obj.mapFields (·.setIfInBounds i v)) x.get (Obj.isFreed_of_fields hd₃)
 have ner : ∀ b o, s.heap.get? b = some o → (∀ vs, o.data ≠ .fields vs) → b ≠ e := fun b o hb hn q => by
  rw [q, x.get] at hb
  obtain rfl := si hb
  exact hn _ x.data
 have us : ∀ b o, s.heap.get? b = some o → (∀ vs, o.data ≠ .fields vs) → ∃ sl, (s.heap.update e (Obj.mapFields (·.setIfInBounds i v))).get? b = some { o with slots := sl } := fun b o hb hn => ⟨o.slots, (other b (ner b o hb hn)).trans hb⟩
 have hi1 : i ≠ 1 := by rcases hi with ⟨rfl, _⟩ | rfl | rfl <;> decide
 have h1' : (vs.setIfInBounds i v)[1]? = some .none := by rw [Array.getElem?_setIfInBounds_ne hi1]; exact h1
 refine wpAny_setField x.get x.data (by rw [hsz]; rcases hi with ⟨rfl, _⟩ | rfl | rfl <;> decide) (h _ ⟨Obj.mapFields (·.setIfInBounds i v) oe, vs.setIfInBounds i v, ?_, h1'⟩ ⟨us, fun b o hb hi => ?_⟩ (st.of (fun b o hb => ?_) fun b o hb hlm => ?_) other)
 ·refine o_xxxxxaaaa x.dict fun D mD v' y tk d1 d2 d3 d4 d5 => ?_
  have us' : s.heap.UpToSlots (s.heap.update e (Obj.mapFields (·.setIfInBounds i v))) := us
  refine ⟨he', (Obj.cls_mapFields _ _).trans x.cls, hd₃, by simp [hsz], fun q => ?_, x.base, D, mD, v', y, tk, (dict_mapFields _ _).trans d1, us'.ns d2, d3, d4.soft (Soft.of_slots us'), d5⟩
  rcases hi with ⟨_, q'⟩ | rfl | rfl
  ·exact absurd q' q
  ·rw [Array.getElem?_setIfInBounds_ne (by decide)]; exact x.ctx q
  ·rw [Array.getElem?_setIfInBounds_ne (by decide)]; exact x.ctx q
 ·refine o_ax hi fun hi vs' hd => ?_
  refine (other b fun q => ?_).trans hb
  rw [q, x.get] at hb
  obtain rfl := si hb
  rw [x.notIter] at hi
  exact ft hi
 ·exact (other b fun q => by rw [q, x.base] at hb; exact nn hb).trans (st.base b o hb)
 ·refine (other b fun q => ?_).trans hb
  rw [q, x.get] at hb
  obtain rfl := si hb
  exact x.notLam (fun q t e => by rw [h1] at e; cases e) hlm
end
end
section
open PySem PySem.W PySem.SeqAt
variable {κ κ' : OG}
theorem entry_unchain : entryFor table "proto.unchain" = some Builtin.«proto.unchain» := entryFor_of_fast (by kernel_rfl)
section
variable {S : Fixed} {K : Frag} {fI : Addr} {mg mb : Str → Option Value} {A : Around} {env : Env} {s : Shared} {E : Value → Shared → Prop} {e : Addr} {c : Nat} {p : Dat}
theorem raise_from (X : ExcFacts S K fI mg mb) {x cz : Sem Value} {Q : Flow → Shared → Prop} (hh : A.handled = some (.ref e))
  (h : wpAny S.M A x (fun v s₁ => ∃ e2, v = .ref e2 ∧ e2 ≠ e ∧ XNew S s₁.heap e2 2 p ∧ Stays S s₁.heap (og s₁) ∧ (∃ oe vs, s₁.heap.get? e = some oe ∧ oe.data = .fields vs ∧ vs[2]? = some .none) ∧
   wpAny S.M A cz (fun v s₂ => v = .none ∧ s₂.heap = s₁.heap ∧ og s₂ = og s₁ ∧ ∀ h' tk, XNew S h' e2 2 p → Up s₁.heap h' → Stays S h' (og s₂) → E (.ref e2) { s₂ with heap := h', toks := tk }) E s₁) E s) : wpAny S.M A (raiseStmt env (some x) (some cz)) Q E s := by
 unfold raiseStmt
 refine wpAny_bind (wpAny_mono h (fun v s₁ h₁ => ?_) fun _ _ y => y)
 refine via fun Gv kv => ?_
 refine o_xaaaaa h₁ fun e2 q1' hne xn st r5' h₂ => ?_
 clear h₁
 subst q1'
 obtain ⟨oe, ve, g1, g2, g3⟩ := r5'
 refine kv ?_
 clear kv Gv
 refine wpAny_bind (wpAny_holding (wpAny_mono h₂ (fun v s₂ h₃ => wpAny_bind (wpAny_pure ?_)) fun _ _ y => y))
 refine o_aaa h₃ fun q0' hheap hog fin => ?_
 clear h₃
 subst q0'
 rw [← hheap] at xn st g1 fin
 rw [← hog] at st
 clear h₂ hheap hog
 refine via fun Gv kv => ?_
 refine o_xxa (id xn) fun oe2 vs2 x2 h12 => ?_
 refine o_aaa (xnew_looks X (by decide) st x2) fun L1 L2 L3 L4 => ?_
 obtain ⟨hp, g, d, tk, os⟩ := s₂
 refine kv ?_
 clear kv Gv
 refine wpAny_bind (wpAny_holding ?_)
 unfold excFromValue
 refine wpAny_bind (L1.at ?_)
 rw [if_neg (by decide)]
 refine wpAny_bind (L2.at ?_)
 rw [if_pos rfl]
 refine wpAny_pure ?_
 dsimp only
 rw [if_pos (show (Value.none == Value.none) = true from rfl)]
 refine wpAny_bind (wpAny_pure ?_)
 refine wpAny_bind (xnew_set (s := ⟨hp, g, d, tk, os⟩) xn st (i := 3) (v := .none) (.inr (.inl rfl)) fun ha xa ua sa ka => ?_)
 refine wpAny_bind (xnew_set (s := ⟨ha, g, d, tk, os⟩) xa sa (i := 4) (v := .bool true) (.inr (.inr rfl)) fun hb xb ub sb kb => ?_)
 refine o_xxa (id xb) fun oe3 vs3 x3 h13 => ?_
 refine o_aaa (xnew_looks X (by decide) sb x3) fun L1 L2 L3 L4 => ?_
 refine wpAny_bind (L3.at ?_)
 rw [if_neg (by decide)]
 refine wpAny_bind (L4.at ?_)
 unfold setFlight
 refine wpAny_bind (wpAny_bind (wpAny_field x3.get x3.data h13 ?_))
 rw [if_neg (by decide)]
 refine wpAny_pure ?_
 unfold raiseNew
 refine wpAny_bind (wpAny_handled ?_)
 rw [hh]
 dsimp only
 rw [if_pos (show (Value.ref e != Value.ref e2) = true from by simpa using (Ne.symm hne))]
 have ge : hb.get? e = some oe := by rw [kb e (Ne.symm hne), ka e (Ne.symm hne)]; exact g1
 refine wpAny_bind (wpAny_holding (wpAny_runValue (codeAny_builtin entry_unchain ?_)))
 show wpAny _ _ (do
  let context ← field (.ref e) 2
  if context == .none then return ← ret .none
  if context == (Value.ref e2) then
   rule "raise.context-cycle-cut"
   setField (.ref e) 2 .none
   return ← ret .none
  if context == (Value.ref e) then rule "raise.context-old-cycle"; return ← ret .none
  let slow ← if false then field (.ref e) 2 else pure (Value.ref e)
  again (.builtin "proto.unchain" ⟨[.ref e2, context, slow, .bool !false], []⟩)) _ _ _
 refine wpAny_bind (wpAny_field ge g2 g3 ?_)
 rw [if_pos (show (Value.none == Value.none) = true from rfl)]
 refine wpAny_bind (wpAny_pure (wpAny_pure ?_))
 show wpAny _ _ (setField (.ref e2) 2 (.ref e) >>= fun _ => throw (.ref e2)) _ _ _
 refine wpAny_bind (xnew_set (s := ⟨hb, g, d, tk, os⟩) xb sb (i := 2) (v := .ref e) (.inl ⟨rfl, rfl⟩) fun hc xc uc sc kc => ?_)
 exact wpAny_throw (fin hc tk xc ((ua.trans ub).trans uc) sc)
end
end
section
open PySem PySem.W PySem.SeqAt PySem.Calls
variable {κ κ' : OG}
noncomputable def knownP (i : Nat) : Pos := posAt [373, 15, 373, 19, 373, 15, 373, 21, 373, 8, 373, 21, 374, 11, 374, 21, 375, 14, 375, 24, 375, 25, 375, 30, 375, 25, 375, 38, 375, 40, 375, 44, 375, 14, 375, 45, 375, 51, 375, 55, 375, 8, 375, 55, 374, 4, 375, 55, 372, 4, 375, 55] i
noncomputable def knownT : List Stmt := [.Try [.Return (some (.Call (.Name (Str.ofString "call") (knownP 0)) [] [] (knownP 1))) (knownP 2)] [.ExceptHandler (some (.Name (Str.ofString "ConstFault") (knownP 3))) (some (Str.ofString "fault")) [.Raise (some (.Call (.Name (Str.ofString "ConstFault") (knownP 4)) [(.Attribute (.Name (Str.ofString "fault") (knownP 5)) (Str.ofString "message") (knownP 6)), (.Name (Str.ofString "spot") (knownP 7))] [] (knownP 8))) (some (.Constant .none 0 (knownP 9))) (knownP 10)] (knownP 11)] [] [] (knownP 12)]
structure KnownFn (S : Fixed) (fd : FuncData) : Prop where
 fn : HandFn S [Str.ofString "spot", Str.ofString "call"] knownT fd
 call : fd.scope.names.lookup (Str.ofString "call") = some .local
 spot : fd.scope.names.lookup (Str.ofString "spot") = some .local
 fault : fd.scope.names.lookup (Str.ofString "fault") = some .local
 c0 : fd.scope.names.lookup (Str.ofString "ConstFault") = some .globalImplicit
section
variable {S : Fixed} {K : Frag} {fI : Addr} {mg mb : Str → Option Value} {t : Tabs} {n : Nat} {ρ : List Dat} {out : Out} {fa : Nat → Addr}
theorem as_raised (X : ExcFacts S K fI mg mb) {A : Around} {env : Env} {h0 : Heap} {outer : List Env} {m : Str → Option Value} {s : Shared} {E : Value → Shared → Prop} {e e2 : Addr} {p : Dat} {pos : Pos} {nm : Str}
  (F : HF S A env h0 outer m s.heap (og s)) (hmsg : m (Str.ofString "message") = none) (hl : env.kindOf nm = some .local) (x : XNew S s.heap e2 2 p)
  {E' : Value → Shared → Prop} (hE : ∀ e s', wpAny S.M A (leaving env e) (fun _ s'' => E e s'') (fun e' s'' => E e' s'') s' → E' e s') (h : ∀ s', XFly S s'.heap e2 2 p → Up h0 s'.heap → Stays S s'.heap (og s') → E (.ref e2) s') :
  AsSuiteRaised S.M (A.mark (some (.ref e))) env nm pos (notedBy S.M (A.mark (some (.ref e))) env (cameBackBy S.M A env E')) (.ref e2) s := by
 have FM := F.mark (some (.ref e))
 have hf : env.frame = some env.locals := F.ent.hf
 refine noteX FM.fr FM.frames hf F.stays (.inl (.inl x)) fun h1 y1 => ?_
 have F1 := F.left y1
 refine HF.goes (s := { s with heap := h1 }) (F1.mark (some (.ref e))) hl fun h2 m2 F2 sf sb => ?_
 have x2 : XTr S h2 e2 2 p (rawInt env.locals) := xtr_own y1.tr F1.ns hmsg sb
 refine o_xxxaa (id x2) fun oe vs T xa q1 tb => ?_
 unfold passOn
 refine wpAny_bind (wpAny_field xa.get xa.data q1 ?_)
 rw [if_neg (show ¬ ((Value.ref T == Value.none) = true) from by simp)]
 rw [hf]
 refine wpAny_bind (flightX (s := { s with heap := h2, toks := s.toks + 1 }) (f := some env.locals) F2.stays x2 fun h3 y3 => wpAny_throw ?_)
 have F3 := F2.left y3
 show wpAny S.M _ (noteFrame (.ref e2) env) _ _ _
 refine noteX (s := { s with heap := h3, toks := s.toks + 1 }) F3.fr F3.frames hf F3.stays (.inr y3.tr) fun h4 y4 => ?_
 have F4 := F3.left y4
 refine o_xxxaa (id y4.tr) fun oe vs T xa q1 tb => ?_
 show wpAny S.M A (do
  if (← field (.ref e2) 1) == .none then unsupported "frame.own-activation:exception-without-traceback"
  setFlight (.ref e2) env.frame) _ _ _
 refine wpAny_bind (wpAny_field xa.get xa.data q1 ?_)
 rw [if_neg (show ¬ ((Value.ref T == Value.none) = true) from by simp)]
 rw [hf]
 refine flightX (s := { s with heap := h4, toks := s.toks + 1 }) (f := some env.locals) F4.stays y4.tr fun h5 y5 => ?_
 have F5 := (F4.left y5).unmark
 refine hE _ _ ?_
 refine leavesX (s := { s with heap := h5, toks := s.toks + 1 }) F5.fr F5.frames hf F5.stays (.inr y5.tr) fun h6 y6 => ?_
 have F6 := F5.left y6
 exact h _ (.inr y6.tr) F6.up F6.stays
theorem known_call (X : ExcFacts S K fI mg mb) (CF : CatchFacts S K) {ft : Addr} {ot : Obj} {ftd : FuncData} (hot : S.B0.get? ft = some ot) (hotd : ot.data = .func ftd) (TF : KnownFn S ftd)
  {A : Around} {s : Shared} {N : Nat} (C : CondC S N A s.heap (og s)) {f : Addr} {o : Obj} {fd : FuncData} (ho : s.heap.get? f = some o) (hd : o.data = .func fd) {inner : Out} {vsp : Value} {spot : Dat} (Dsp : DatH S.Ω s.heap vsp spot)
  (run : ∀ (env1 : Env) (s1 : Shared), CondC S N A s.heap (og s) → (A.deeper env1).frames = some (env1 :: (A.frames.getD [])) → s1.heap.FunFrames S.B0 (env1 :: (A.frames.getD [])) → Stays S s1.heap (og s1) → All s.heap s1.heap → ∀ (Q' E' : Value → Shared → Prop), PostE S inner s1.heap Q' E' →
   codeAny S.M (A.deeper env1) (.call (.ref f) ⟨[], []⟩) (fun r s' => match r with | .ok (.ret v) => Q' v s' | .ok _ => False | .error e => E' e s') s1)
  (h : metK (some inner) (fun c _ => isZero c (some (.err 2 spot))) = some out) {Q E : Value → Shared → Prop} (P : PostE S out s.heap Q E) :
  codeAny S.M A (.call (.ref ft) ⟨[vsp, .ref f], []⟩) (fun r s' => match r with | .ok (.ret v) => Q v s' | .ok _ => False | .error e => E e s') s := by
 have HFn := TF.fn
 refine o_xa C.frames fun l hfr hff => ?_
 have hgl : A.frames.getD [] = l := by rw [hfr]; rfl
 refine call_hand X.lim hot hotd HFn rfl C hfr fun env s₁ Q' E' hQ hE hsc _ F hall => ?_
 have kind : ∀ y, env.kindOf y = ftd.scope.names.lookup y := fun y => by show env.scope.names.lookup y = _; rw [hsc]
 have n0 : mg (Str.ofString "ConstFault") = some (.ref (S.exc 0)) := (X.names 0 _ rfl).2
 have hinner : (∃ d, inner = .val d ∧ out = .val d) ∨ ∃ p, inner = .err 0 p ∧ out = .err 2 spot := by
  rcases metK_inv h with ⟨d, e1, e2⟩ | ⟨c, p, e1, e2⟩
  ·exact .inl ⟨d, Option.some.inj e1, e2⟩
  ·rcases iteO_inv (show iteO (Nat.beq c 0) (some (.err 2 spot)) none = some out from e2) with ⟨q, e3⟩ | ⟨_, e3⟩
   ·have : c = 0 := Nat.eq_of_beq_eq_true q
    subst this
    exact .inr ⟨p, Option.some.inj e1, (Option.some.inj e3).symm⟩
   ·exact nn e3
 have mcall : (fun x => List.lookup x ([Str.ofString "spot", Str.ofString "call"].zip [vsp, Value.ref f]).reverse) (Str.ofString "call") = some (.ref f) := rfl
 have mspot : (fun x => List.lookup x ([Str.ofString "spot", Str.ofString "call"].zip [vsp, Value.ref f]).reverse) (Str.ofString "spot") = some vsp := rfl
 have mmsg : (fun x => List.lookup x ([Str.ofString "spot", Str.ofString "call"].zip [vsp, Value.ref f]).reverse) (Str.ofString "message") = none := rfl
 generalize (fun x => List.lookup x ([Str.ofString "spot", Str.ofString "call"].zip [vsp, Value.ref f]).reverse) = mm at F mcall mspot mmsg
 refine wpAny_execs_cons (try_call X.isX F (out := inner) (by rw [kind]; exact TF.call) mcall (by decide) (hall _ _ ho) hd (run env s₁ C (by rw [hgl]; exact F.fr) (by rw [hgl]; exact F.frames) F.stays hall) ?_ ?_ ?_)
 ·rcases hinner with ⟨d, e, _⟩ | ⟨p, e, _⟩
  ·exact .inl ⟨d, e⟩
  ·exact .inr ⟨0, p, e⟩
 ·intro d hi v s' D F1
  rcases hinner with ⟨d', e, rfl⟩ | ⟨p, e, _⟩
  ·rw [hi] at e; cases e
   exact hQ (.ret v) s' (P v s' D ⟨F1.up, F1.stays⟩)
  ·rw [hi] at e; injection e
 ·intro c p hi e s' x F1 U1
  rcases hinner with ⟨d', e', _⟩ | ⟨p', e', hlt⟩
  ·rw [hi] at e'; injection e'
  ·rw [hi] at e'; cases e'
   subst hlt
   have hfa : env.kindOf (Str.ofString "fault") = some .local := by rw [kind]; exact TF.fault
   refine handle_own X F1 x (CF.hit 0 (by decide)) (by rw [kind]; exact TF.c0) n0 (by decide) hfa mmsg (fun hb => by cases hb) fun hb s2 F2 x2 sf2 => ?_
   have room := C.room
   refine wpAny_execs_cons ?_
   rw [PySem.arm_exec_Raise]
   refine wpAny_bind (wpAny_standAt ?_)
   have hmark : ((A.deeper env).mark (some (.ref e))).handled = some (.ref e) := rfl
   have Dsp1 : DatH S.Ω s'.heap vsp spot := (Dsp.up (Up.of_all hall)).up U1
   refine raise_from X (p := spot) hmark ?_
   refine wpAny_bind (wpAny_Call_ofName (F2.top X.g (by rw [kind]; exact TF.c0) n0 (by decide) ?_))
   refine callWith_of (P := fun h => K.In h) rfl (keeps_K (X.keep 0 (by decide))) ?_
   have ms : (fun y => if y = Str.ofString "fault" then some (Value.ref e) else mm y) (Str.ofString "spot") = some vsp := by
    show (if Str.ofString "spot" = Str.ofString "fault" then some (Value.ref e) else mm (Str.ofString "spot")) = some vsp
    rw [if_neg (by decide)]; exact mspot
   have mmsg2 : (fun y => if y = Str.ofString "fault" then some (Value.ref e) else mm y) (Str.ofString "message") = none := by
    show (if Str.ofString "message" = Str.ofString "fault" then some (Value.ref e) else mm (Str.ofString "message")) = none
    rw [if_neg (by decide)]; exact mmsg
   refine Calls.evalArgs_plain (Calls.spliced_cons (PyProof.Rows.Attribute_name (F2.load hfa (if_pos rfl) (by decide) ?_)))
   refine x_get X (c := 0) (by decide) F2.stays x2 (.inr ⟨rfl, fun y tk tk' => ?_⟩)
   refine Calls.spliced_cons (HF.load (s := { s2 with toks := tk' }) F2 (by rw [kind]; exact TF.spot) ms (by decide) (Calls.spliced_nil ⟨X.frag.keeps F2.stays.base, ?_⟩))
   have D2 : DatH S.Ω s2.heap vsp spot := Dsp1.soft sf2
   show wpAny S.M _ (call (.ref (S.exc 0)) [.str y tk, vsp]) _ _ _
   rw [← X.same]
   refine o_xxxaa (id x2) fun oe vs T xa q1 tb => ?_
   refine exc_call_all (s := { s2 with toks := tk' }) X (c := 2) (by decide) (p := spot) (by show A.depth + 1 + 3 < recursionLimit; lia) F2.stays (.inr ⟨_, rfl, D2⟩) fun e2 s3 xn k3 hfresh all3 => ?_
   refine wpAny_bind (wpAny_standAt (wpAny_pure ?_))
   have hne : e2 ≠ e := fun q => by rw [q] at hfresh; exact absurd (hfresh.symm.trans xa.get) (by simp)
   have hge : ∃ oe vs, s3.heap.get? e = some oe ∧ oe.data = .fields vs ∧ vs[2]? = some .none := by
    exact ⟨oe, vs, all3 _ _ xa.get, xa.data, xa.ctx (by decide)⟩
   refine ⟨e2, rfl, hne, xn, k3.stays, hge, ?_⟩
   refine wpAny_bind (wpAny_Constant_none (wpAny_bind (wpAny_standAt (wpAny_pure ⟨rfl, rfl, rfl, fun h' tk2 xn' u' st' => ?_⟩))))
   have F4 := ((F2.next k3.up k3.stays).next u' st').unmark
   exact as_raised (m := fun y => if y = Str.ofString "fault" then some (Value.ref e) else mm y) X F4 mmsg2 hfa xn' hE fun s' x' u' st' => P _ s' (by rw [X.isX]; exact x') ⟨u', st'⟩
end
end
section
open PySem PySem.W PySem.SeqAt
variable {κ κ' : OG}
section
variable {S : Fixed} {K : Frag} {fI : Addr} {mg mb : Str → Option Value} {t : Tabs} {n : Nat} {ρ : List Dat} {out : Out} {fa : Nat → Addr}
theorem ex_kc (L : LamFacts S mg) (LV : Leaves S) (X : ExcFacts S K fI mg mb) (CF : CatchFacts S K) (G : Globs S t fa mg mb) (I : SoundE S t n) {ft : Addr} {ot : Obj} {ftd : FuncData} (hft : mg (Str.ofString "known_const") = some (.ref ft))
  (hot : S.B0.get? ft = some ot) (hotd : ot.data = .func ftd) (TF : KnownFn S ftd) {k : Nat} {x : Str} {g : Arguments} {sc : Scope} {np p lp mp cp : Pos} {a b : M} (h : dKc k x mp cp (runT t n) ρ a b = some out) :
  ExOk S (n + 1) (.b (.kc k x g sc np p lp mp cp) a b) ρ out := by
 intro A env xs s Q E hok C P
 have hok' : (okM env.scope.names xs a && okM sc.names xs b && (okGlob env.scope.names (Str.ofString "known_const") && at? cx0.fns k x && okGlob sc.names x && okLam env.scope.names g sc lp && some1 b) && notRaw a) = true := hok
 refine b_LLLnnLLLLnnnnnn hok' fun h0 h1 h2 h3 h4 h5 h6 h7 => ?_
 clear hok'
 have C' := C.less (Nat.le_succ n)
 have hin : okM sc.names xs (.u (.call k x mp cp) b) = true := by
  show (okM sc.names xs b && okU sc.names (.call k x mp cp) b) = true
  rw [h1]
  show (okGlob sc.names x && at? cx0.fns k x && some1 b) = true
  rw [h4, h3, h6]; rfl
 have O := lamOk2_of h5
 refine wpAny_Call_ofName (name_top G C h2 hft ?_)
 have hs : starEach [toE a, .Lambda g (.Call (.Name x mp) (toEs b) [] cp) sc lp] env = [(false, eval (toE a) env), (false, eval (.Lambda g (.Call (.Name x mp) (toEs b) [] cp) sc lp) env)] := by rw [star_plain h7]; rfl
 rw [hs]
 refine Calls.callWith_function (o := ot) (fd := ftd) (Calls.evalArgs_plain (Calls.spliced_cons (step_ex h (fun o' ho R PR => I.ex a ρ o' ho A env xs s R E h0 C' PR) P.perr fun spot vsp s₁ _ hk Dsp K1 => ?_)))
 obtain ⟨inner, hi, hm⟩ : ∃ inner, runT t n (.ex (.u (.call k x mp cp) b)) ρ = some inner ∧ metK (some inner) (fun c _ => isZero c (some (.err 2 spot))) = some out := by
  have h' : metK (runT t n (.ex (.u (.call k x mp cp) b)) ρ) (fun c _ => isZero c (some (.err 2 spot))) = some out := hk
  induction q : runT t n (.ex (.u (.call k x mp cp) b)) ρ with
  | none => rw [q] at h'; exact nn h'
  | some i => rw [q] at h'; exact ⟨i, rfl, h'⟩
 have C0 := C.keep K1
 refine Calls.spliced_cons (lam_at L C0 h5 (body := toE (.u (.call k x mp cp) b)) fun f s₂ K2 W => Calls.spliced_nil ⟨⟨K2.stays.base _ _ hot, hotd⟩, ?_⟩)
 have C1 := C0.keep K2
 refine o_xxxxa W.ex fun clos pm c' ctv ho _ => ?_
 refine wpAny_call (known_call X CF hot hotd TF C1.call ho rfl (inner := inner) (Dsp.up K2.up) (fun env1 s2 _ hfr hff st hall Q' E' PE => ?_) hm (P.keep (K1.trans K2)))
 have r1 := C.room
 have r2 := C.units
 have W2 : LamMade S env g (toE (.u (.call k x mp cp) b)) sc s2.heap f := by
  refine o_xxxxaa W.ex fun clos pm c' ctv ho hrec q => ?_
  exact ⟨clos, pm, c', ctv, hall _ _ ho, hrec.keeps hall, q⟩
 refine lam_call (n := n) (A := A.deeper env1) L LV O W2 (C1.frm.up (Up.of_all hall)) ⟨by show A.depth + 1 + 3 * n + 10 < recursionLimit; lia, by show A.units + 3 + 24 * n + 100 < cLine; lia, C.handled, ⟨_, hfr, hff⟩, st⟩ (by show A.depth + 1 + 1 + 3 * n + 10 < recursionLimit; lia) (by show A.units + 3 + 3 + 24 * n + 100 < cLine; lia) (I.ex _ ρ _ hi) hin PE
end
end
section
open PySem PySem.W PySem.SeqAt
open PyProof.Rows (Subscript_)
variable {κ κ' : OG}
set_option tactic.hygienic true in
theorem baseD_inv {T b : Dat} (h : baseD T = some b) : ∃ c r, T = .tup (.str c :: r) ∧ ((Nat.beq c (cS "named") = false ∧ b = T) ∨ (Nat.beq c (cS "named") = true ∧ ∃ d, r = [.str d] ∧ d = cS "main.K" ∧ b = .tup [.str (cS "int"), .str (cS "int8")])) := by
 unfold baseD at h
 split at h
 ·split at h
  ·split at h
   ·split at h
    ·rename_i hq
     exact ⟨_, _, rfl, .inl ⟨hq, (Option.some.inj h).symm⟩⟩
    ·rename_i hq
     split at h
     ·split at h
      ·split at h
       ·split at h
        ·rename_i hd
         exact ⟨_, _, rfl, .inr ⟨hq, _, rfl, Nat.eq_of_beq_eq_true hd, (Option.some.inj h).symm⟩⟩
        ·exact nn h
       ·exact nn h
      ·exact nn h
     ·exact nn h
   ·exact nn h
  ·exact nn h
 ·exact nn h
noncomputable def baseP (i : Nat) : Pos := posAt [614, 14, 614, 18, 614, 19, 614, 20, 614, 14, 614, 21, 614, 25, 614, 32, 614, 14, 614, 32, 615, 15, 615, 19, 615, 20, 615, 21, 615, 15, 615, 22, 615, 30, 615, 34, 615, 30, 615, 40, 615, 15, 615, 40, 616, 22, 616, 31, 616, 32, 616, 51, 616, 54, 616, 58, 616, 59, 616, 60, 616, 54, 616, 61, 616, 32, 616, 61, 616, 22, 616, 62, 616, 16, 616, 62, 615, 12, 616, 62, 617, 12, 617, 15, 617, 18, 617, 22, 617, 18, 617, 28, 617, 29, 617, 33, 617, 34, 617, 35, 617, 29, 617, 36, 617, 18, 617, 37, 617, 12, 617, 37, 618, 15, 618, 18, 618, 15, 618, 29, 618, 33, 618, 37, 618, 15, 618, 37, 619, 19, 619, 23, 619, 19, 619, 30, 619, 34, 619, 38, 619, 19, 619, 38, 620, 26, 620, 35, 620, 36, 620, 47, 620, 50, 620, 54, 620, 55, 620, 56, 620, 50, 620, 57, 620, 36, 620, 57, 620, 60, 620, 80, 620, 36, 620, 80, 620, 26, 620, 81, 620, 20, 620, 81, 619, 16, 620, 81, 621, 16, 621, 20, 621, 16, 621, 27, 621, 28, 621, 32, 621, 33, 621, 34, 621, 28, 621, 35, 621, 16, 621, 36, 618, 12, 621, 36, 622, 12, 622, 16, 622, 19, 622, 22, 622, 19, 622, 33, 622, 12, 622, 33, 614, 8, 622, 33, 623, 15, 623, 19, 623, 8, 623, 19] i
noncomputable def baseT : List Stmt := [.While (.Compare (.Subscript (.Name (Str.ofString "told") (baseP 0)) (.Constant (.int 0) 0 (baseP 1)) (baseP 2)) [.Eq] [(.Constant (.str (Str.ofString "named")) 0 (baseP 3))] (baseP 4)) [.If (.Compare (.Subscript (.Name (Str.ofString "told") (baseP 5)) (.Constant (.int 1) 0 (baseP 6)) (baseP 7)) [.NotIn] [(.Attribute (.Name (Str.ofString "self") (baseP 8)) (Str.ofString "named") (baseP 9))] (baseP 10)) [.Raise (some (.Call (.Name (Str.ofString "NameFault") (baseP 11)) [(.BinOp (.Constant (.str (Str.ofString "there is no type ")) 0 (baseP 12)) .Add (.Subscript (.Name (Str.ofString "told") (baseP 13)) (.Constant (.int 1) 0 (baseP 14)) (baseP 15)) (baseP 16))] [] (baseP 17))) none (baseP 18)] [] (baseP 19), .Assign [(.Name (Str.ofString "row") (baseP 20))] (.Subscript (.Attribute (.Name (Str.ofString "self") (baseP 21)) (Str.ofString "named") (baseP 22)) (.Subscript (.Name (Str.ofString "told") (baseP 23)) (.Constant (.int 1) 0 (baseP 24)) (baseP 25)) (baseP 26)) (baseP 27), .If (.Compare (.Attribute (.Name (Str.ofString "row") (baseP 28)) (Str.ofString "underlying") (baseP 29)) [.Is] [(.Constant .none 0 (baseP 30))] (baseP 31)) [.If (.Compare (.Attribute (.Name (Str.ofString "self") (baseP 32)) (Str.ofString "settle") (baseP 33)) [.Is] [(.Constant .none 0 (baseP 34))] (baseP 35)) [.Raise (some (.Call (.Name (Str.ofString "TypeFault") (baseP 36)) [(.BinOp (.BinOp (.Constant (.str (Str.ofString "the type ")) 0 (baseP 37)) .Add (.Subscript (.Name (Str.ofString "told") (baseP 38)) (.Constant (.int 1) 0 (baseP 39)) (baseP 40)) (baseP 41)) .Add (.Constant (.str (Str.ofString " is told by itself")) 0 (baseP 42)) (baseP 43))] [] (baseP 44))) none (baseP 45)] [] (baseP 46), .Expr (.Call (.Attribute (.Name (Str.ofString "self") (baseP 47)) (Str.ofString "settle") (baseP 48)) [(.Subscript (.Name (Str.ofString "told") (baseP 49)) (.Constant (.int 1) 0 (baseP 50)) (baseP 51))] [] (baseP 52)) (baseP 52)] [] (baseP 53), .Assign [(.Name (Str.ofString "told") (baseP 54))] (.Attribute (.Name (Str.ofString "row") (baseP 55)) (Str.ofString "underlying") (baseP 56)) (baseP 57)] [] (baseP 58), .Return (some (.Name (Str.ofString "told") (baseP 59))) (baseP 60)]
structure BaseFn (S : Fixed) (fd : FuncData) : Prop where
 fn : HandFn S [Str.ofString "self", Str.ofString "told"] baseT fd
 self : fd.scope.names.lookup (Str.ofString "self") = some .local
 told : fd.scope.names.lookup (Str.ofString "told") = some .local
 row : fd.scope.names.lookup (Str.ofString "row") = some .local
section
variable {S : Fixed} {A : Around} {env : Env} {h0 : Heap} {outer : List Env} {m : Str → Option Value} {s : Shared} {E : Value → Shared → Prop}
theorem HF.idx (F : HF S A env h0 outer m s.heap (og s)) {x : Str} {v : Value} {ds : List Dat} {k : Nat} {d : Dat} {p1 p2 p3 : Pos} {k1 : Nat} {Q : Value → Shared → Prop} (hl : env.kindOf x = some .local) (hm : m x = some v) (hd : (x == ("__debug__" : Str)) = false)
  (D : DatH S.Ω s.heap v (.tup ds)) (e : subD (.tup ds) (.int (.ofNat k)) = some d)
  (h : ∀ r s', DatH S.Ω s'.heap r d → HF S A env h0 outer m s'.heap (og s') → All s.heap s'.heap → Q r s') : wpAny S.M A (eval (.Subscript (.Name x p1) (.Constant (.int (.ofNat k)) k1 p2) p3) env) Q E s := by
 refine Subscript_ (F.load hl hm hd (wpAny_Constant_int ?_))
 refine sub_sound (s := { s with toks := s.toks + 1 }) D (.int (.ofNat k) _) e fun r h' tk D' k => h r _ D' (F.next (Up.of_all k) (F.stays.all k)) k
end
end
section
open PySem PySem.W PySem.SeqAt
open PyProof.Rows (Subscript_)
variable {κ κ' : OG}
section
variable {prog : Program} {w : World} {A : Around} {E : Value → Shared → Prop} {s : Shared} {d : Addr} {f : Str → Option Value} {x : Str} {tk : Tok}
theorem stab_notIn {Q : Value → Shared → Prop} (m : STab prog w s.heap d f) (hd : (d == sysModules) = false) (h : Q (.bool (!(f x).isSome)) { s with toks := s.toks + 1 }) : wpAny (model prog w) A (compareOp .NotIn (.str x tk) (.ref d)) Q E s := by
 show wpAny _ _ (do return .bool (!(← contains (.ref d) (.str x tk)))) Q E s
 refine wpAny_bind ?_
 unfold contains
 try with_reducible refine wpAny_holding ?_
 refine wpAny_bind (wpAny_specialOf m.typeIs slot_dict_contains.lookup ?_)
 show wpAny _ _ (if (some (Value.builtin "dict.__contains__") == some Value.none) = true then _ else _) _ E s
 rw [if_neg (by rw [beq_builtin_none]; exact Bool.false_ne_true)]
 refine wpAny_bind (wpAny_callSpecialUnlessNone?_slot (name := Str.ofString "__contains__") m.typeIs slot_dict_contains
  (wpAny_call_entry slot_dict_contains m.typeIs entry_dict_contains ?_ (args_dict_contains _ _)))
 show wpAny _ _ (PySem.dictGet d (.str x tk) >>= _) _ _ s
 refine wpAny_bind (stab_dictGet m ?_)
 induction hf : f x with
 | some v =>
  rw [hf] at h
  show wpAny _ _ (ret (.bool true)) _ _ _
  exact wpAny_pure ⟨_, rfl, wpAny_truthy_bool (wpAny_pure h)⟩
 | none =>
  rw [hf] at h
  show wpAny _ _ (Builtin.Dict.pendingKey? d (.str x tk) >>= _) _ _ _
  exact wpAny_bind (wpAny_pendingKey_other hd (wpAny_pure ⟨_, rfl, wpAny_truthy_bool (wpAny_pure h)⟩))
end
section
variable {S : Fixed} {K : Frag} {fm : Nat → Addr} {fb CC WC RC : Addr} {mk mw mr : Str → Option Value}
theorem zip2_2 {a b : Str} {u v : Value} (_hne : a ≠ b) : ([a, b].zip [u, v]).reverse.lookup b = some v := by
 show ([(b, v), (a, u)] : List (Str × Value)).lookup b = some v
 simp
theorem zip2_1 {a b : Str} {u v : Value} (hne : a ≠ b) : ([a, b].zip [u, v]).reverse.lookup a = some u := by
 show ([(b, v), (a, u)] : List (Str × Value)).lookup a = some u
 rw [List.lookup_cons, beq_eq_false_iff_ne.mpr hne]
 simp
theorem base_call (hlim : S.B0.NoLimit) (W : WorldFacts S K fm fb CC WC RC mk mw mr) (Hr : OmRef S.Ω) {o : Obj} {fd : FuncData} (ho : S.B0.get? fb = some o) (hd : o.data = .func fd) (BF : BaseFn S fd)
  {A : Around} {s : Shared} (C : CondC S 0 A s.heap (og s)) {vT : Value} {T b : Dat} (D : DatH S.Ω s.heap vT T) (hb : baseD T = some b) {Q E : Value → Shared → Prop} (P : PostE S (.val b) s.heap Q E) :
  codeAny S.M A (.call (.ref fb) ⟨[S.Ω 1, vT], []⟩) (fun r s' => match r with | .ok (.ret v) => Q v s' | .ok _ => False | .error e => E e s') s := by
 have HFn := BF.fn
 refine o_xa C.frames fun l hfr hff => ?_
 have units := C.units
 refine call_hand hlim ho hd HFn rfl C hfr fun env s₁ Q' E' hQ hE hsc _ F hall => ?_
 have kind : ∀ y, env.kindOf y = fd.scope.names.lookup y := fun y => by show env.scope.names.lookup y = _; rw [hsc]
 have lself : env.kindOf (Str.ofString "self") = some .local := by rw [kind]; exact BF.self
 have ltold : env.kindOf (Str.ofString "told") = some .local := by rw [kind]; exact BF.told
 have lrow : env.kindOf (Str.ofString "row") = some .local := by rw [kind]; exact BF.row
 have hu : (A.deeper env).units + 10 < cLine := by show A.units + 3 + 10 < cLine; lia
 refine wpAny_execs_cons (wpAny_While (code_hide fun R0 kR => codeAny_whileLoop (fun k s' => ∃ m v d, HF S (A.deeper env) env s.heap l m s'.heap (og s') ∧ m (Str.ofString "self") = some (S.Ω 1) ∧ m (Str.ofString "told") = some v ∧ DatH S.Ω s'.heap v d ∧ baseD d = some b ∧ (k = 0 → d = b)) ?_ 1
  ⟨_, vT, T, F, zip2_1 (by decide), zip2_2 (by decide), D.up (Up.of_all hall), hb, fun q => absurd q (by decide)⟩))
 intro k s' inv
 refine o_xxxaaaaa inv fun m v d F m1 m2 D hb hk => ?_
 clear inv
 refine o_xxa (baseD_inv hb) fun c r q2' hcase => ?_
 subst q2'
 refine wp_hide fun Q0 kQ E0 kE => ?_
 clear kE
 refine wpAny_isTrue_Compare1 (F.idx (k := 0) ltold m2 (by decide) D rfl fun r1 s₂ D1 F1 a1 => ?_) rfl
 refine Calls.Constant_str (k := 0) (pos := baseP 3) ?_
 have D0 : DatH S.Ω s₂.heap (.str (Str.ofString "named") s₂.toks) (.str (cS "named")) := .str _ _ (okSB_eq (by decide))
 refine cmp_sound (s := { s₂ with toks := s₂.toks + 1 }) (op := .Eq) (b := Nat.beq c (cS "named")) Hr hu D1 D0 rfl (wpAny_truthy_bool (kQ _ _ ?_))
 clear kQ Q0 E0
 rcases hcase with ⟨hn, rfl⟩ | ⟨hn, dn, rfl, rfl, rfl⟩
 ·rw [hn]
  refine wpAny_execs_nil (kR (.ok .next) _ ?_)
  refine wpAny_execs_cons (wpAny_Return_some (HF.load (s := { s₂ with toks := s₂.toks + 1 }) F1 ltold m2 (by decide) ?_))
  exact hQ (.ret v) _ (P v _ (D.up (Up.of_all a1)) ⟨F1.up, F1.stays⟩)
 ·rw [hn]
  rw [if_pos rfl]
  refine via fun Gv kv => ?_
  obtain ⟨hnf, N, row, vU, f, q1, q2, q3, q4, q5, q6, q7, q8⟩ := W.named
  refine kv ?_
  clear kv Gv
  have D2 := D.up (Up.of_all a1)
  refine wp_hide fun Q0 kQ E0 kE => ?_
  clear kE
  refine wpAny_execs_cons (wpAny_If (wpAny_isTrue_Compare1 (HF.idx (s := { s₂ with toks := s₂.toks + 1 }) F1 (k := 1) ltold m2 (by decide) D2 rfl fun r2 s₃ D3 F3 a3 => ?_) rfl))
  refine PyProof.Rows.Attribute_name (F3.load lself m1 (by decide) ?_)
  refine inst_get (W.frag.keeps F3.stays.base) (W.wld.keeps F3.stays.base) W.wldC hnf q1 rfl fun tk3 => ?_
  refine o_xxaa (datStr D3) fun y ty q2' hy oy => ?_
  subst q2'
  have hyK : Str.ofString "main.K" = y := codeS_inj (okSB_eq (by decide)) oy hy
  subst hyK
  have hmap : ∀ {h : Heap}, S.B0.StaysIn h → STab S.prog S.w h N f := fun {h} st => q3.up (Up.of_all st)
  refine stab_notIn (s := { s₃ with toks := tk3 }) (hmap F3.stays.base) q2 ?_
  rw [q4]
  refine wpAny_truthy_bool (wpAny_execs_nil ?_)
  generalize hs4 : ({ s₃ with toks := tk3 + 1 } : Shared) = s₄
  have F4 : HF S (A.deeper env) env s.heap l m s₄.heap (og s₄) := by rw [← hs4]; exact F3
  have D4 : DatH S.Ω s₄.heap v (.tup [.str c, .str (cS "main.K")]) := by rw [← hs4]; exact D2.up (Up.of_all a3)
  refine wpAny_execs_cons (wpAny_Assign_Name (hs := rfl) (Subscript_ (PyProof.Rows.Attribute_name (F4.load lself m1 (by decide) ?_))))
  refine inst_get (W.frag.keeps F4.stays.base) (W.wld.keeps F4.stays.base) W.wldC hnf q1 rfl fun tk4 => ?_
  refine HF.idx (s := { s₄ with toks := tk4 }) F4 (k := 1) ltold m2 (by decide) D4 rfl fun r5 s₅ D5 F5 a5 => ?_
  refine o_xxaa (datStr D5) fun y ty5 q2' hy oy => ?_
  subst q2'
  have hyK : Str.ofString "main.K" = y := codeS_inj (okSB_eq (by decide)) oy hy
  subst hyK
  have tab : STab S.prog S.w s₅.heap N f := hmap F5.stays.base
  refine sub_tail tab.typeIs slot_dict_getitem.lookup (stab_getItem tab q4 ?_)
  refine F5.store (s := { s₅ with toks := s₅.toks + 1 }) lrow fun h6 F6 sf6 _ => ?_
  have mrow : (fun y => if y = Str.ofString "row" then some row else m y) (Str.ofString "row") = some row := if_pos rfl
  refine wpAny_execs_cons (wpAny_If (wpAny_isTrue_Compare1 (PyProof.Rows.Attribute_name (HF.load (s := { s₅ with heap := h6, toks := s₅.toks + 1 + 1 }) F6 lrow mrow (by decide) ?_)) rfl))
  have DU : DatH S.Ω h6 vU (.tup [.str (cS "int"), .str (cS "int8")]) := q8.up (Up.of_all F6.stays.base)
  refine inst_get (W.frag.keeps F6.stays.base) (q5.keeps F6.stays.base) W.rowC q6 q7 (handed_dat Hr DU) fun tk6 => ?_
  refine wpAny_Constant_none ?_
  refine cmp_sound (s := { s₅ with heap := h6, toks := tk6 }) (op := .Is) (b := false) Hr hu DU .none rfl (wpAny_truthy_bool (wpAny_execs_nil ?_))
  refine wpAny_execs_cons (wpAny_Assign_Name (hs := rfl) (PyProof.Rows.Attribute_name (HF.load (s := { s₅ with heap := h6, toks := tk6 }) F6 lrow mrow (by decide) ?_)))
  refine inst_get (W.frag.keeps F6.stays.base) (q5.keeps F6.stays.base) W.rowC q6 q7 (handed_dat Hr DU) fun tk7 => ?_
  refine HF.store (s := { s₅ with heap := h6, toks := tk7 }) F6 ltold fun h8 F8 sf8 _ => wpAny_execs_nil ?_
  refine kQ _ _ ⟨0, ?_, _, vU, _, F8, ?_, if_pos rfl, DU.soft sf8, rfl, fun _ => rfl⟩
  ·induction k using Nat.casesAuxOn with
   | zero => exact absurd (hk rfl) (by
     intro q
     have : (.str c : Dat) = .str (cS "int") := by injection q with q; injection q
     injection this with this
     rw [this] at hn
     revert hn
     decide +kernel)
   | succ k => exact Nat.succ_pos k
  ·show (if Str.ofString "self" = Str.ofString "told" then some vU else if Str.ofString "self" = Str.ofString "row" then some row else m (Str.ofString "self")) = _
   rw [if_neg (by decide), if_neg (by decide)]
   exact m1
end
end
section
open PySem PySem.W PySem.SeqAt
variable {κ κ' : OG}
noncomputable def underP (i : Nat) : Pos := posAt [295, 11, 295, 16, 295, 11, 295, 24, 295, 25, 295, 26, 295, 11, 295, 27, 295, 4, 295, 27] i
noncomputable def underT : List Stmt := [.Return (some (.Call (.Attribute (.Name (Str.ofString "world") (underP 0)) (Str.ofString "base_of") (underP 1)) [(.Name (Str.ofString "T") (underP 2))] [] (underP 3))) (underP 4)]
structure UnderFn (S : Fixed) (fd : FuncData) : Prop where
 fn : HandFn S [Str.ofString "world", Str.ofString "T"] underT fd
 world : fd.scope.names.lookup (Str.ofString "world") = some .local
 T : fd.scope.names.lookup (Str.ofString "T") = some .local
section
variable {S : Fixed} {t : Tabs} {n : Nat} {ρ : List Dat} {out : Out} {K : Frag} {fm : Nat → Addr} {fb CC WC RC : Addr} {mk mw mr : Str → Option Value}
theorem ex_base (I : SoundE S t n) (hlim : S.B0.NoLimit) (W : WorldFacts S K fm fb CC WC RC mk mw mr) (Hr : OmRef S.Ω) {o : Obj} {fd : FuncData} (ho : S.B0.get? fb = some o) (hd : o.data = .func fd) (BF : BaseFn S fd)
  {ap p : Pos} {a b : M} (h : dBase (runT t n) ρ a b = some out) : ExOk S (n + 1) (.b (.base ap p) a b) ρ out := by
 intro A env xs s Q E hok C P
 have hok' : (okM env.scope.names xs a && okM env.scope.names xs b && (some1 b && Nat.ble (lenM b) 8 && allPlain b && Nat.beq ap.endLine p.line) && isVar a) = true := hok
 refine b_LLLnnLLLnnnnn hok' fun ha hb h2 h3 h4 h5 h6 => ?_
 clear hok'
 refine meth_rest I W (k := 1) (kk := fun ds => one ds fun T => val? (baseD T)) h ha hb h6 h2 h3 h4 h5 C W.wld W.wldC W.base.1 W.base.2.1 W.base.2.2.1 ⟨o, fd, ho, hd⟩ P.perr fun ds vs s₁ hk D K1 => wpAny_call ?_
 refine o_xa (one_inv hk) fun T q1' hk2 => ?_
 subst q1'
 refine o_xa (val?_inv hk2) fun d hdd q2' => ?_
 subst q2'
 refine o_xa D.i1 fun v q D1 => ?_
 subst q
 ·have C1 := ((C.less (Nat.zero_le _)).keep K1).call
  exact base_call hlim W Hr ho hd BF C1 D1 hdd (P.keep K1)
theorem under_call (hlim : S.B0.NoLimit) (W : WorldFacts S K fm fb CC WC RC mk mw mr) (Hr : OmRef S.Ω) {o : Obj} {fd : FuncData} (ho : S.B0.get? fb = some o) (hd : o.data = .func fd) (BF : BaseFn S fd)
  {fu : Addr} {ou : Obj} {ud : FuncData} (hou : S.B0.get? fu = some ou) (hud : ou.data = .func ud) (UF : UnderFn S ud)
  {A : Around} {s : Shared} (C : CondC S 0 A s.heap (og s)) (room : A.depth + 1 + 3 * 0 + 10 < recursionLimit) (units : A.units + 3 + 24 * 0 + 100 < cLine) {vT : Value} {T b : Dat} (D : DatH S.Ω s.heap vT T) (hb : baseD T = some b) {Q E : Value → Shared → Prop} (P : PostE S (.val b) s.heap Q E) :
  codeAny S.M A (.call (.ref fu) ⟨[S.Ω 1, vT], []⟩) (fun r s' => match r with | .ok (.ret v) => Q v s' | .ok _ => False | .error e => E e s') s := by
 have HFn := UF.fn
 have hline : ((underP 1).endLine == (underP 3).line) = true := by decide
 refine o_xa C.frames fun l hfr hff => ?_
 refine call_hand hlim hou hud HFn rfl C hfr fun env s₁ Q' E' hQ hE hsc _ F hall => ?_
 have kind : ∀ y, env.kindOf y = ud.scope.names.lookup y := fun y => by show env.scope.names.lookup y = _; rw [hsc]
 refine wpAny_execs_cons (wpAny_Return_some (method_at rfl hline rfl (by simp) (F.load (by rw [kind]; exact UF.world) (zip2_1 (by decide)) (by decide) fun pl => ?_)))
 refine inst_method (W.frag.keeps F.stays.base) (W.wld.keeps F.stays.base) W.wldC W.base.1 W.base.2.1 W.base.2.2.1 ?_
 refine Calls.callWith_function (o := o) (fd := fd) (Calls.evalArgs_plain (Calls.spliced_cons (F.load (by rw [kind]; exact UF.T) (zip2_2 (by decide)) (by decide) (Calls.spliced_nil ⟨⟨F.stays.base _ _ ho, hd⟩, ?_⟩))))
 refine wpAny_call (base_call (A := A.deeper env) hlim W Hr ho hd BF ⟨room, units, C.handled, ⟨_, F.fr, F.frames⟩, F.stays⟩ (D.up (Up.of_all hall)) hb ?_)
 exact fun v s' Dv k => hQ (.ret v) s' (P v s' Dv ⟨F.up.trans k.up, k.stays⟩)
end
end
section
set_option backward.match.sparseCases false
open PySem PySem.W PySem.SeqAt
open PyProof.Rows (Subscript_ Tuple_ List_ Assign_Tuple_swapped)
variable {κ κ' : OG}
noncomputable abbrev nm (x : String) (p : Pos) : Expr := .Name (Str.ofString x) p
noncomputable def iscP (i : Nat) : Pos := posAt [317, 4, 317, 8, 317, 10, 317, 13, 317, 4, 317, 13, 317, 18, 317, 19, 317, 17, 317, 20, 317, 22, 317, 24, 317, 16, 317, 25, 317, 4, 317, 25, 318, 10, 318, 14, 318, 18, 318, 20, 318, 10, 318, 20, 319, 8, 319, 12, 319, 15, 319, 19, 319, 15, 319, 23, 319, 15, 319, 25, 319, 8, 319, 25, 320, 11, 320, 15, 320, 19, 320, 22, 320, 11, 320, 22, 320, 8, 321, 20, 322, 8, 322, 11, 322, 8, 322, 18, 322, 19, 322, 23, 322, 8, 322, 24, 323, 8, 323, 13, 323, 16, 323, 29, 323, 30, 323, 35, 323, 37, 323, 41, 323, 16, 323, 42, 323, 8, 323, 42, 324, 11, 324, 16, 324, 17, 324, 18, 324, 11, 324, 19, 324, 24, 324, 30, 324, 32, 324, 37, 324, 39, 324, 46, 324, 48, 324, 55, 324, 57, 324, 62, 324, 23, 324, 63, 324, 11, 324, 63, 325, 19, 325, 24, 325, 12, 325, 24, 324, 8, 325, 24, 326, 11, 326, 16, 326, 17, 326, 18, 326, 11, 326, 19, 326, 23, 326, 30, 326, 11, 326, 30, 327, 12, 327, 16, 327, 12, 327, 23, 327, 24, 327, 29, 327, 30, 327, 31, 327, 24, 327, 32, 327, 12, 327, 33, 328, 13, 328, 18, 328, 19, 328, 20, 328, 13, 328, 21, 328, 25, 328, 33, 328, 13, 328, 33, 329, 12, 329, 16, 329, 12, 329, 23, 328, 8, 329, 53, 326, 8, 329, 53, 318, 4, 329, 53, 330, 11, 330, 15, 330, 4, 330, 15] i
noncomputable def iscT (b1 b2 : List Stmt) : List Stmt := [.Assign [(.Tuple [(.Name (Str.ofString "left") (iscP 0)), (.Name (Str.ofString "met") (iscP 1))] 0 (iscP 2))] (.Tuple [(.List [(.Name (Str.ofString "T") (iscP 3))] (iscP 4)), (.List [] (iscP 5))] 0 (iscP 6)) (iscP 7), .While (.Compare (.Name (Str.ofString "left") (iscP 8)) [.NotEq] [(.List [] (iscP 9))] (iscP 10)) [.Assign [(.Name (Str.ofString "here") (iscP 11))] (.Call (.Attribute (.Name (Str.ofString "left") (iscP 12)) (Str.ofString "pop") (iscP 13)) [] [] (iscP 14)) (iscP 15), .If (.Compare (.Name (Str.ofString "here") (iscP 16)) [.In] [(.Name (Str.ofString "met") (iscP 17))] (iscP 18)) b1 [] (iscP 19), .Expr (.Call (.Attribute (.Name (Str.ofString "met") (iscP 20)) (Str.ofString "append") (iscP 21)) [(.Name (Str.ofString "here") (iscP 22))] [] (iscP 23)) (iscP 23), .Assign [(.Name (Str.ofString "inner") (iscP 24))] (.Call (.Name (Str.ofString "underlying_of") (iscP 25)) [(.Name (Str.ofString "world") (iscP 26)), (.Name (Str.ofString "here") (iscP 27))] [] (iscP 28)) (iscP 29), .If (.Compare (.Subscript (.Name (Str.ofString "inner") (iscP 30)) (.Constant (.int 0) 0 (iscP 31)) (iscP 32)) [.In] [(.Tuple [(.Constant (.str (Str.ofString "func")) 0 (iscP 33)), (.Constant (.str (Str.ofString "map")) 0 (iscP 34)), (.Constant (.str (Str.ofString "slice")) 0 (iscP 35)), (.Constant (.str (Str.ofString "tuple")) 0 (iscP 36)), (.Constant (.str (Str.ofString "nil")) 0 (iscP 37))] 0 (iscP 38))] (iscP 39)) [.Return (some (.Constant (.bool false) 0 (iscP 40))) (iscP 41)] [] (iscP 42), .If (.Compare (.Subscript (.Name (Str.ofString "inner") (iscP 43)) (.Constant (.int 0) 0 (iscP 44)) (iscP 45)) [.Eq] [(.Constant (.str (Str.ofString "array")) 0 (iscP 46))] (iscP 47)) [.Expr (.Call (.Attribute (.Name (Str.ofString "left") (iscP 48)) (Str.ofString "append") (iscP 49)) [(.Subscript (.Name (Str.ofString "inner") (iscP 50)) (.Constant (.int 2) 0 (iscP 51)) (iscP 52))] [] (iscP 53)) (iscP 53)] [.If (.Compare (.Subscript (.Name (Str.ofString "inner") (iscP 54)) (.Constant (.int 0) 0 (iscP 55)) (iscP 56)) [.Eq] [(.Constant (.str (Str.ofString "struct")) 0 (iscP 57))] (iscP 58)) b2 [] (iscP 61)] (iscP 62)] [] (iscP 63), .Return (some (.Constant (.bool true) 0 (iscP 64))) (iscP 65)]
noncomputable def iscB (b1 b2 : List Stmt) : List Stmt := match iscT b1 b2 with
 | _ :: .While _ b _ _ :: _ => b
 | _ => []
structure IscFn (S : Fixed) (fd : FuncData) : Prop where
 fn : ∃ b1 b2, HandFn S [Str.ofString "world", Str.ofString "T"] (iscT b1 b2) fd
 sw : swapOk fd.scope.names [.Name (Str.ofString "left") (iscP 0), .Name (Str.ofString "met") (iscP 1)] [.List [.Name (Str.ofString "T") (iscP 3)] (iscP 4), .List [] (iscP 5)] [Str.ofString "left", Str.ofString "met"] = true
 world : fd.scope.names.lookup (Str.ofString "world") = some .local
 T : fd.scope.names.lookup (Str.ofString "T") = some .local
 left : fd.scope.names.lookup (Str.ofString "left") = some .local
 met : fd.scope.names.lookup (Str.ofString "met") = some .local
 here : fd.scope.names.lookup (Str.ofString "here") = some .local
 inner : fd.scope.names.lookup (Str.ofString "inner") = some .local
 under : fd.scope.names.lookup (Str.ofString "underlying_of") = some .globalImplicit
section
variable {S : Fixed} {A : Around} {env : Env} {h0 h h' : Heap} {outer : List Env} {m : Str → Option Value}
theorem HF.but (F : HF S A env h0 outer m h κ) {y : Addr} (k : ∀ b o, b ≠ y → h.get? b = some o → h'.get? b = some o) (hy : h0.get? y = none) (hne : env.locals ≠ y) (hl : ∀ o, h.get? y = some o → ¬ LamLike o) : HF S A env h0 outer m h' κ := by
 have hb : S.B0.get? y = none := by
  induction q : S.B0.get? y with
  | none => rfl
  | some o => have := F.ent.st0 _ _ q; rw [hy] at this; exact nn this
 refine o_xxxa F.ns fun o es ep ho r => ?_
 exact ⟨⟨o, es, ep, k _ _ hne ho, r⟩, F.ent, F.fr, up_but F.up k hy, stays_but F.stays k hb hl, F.noC, F.glob, F.blt⟩
end
theorem beq_comm_nat (a b : Nat) : Nat.beq a b = Nat.beq b a := by
 rw [Bool.eq_iff_iff]
 constructor <;> intro h <;> (rw [Nat.eq_of_beq_eq_true h]; exact Nat.beq_refl _)
theorem anyEq_strs (c : Nat) : ∀ ks : List Nat, anyEq (.str c) (ks.map .str) = some (ks.any (Nat.beq c))
 | [] => rfl
 | k :: r => by
  have h1 : anyEq (.str c) ((k :: r).map .str) = or2 (some (Nat.beq k c)) (anyEq (.str c) (r.map .str)) := rfl
  rw [h1, anyEq_strs c r, List.any_cons, beq_comm_nat k c]
  induction Nat.beq c k <;> rfl
set_option tactic.hygienic true in
theorem comparableD_inv {T d : Dat} (h : comparableD T = some d) : ∃ b c r, baseD T = some b ∧ b = .tup (.str c :: r) ∧
  (([cS "func", cS "map", cS "slice", cS "tuple", cS "nil"].any (Nat.beq c) = true ∧ d = .bool false) ∨ ([cS "func", cS "map", cS "slice", cS "tuple", cS "nil"].any (Nat.beq c) = false ∧ Nat.beq c (cS "array") = false ∧ Nat.beq c (cS "struct") = false ∧ d = .bool true)) := by
 unfold comparableD at h
 split at h
 ·rename_i b hb
  have hh : ∀ (l : List Nat) (q : Bool), headIn b l = some q → ∃ c r, b = .tup (.str c :: r) ∧ q = l.any (Nat.beq c) := fun l q e => by
   unfold headIn at e
   split at e
   ·split at e
    ·split at e
     ·exact ⟨_, _, rfl, (Option.some.inj e).symm⟩
     ·exact nn e
    ·exact nn e
   ·exact nn e
  split at h
  ·rename_i q hq
   refine o_xxa (hh _ _ hq) fun c r hbc hqc => ?_
   split at h
   ·exact ⟨b, c, r, hb, hbc, .inl ⟨hqc.symm, (Option.some.inj h).symm⟩⟩
   ·split at h
    ·rename_i q2 hq2
     refine o_xxa (hh _ _ hq2) fun c' r' hbc' hqc' => ?_
     rw [hbc] at hbc'
     cases hbc'
     split at h
     ·refine ⟨b, c, r, hb, hbc, .inr ⟨hqc.symm, ?_⟩⟩
      simp only [List.any_cons, List.any_nil, Bool.or_false] at hqc'
      have := Bool.or_eq_false_iff.mp hqc'.symm
      exact ⟨this.1, this.2, (Option.some.inj h).symm⟩
     ·exact nn h
    ·exact nn h
  ·exact nn h
 ·exact nn h
end
section
open PySem PySem.W PySem.SeqAt
open PyProof.Rows (Subscript_ Tuple_ List_ Assign_Tuple_swapped)
variable {κ κ' : OG}
theorem upd_if {x y : Str} {v : Value} {m : Str → Option Value} (h : x ≠ y) : (fun z => if z = y then some v else m z) x = m x := if_neg h
structure IscLoc (env : Env) : Prop where
 world : env.kindOf (Str.ofString "world") = some .local
 T : env.kindOf (Str.ofString "T") = some .local
 left : env.kindOf (Str.ofString "left") = some .local
 met : env.kindOf (Str.ofString "met") = some .local
 here : env.kindOf (Str.ofString "here") = some .local
 inner : env.kindOf (Str.ofString "inner") = some .local
 under : env.kindOf (Str.ofString "underlying_of") = some .globalImplicit
section
variable {S : Fixed} {K : Frag} {fm : Nat → Addr} {fb CC WC RC : Addr} {mk mw mr mg : Str → Option Value}
theorem isc_turn (hlim : S.B0.NoLimit) (hg : S.B0.Ns mainGlobals mg) (W : WorldFacts S K fm fb CC WC RC mk mw mr) (Hr : OmRef S.Ω) {o : Obj} {fd : FuncData} (ho : S.B0.get? fb = some o) (hd : o.data = .func fd) (BF : BaseFn S fd)
  {fu : Addr} {ou : Obj} {ud : FuncData} (hmu : mg (Str.ofString "underlying_of") = some (.ref fu)) (hou : S.B0.get? fu = some ou) (hud : ou.data = .func ud) (UF : UnderFn S ud)
  {A : Around} {env : Env} {h0 : Heap} {outer : List Env} {m : Str → Option Value} {s : Shared} {E : Value → Shared → Prop} (L : IscLoc env)
  (hh : A.handled = none) (room : A.depth + 1 + 10 < recursionLimit) (units : A.units + 3 + 100 < cLine) {vT : Value} {T : Dat} {c : Nat} {rr : List Dat} {r : Dat} (D : DatH S.Ω h0 vT T) (hb : baseD T = some (.tup (.str c :: rr)))
  (hcase : ([cS "func", cS "map", cS "slice", cS "tuple", cS "nil"].any (Nat.beq c) = true ∧ r = .bool false) ∨ ([cS "func", cS "map", cS "slice", cS "tuple", cS "nil"].any (Nat.beq c) = false ∧ Nat.beq c (cS "array") = false ∧ Nat.beq c (cS "struct") = false ∧ r = .bool true))
  (F : HF S A env h0 outer m s.heap (og s)) {Lf Mt : Addr} (nL : h0.get? Lf = none) (nM : h0.get? Mt = none) (hLM : Lf ≠ Mt) (hLe : env.locals ≠ Lf) (hMe : env.locals ≠ Mt) (gL : IsL s.heap Lf #[vT] 0) (gM : IsL s.heap Mt #[] 0)
  (m1 : m (Str.ofString "world") = some (S.Ω 1)) (m3 : m (Str.ofString "left") = some (.ref Lf)) (m4 : m (Str.ofString "met") = some (.ref Mt))
  {b1 b2 : List Stmt} {Q : Flow → Shared → Prop}
  (stop : ∀ s', r = .bool false → Up h0 s'.heap → Stays S s'.heap (og s') → Q (.ret (.bool false)) s')
  (on : ∀ s' m', r = .bool true → HF S A env h0 outer m' s'.heap (og s') → m' (Str.ofString "left") = some (.ref Lf) → s'.heap.IsList Lf #[] → Q .next s') :
  wpAny S.M A (execs (iscB b1 b2) env) Q E s := by
 have ln1 : ((iscP 13).endLine == (iscP 14).line) = true := by decide
 have ln2 : ((iscP 21).endLine == (iscP 23).line) = true := by decide
 have hu : A.units + 10 < cLine := by lia
 refine wpAny_execs_cons (wpAny_Assign_Name (hs := rfl) (method_at rfl ln1 rfl (by simp) (F.load L.left m3 (by decide) fun pl => ?_)))
 refine PyProof.Rows.getMethod_list_of PySem.F.slot_list_pop PySem.F.type_list_pop (items := #[vT]) ⟨_, gL, rfl, 0, rfl⟩ ⟨_, gL, rfl⟩ ?_
 refine P.pop_list gL (y := vT) rfl ?_ (hsz := by rw [sizeLine_eq]; simp)
 obtain ⟨h1, hh1⟩ : ∃ h1, s.heap.update Lf (Obj.mapSeq fun xs => xs.eraseIdxIfInBounds (#[vT].size - 1)) = h1 := ⟨_, rfl⟩
 rw [hh1]
 have k1 : ∀ b o, b ≠ Lf → s.heap.get? b = some o → h1.get? b = some o := fun b o hb e => by rw [← hh1]; exact (Heap.get?_update_other _ _ (Ne.symm hb)).trans e
 have gL1 : h1.IsList Lf #[] := by
  have := gL.update fun xs => xs.eraseIdxIfInBounds (#[vT].size - 1)
  rw [hh1] at this
  exact ⟨_, this, rfl, 1, by simp⟩
 have F1 : HF S A env h0 outer m h1 (og s) := F.but k1 nL hLe (list_lam ⟨_, gL, rfl, 0, rfl⟩)
 have gM1 : IsL h1 Mt #[] 0 := k1 _ _ (Ne.symm hLM) gM
 refine HF.store (s := { s with heap := h1 }) F1 L.here fun h2 F2 sf2 sb2 => ?_
 have gM2 : IsL h2 Mt #[] 0 := (sb2.2 _ (Ne.symm hMe)).trans gM1
 have gL2 : h2.IsList Lf #[] := by obtain ⟨o, g1, g2⟩ := gL1; exact ⟨o, (sb2.2 _ (Ne.symm hLe)).trans g1, g2⟩
 generalize hm2 : (fun y => if y = Str.ofString "here" then some vT else m y) = m2 at F2
 have n1 : m2 (Str.ofString "world") = some (S.Ω 1) := by rw [← hm2]; exact (upd_if (by decide)).trans m1
 have n3 : m2 (Str.ofString "left") = some (.ref Lf) := by rw [← hm2]; exact (upd_if (by decide)).trans m3
 have n4 : m2 (Str.ofString "met") = some (.ref Mt) := by rw [← hm2]; exact (upd_if (by decide)).trans m4
 have n5 : m2 (Str.ofString "here") = some vT := by rw [← hm2]; exact if_pos rfl
 refine wpAny_execs_cons (wpAny_If (wpAny_isTrue_Compare1 (HF.load (s := { s with heap := h2, toks := s.toks + 1 }) F2 L.here n5 (by decide) (HF.load (s := { s with heap := h2, toks := s.toks + 1 }) F2 L.met n4 (by decide) ?_)) rfl))
 have DM : DatH S.Ω h2 (.ref Mt) (.list []) := .list (vs := []) ⟨_, gM2, rfl, 0, rfl⟩ .nil
 refine cmp_sound (s := { s with heap := h2, toks := s.toks + 1 }) (op := .In) (b := false) Hr hu (D.up F2.up) DM rfl (wpAny_truthy_bool (wpAny_execs_nil ?_))
 refine wpAny_execs_cons (wpAny_Expr (hi := by unfold interactive; rw [F.ent.kind]; rfl) (hs := rfl) (method_at rfl ln2 rfl (by simp) (HF.load (s := { s with heap := h2, toks := s.toks + 1 }) F2 L.met n4 (by decide) fun pl => ?_)))
 refine PyProof.Rows.getMethod_list_of PySem.F.slot_list_append PySem.F.type_list_append (items := #[]) ⟨_, gM2, rfl, 0, rfl⟩ ⟨_, gM2, rfl⟩ ?_
 refine Calls.callWith_builtin rfl (Calls.evalArgs_plain (Calls.spliced_cons (HF.load (s := { s with heap := h2, toks := s.toks + 1 }) F2 L.here n5 (by decide) (Calls.spliced_nil ?_))))
 refine wpAny_list_append (items := #[]) ⟨_, gM2, rfl, 0, rfl⟩ (fun h3 hL3 hs3 => ?_) (by rw [sizeLine_eq]; simp)
 have k3 : ∀ b o, b ≠ Mt → h2.get? b = some o → h3.get? b = some o := fun b o hb e => (hs3.2 b hb).trans e
 have F3 : HF S A env h0 outer m2 h3 (og s) := F2.but k3 nM hMe (list_lam ⟨_, gM2, rfl, 0, rfl⟩)
 have gL3 : h3.IsList Lf #[] := by obtain ⟨o, g1, g2⟩ := gL2; exact ⟨o, k3 _ _ hLM g1, g2⟩
 refine wpAny_execs_cons (wpAny_Assign_Name (hs := rfl) (wpAny_Call_ofName (HF.top (s := { s with heap := h3, toks := s.toks + 1 }) F3 hg L.under hmu (by decide) ?_)))
 refine Calls.callWith_function (o := ou) (fd := ud) (Calls.evalArgs_plain (Calls.spliced_cons (HF.load (s := { s with heap := h3, toks := s.toks + 1 }) F3 L.world n1 (by decide) (Calls.spliced_cons (HF.load (s := { s with heap := h3, toks := s.toks + 1 }) F3 L.here n5 (by decide) (Calls.spliced_nil ⟨⟨F3.stays.base _ _ hou, hud⟩, ?_⟩))))))
 refine wpAny_call (under_call hlim W Hr ho hd BF hou hud UF ⟨by (exact Nat.le_of_lt ‹_›), by lia, hh, ⟨_, F3.fr, F3.frames⟩, F3.stays⟩ (by omega) (by omega) (D.up F3.up) hb fun vb s4 Db K4 => ?_)
 have F4 := F3.keep K4
 have gL4 := up_isList K4.up gL3
 refine HF.store (s := s4) F4 L.inner fun h5 F5 sf5 sb5 => ?_
 have gL5 : h5.IsList Lf #[] := by obtain ⟨o, g1, g2⟩ := gL4; exact ⟨o, (sb5.2 _ (Ne.symm hLe)).trans g1, g2⟩
 have Db5 : DatH S.Ω h5 vb (.tup (.str c :: rr)) := Db.soft sf5
 generalize hm5 : (fun y => if y = Str.ofString "inner" then some vb else m2 y) = m5 at F5
 have o3 : m5 (Str.ofString "left") = some (.ref Lf) := by rw [← hm5]; exact (upd_if (by decide)).trans n3
 have o6 : m5 (Str.ofString "inner") = some vb := by rw [← hm5]; exact if_pos rfl
 generalize hs5 : ({ s4 with heap := h5, toks := s4.toks + 1 } : Shared) = s5
 have F5' : HF S A env h0 outer m5 s5.heap (og s5) := by rw [← hs5]; exact F5
 have Db5' : DatH S.Ω s5.heap vb (.tup (.str c :: rr)) := by rw [← hs5]; exact Db5
 have gL5' : s5.heap.IsList Lf #[] := by rw [← hs5]; exact gL5
 refine wpAny_execs_cons (wpAny_If (wpAny_isTrue_Compare1 (F5'.idx (k := 0) L.inner o6 (by decide) Db5' rfl fun r6 s6 D6 F6 a6 => ?_) rfl))
 refine Tuple_ (Calls.spliced_cons (Calls.Constant_str (k := 0) (pos := iscP 33) (Calls.spliced_cons (Calls.Constant_str (k := 0) (pos := iscP 34) (Calls.spliced_cons (Calls.Constant_str (k := 0) (pos := iscP 35) (Calls.spliced_cons (Calls.Constant_str (k := 0) (pos := iscP 36) (Calls.spliced_cons (Calls.Constant_str (k := 0) (pos := iscP 37) (Calls.spliced_nil ?_)))))))))))
 refine wpAny_newTuple ?_ (hsz := by show (5 : Nat) ≤ 2 ^ 24; (simp_all +arith))
 generalize hs7 : ({ s6 with heap := s6.heap.push { cls := .type "tuple", data := .seq [Value.str (Str.ofString "func") s6.toks, Value.str (Str.ofString "map") (s6.toks + 1), Value.str (Str.ofString "slice") (s6.toks + 1 + 1), Value.str (Str.ofString "tuple") (s6.toks + 1 + 1 + 1), Value.str (Str.ofString "nil") (s6.toks + 1 + 1 + 1 + 1)].toArray }, toks := s6.toks + 1 + 1 + 1 + 1 + 1 } : Shared) = s7
 have a7 : All s6.heap s7.heap := by rw [← hs7]; exact All.push _ _
 have DT : DatH S.Ω s7.heap (.ref s6.heap.objs.size) (.tup ([cS "func", cS "map", cS "slice", cS "tuple", cS "nil"].map .str)) := by
  rw [← hs7]
  exact .tup (push_tuple rfl rfl) (.cons (.str _ _ (okSB_eq (by decide))) (.cons (.str _ _ (okSB_eq (by decide))) (.cons (.str _ _ (okSB_eq (by decide))) (.cons (.str _ _ (okSB_eq (by decide))) (.cons (.str _ _ (okSB_eq (by decide))) .nil)))))
 have o7 : og s7 = og s6 := by rw [← hs7]
 have F7 : HF S A env h0 outer m5 s7.heap (og s7) := by rw [o7]; exact F6.next (Up.of_all a7) (F6.stays.all a7)
 refine cmp_sound (op := .In) (b := [cS "func", cS "map", cS "slice", cS "tuple", cS "nil"].any (Nat.beq c)) Hr hu (D6.up (Up.of_all a7)) DT (show anyEq (.str c) ([cS "func", cS "map", cS "slice", cS "tuple", cS "nil"].map .str) = _ from anyEq_strs c _) (wpAny_truthy_bool ?_)
 rcases hcase with ⟨hq, rfl⟩ | ⟨hq, ha, hst, rfl⟩
 ·rw [hq]
  exact wpAny_execs_cons (wpAny_Return_some (wpAny_Constant_bool (stop s7 rfl F7.up F7.stays)))
 ·rw [hq]
  refine wpAny_execs_nil ?_
  have gL7 : s7.heap.IsList Lf #[] := by obtain ⟨o, g1, g2⟩ := gL5'; exact ⟨o, a7 _ _ (a6 _ _ g1), g2⟩
  have Db7 : DatH S.Ω s7.heap vb (.tup (.str c :: rr)) := Db5'.up (Up.of_all fun b o e => a7 _ _ (a6 _ _ e))
  refine wpAny_execs_cons (wpAny_If (wpAny_isTrue_Compare1 (F7.idx (k := 0) L.inner o6 (by decide) Db7 rfl fun r8 s8 D8 F8 a8 => Calls.Constant_str (k := 0) (pos := iscP 46) ?_) rfl))
  refine cmp_sound (s := { s8 with toks := s8.toks + 1 }) (op := .Eq) (b := Nat.beq c (cS "array")) Hr hu D8 (.str _ _ (okSB_eq (by decide))) rfl (wpAny_truthy_bool ?_)
  rw [ha]
  refine wpAny_execs_cons (wpAny_If (wpAny_isTrue_Compare1 (HF.idx (s := { s8 with toks := s8.toks + 1 }) F8 (k := 0) L.inner o6 (by decide) (Db7.up (Up.of_all a8)) rfl fun r9 s9 D9 F9 a9 => Calls.Constant_str (k := 0) (pos := iscP 57) ?_) rfl))
  refine cmp_sound (s := { s9 with toks := s9.toks + 1 }) (op := .Eq) (b := Nat.beq c (cS "struct")) Hr hu D9 (.str _ _ (okSB_eq (by decide))) rfl (wpAny_truthy_bool ?_)
  rw [hst]
  refine wpAny_execs_nil (wpAny_execs_nil (wpAny_execs_nil ?_))
  exact on _ m5 rfl F9 o3 (by obtain ⟨o, g1, g2⟩ := gL7; exact ⟨o, a9 _ _ (a8 _ _ g1), g2⟩)
end
end
section
open PySem PySem.W PySem.SeqAt
open PyProof.Rows (Subscript_ Tuple_ List_ Assign_Tuple_swapped)
variable {κ κ' : OG}
section
variable {S : Fixed} {A : Around} {env : Env} {s : Shared} {E : Value → Shared → Prop} {h0 : Heap} {outer : List Env} {m : Str → Option Value}
theorem new_list {vs : List Value} {Q : Value → Shared → Prop} (hz : vs.length ≤ 4)
  (h : ∀ h' L, All s.heap h' → s.heap.get? L = none → IsL h' L vs.toArray 0 → Q (.ref L) { s with heap := h' }) : wpAny S.M A (newList vs) Q E s :=
 wpAny_newList (h _ _ (All.push _ _) (Heap.get?_none_of_le (Nat.le_refl _)) (Heap.get?_push_size _ rfl)) (hsz := by show vs.length ≤ 2 ^ 24; (exact Nat.le_trans ‹_› (by decide)))
theorem new_tuple {vs : List Value} {Q : Value → Shared → Prop} (hz : vs.length ≤ 4)
  (h : ∀ h' L, All s.heap h' → h'.IsTuple L vs.toArray → Q (.ref L) { s with heap := h' }) : wpAny S.M A (newTuple vs) Q E s :=
 wpAny_newTuple (h _ _ (All.push _ _) (push_tuple rfl rfl)) (hsz := by show vs.length ≤ 2 ^ 24; (exact Nat.le_trans ‹_› (by decide)))
theorem isc_lists (F : HF S A env h0 outer m s.heap (og s)) (L : IscLoc env) {vT : Value} (m2 : m (Str.ofString "T") = some vT) {Q : Value → Shared → Prop}
  (h : ∀ h' Lf Mt t, All s.heap h' → s.heap.get? Lf = none → s.heap.get? Mt = none → Lf ≠ Mt → IsL h' Lf #[vT] 0 → IsL h' Mt #[] 0 → h'.IsTuple t [Value.ref Lf, Value.ref Mt].toArray → Q (.ref t) { s with heap := h' }) :
  wpAny S.M A (eval (.Tuple [.List [nm "T" (iscP 3)] (iscP 4), .List [] (iscP 5)] 0 (iscP 6)) env) Q E s := by
 refine Tuple_ (Calls.spliced_cons (List_ (Calls.spliced_cons (F.load L.T m2 (by decide) (Calls.spliced_nil ?_)))))
 refine new_list (by simp) fun h2 Lf a2 nL gL2 => ?_
 refine Calls.spliced_cons (List_ (Calls.spliced_nil ?_))
 refine new_list (s := { s with heap := h2 }) (by simp) fun h3 Mt a3 nM2 gM3 => Calls.spliced_nil ?_
 refine new_tuple (s := { s with heap := h3 }) (by simp) fun h4 t a4 hT4 => ?_
 have nM : s.heap.get? Mt = none := by
  induction q : s.heap.get? Mt with
  | none => rfl
  | some o => have := a2 _ _ q; rw [show h2.get? Mt = none from nM2] at this; exact nn this
 have hLM : Lf ≠ Mt := fun q => by
  have g : h2.get? Mt = some _ := q ▸ gL2
  rw [show h2.get? Mt = none from nM2] at g
  exact nn g
 exact h h4 Lf Mt t (fun b o hb => a4 _ _ (a3 _ _ (a2 _ _ hb))) nL nM hLM (a4 _ _ (a3 _ _ gL2)) (a4 _ _ gM3) hT4
theorem isc_stores (F : HF S A env h0 outer m s.heap (og s)) (L : IscLoc env) {Lf Mt : Addr} {Q : Unit → Shared → Prop}
  (h : ∀ s', HF S A env h0 outer (fun y => if y = Str.ofString "left" then some (.ref Lf) else if y = Str.ofString "met" then some (.ref Mt) else m y) s'.heap (og s') → (∀ y o, env.locals ≠ y → s.heap.get? y = some o → s'.heap.get? y = some o) → Q () s') :
  wpAny S.M A (assignInOrder [fun v => bindName env (Str.ofString "met") v, fun v => bindName env (Str.ofString "left") v] [.ref Mt, .ref Lf]) Q E s := by
 show wpAny S.M A (do holding _ (bindName env (Str.ofString "met") (.ref Mt)); assignInOrder [fun v => bindName env (Str.ofString "left") v] [.ref Lf]) _ _ _
 refine wpAny_bind (wpAny_holding (wpAny_bindName (HF.store F L.met fun h6 F6 _ sb6 => ?_)))
 show wpAny S.M A (do holding _ (bindName env (Str.ofString "left") (.ref Lf)); assignInOrder [] []) _ _ _
 refine wpAny_bind (wpAny_holding (wpAny_bindName (HF.store (s := { s with heap := h6, toks := s.toks + 1 }) F6 L.left fun h7 F7 _ sb7 => wpAny_pure ?_)))
 exact h _ F7 fun y o hn e => (sb7.2 _ (Ne.symm hn)).trans ((sb6.2 _ (Ne.symm hn)).trans e)
theorem isc_sole {env : Env} : swapsWithSole [.Tuple [nm "left" (iscP 0), nm "met" (iscP 1)] 0 (iscP 2)] (.Tuple [.List [nm "T" (iscP 3)] (iscP 4), .List [] (iscP 5)] 0 (iscP 6)) (iscP 7).line env = pure false := rfl
theorem isc_unpack (hh : A.handled = none) {t : Addr} {a b : Value} (hT : s.heap.IsTuple t [a, b].toArray) {Q : List Value → Shared → Prop} (h : ∀ h', (∀ b o, b ≠ s.heap.objs.size → s.heap.get? b = some o → h'.get? b = some o) → Q [a, b] { s with heap := h' }) :
  wpAny S.M A (unpackItems (.ref t) 2 none) Q E s := by
 have e : (2 : Nat) = [a, b].toArray.size := by simp
 rw [e]
 exact wpAny_unpackItems_tuple hh hT fun h' he => h h' he
theorem isc_start (F : HF S A env h0 outer m s.heap (og s)) (a0 : All h0 s.heap) (L : IscLoc env) (hh : A.handled = none) {vT : Value} (m2 : m (Str.ofString "T") = some vT) (m1 : m (Str.ofString "world") = some (S.Ω 1))
  (sw : swapOk env.scope.names [nm "left" (iscP 0), nm "met" (iscP 1)] [.List [nm "T" (iscP 3)] (iscP 4), .List [] (iscP 5)] [Str.ofString "left", Str.ofString "met"] = true) {Q : Flow → Shared → Prop}
  (h : ∀ s' m' Lf Mt, HF S A env h0 outer m' s'.heap (og s') → h0.get? Lf = none → h0.get? Mt = none → Lf ≠ Mt → env.locals ≠ Lf → env.locals ≠ Mt → IsL s'.heap Lf #[vT] 0 → IsL s'.heap Mt #[] 0 → m' (Str.ofString "world") = some (S.Ω 1) → m' (Str.ofString "left") = some (.ref Lf) →
   m' (Str.ofString "met") = some (.ref Mt) → Q .next s') :
  wpAny S.M A (exec (.Assign [.Tuple [nm "left" (iscP 0), nm "met" (iscP 1)] 0 (iscP 2)] (.Tuple [.List [nm "T" (iscP 3)] (iscP 4), .List [] (iscP 5)] 0 (iscP 6)) (iscP 7)) env) Q E s := by
 have bk : env.blockKind = .function := by unfold Env.blockKind; rw [F.ent.kind]; rfl
 refine Assign_Tuple_swapped (names := [Str.ofString "left", Str.ofString "met"]) (hs := isc_sole) (hw := swap_eq bk sw) (isc_lists F L m2 fun h4 Lf Mt t a4 nL nM hLM gL gM hT => ?_)
 refine isc_unpack (s := { s with heap := h4 }) hh hT fun h5 he => ?_
 have a5 : All h4 h5 := fun b o hb => he b o (Nat.ne_of_lt (Heap.lt_size hb)) hb
 have a05 : All s.heap h5 := fun b o hb => a5 _ _ (a4 _ _ hb)
 have F5 : HF S A env h0 outer m h5 (og s) := F.next (Up.of_all a05) (F.stays.all a05)
 have hne : ∀ y, s.heap.get? y = none → env.locals ≠ y := fun y hy q => by
  refine o_xxxa F.ns fun o es ep ho _ => ?_
  rw [q, hy] at ho
  exact nn ho
 have n0 : ∀ y, s.heap.get? y = none → h0.get? y = none := fun y hy => by
  induction q : h0.get? y with
  | none => rfl
  | some o => have := a0 _ _ q; rw [hy] at this; exact nn this
 refine isc_stores (s := { s with heap := h5 }) F5 L fun s6 F6 tr => ?_
 refine h _ _ Lf Mt F6 (n0 _ nL) (n0 _ nM) hLM (hne _ nL) (hne _ nM) (tr _ _ (hne _ nL) (a5 _ _ gL)) (tr _ _ (hne _ nM) (a5 _ _ gM)) ?_ (if_pos rfl) ?_
 ·exact (if_neg (by decide)).trans ((if_neg (by decide)).trans m1)
 ·exact (if_neg (by decide)).trans (if_pos rfl)
end
end
section
open PySem PySem.W PySem.SeqAt
open PyProof.Rows (List_)
variable {κ κ' : OG}
section
variable {S : Fixed} {K : Frag} {fm : Nat → Addr} {fb CC WC RC : Addr} {mk mw mr mg : Str → Option Value}
theorem isc_test {A : Around} {env : Env} {h0 : Heap} {outer : List Env} {m : Str → Option Value} {s : Shared} {E : Value → Shared → Prop} (Hr : OmRef S.Ω) (F : HF S A env h0 outer m s.heap (og s)) (L : IscLoc env) (hu : A.units + 10 < cLine) {Lf : Addr} (m3 : m (Str.ofString "left") = some (.ref Lf))
  {ds : List Dat} (D : DatH S.Ω s.heap (.ref Lf) (.list ds)) {Q : Bool → Shared → Prop} (h : ∀ s', HF S A env h0 outer m s'.heap (og s') → All s.heap s'.heap → Q (!ds.isEmpty) s') :
  wpAny S.M A (isTrue (.Compare (nm "left" (iscP 8)) [.NotEq] [.List [] (iscP 9)] (iscP 10)) env (eval (.Compare (nm "left" (iscP 8)) [.NotEq] [.List [] (iscP 9)] (iscP 10)) env)) Q E s := by
 refine wpAny_isTrue_Compare1 (F.load L.left m3 (by decide) (List_ (Calls.spliced_nil (new_list (by simp) fun h2 Z a2 nZ gZ => ?_)))) rfl
 have D2 : DatH S.Ω h2 (.ref Z) (.list []) := .list (vs := []) ⟨_, gZ, rfl, 0, rfl⟩ .nil
 refine cmp_sound (s := { s with heap := h2 }) (op := .NotEq) (b := !ds.isEmpty) Hr hu (D.up (Up.of_all a2)) D2 (by induction ds using List.casesOn <;> rfl) (wpAny_truthy_bool ?_)
 exact h _ (F.next (Up.of_all a2) (F.stays.all a2)) a2
theorem is_comparable_call (hlim : S.B0.NoLimit) (hg : S.B0.Ns mainGlobals mg) (W : WorldFacts S K fm fb CC WC RC mk mw mr) (Hr : OmRef S.Ω) {o : Obj} {fd : FuncData} (ho : S.B0.get? fb = some o) (hd : o.data = .func fd) (BF : BaseFn S fd)
  {fu : Addr} {ou : Obj} {ud : FuncData} (hmu : mg (Str.ofString "underlying_of") = some (.ref fu)) (hou : S.B0.get? fu = some ou) (hud : ou.data = .func ud) (UF : UnderFn S ud)
  {fi : Addr} {oi : Obj} {id : FuncData} (hoi : S.B0.get? fi = some oi) (hid : oi.data = .func id) (IF : IscFn S id)
  {A : Around} {s : Shared} (C : CondC S 0 A s.heap (og s)) (room : A.depth + 2 + 10 < recursionLimit) (units : A.units + 6 + 100 < cLine) {vT : Value} {T r : Dat} (D : DatH S.Ω s.heap vT T) (hr : comparableD T = some r) {Q E : Value → Shared → Prop} (P : PostE S (.val r) s.heap Q E) :
  codeAny S.M A (.call (.ref fi) ⟨[S.Ω 1, vT], []⟩) (fun r s' => match r with | .ok (.ret v) => Q v s' | .ok _ => False | .error e => E e s') s := by
 refine o_xxxaa (comparableD_inv hr) fun b c rr hb q4' hcase => ?_
 subst q4'
 refine o_xx IF.fn fun b1 b2 HFn => ?_
 refine o_xa C.frames fun l hfr hff => ?_
 refine call_hand hlim hoi hid HFn rfl C hfr fun env s₁ Q' E' hQ hE hsc _ F hall => ?_
 have kind : ∀ y, env.kindOf y = id.scope.names.lookup y := fun y => by show env.scope.names.lookup y = _; rw [hsc]
 have L : IscLoc env := ⟨by rw [kind]; exact IF.world, by rw [kind]; exact IF.T, by rw [kind]; exact IF.left, by rw [kind]; exact IF.met, by rw [kind]; exact IF.here, by rw [kind]; exact IF.inner, by rw [kind]; exact IF.under⟩
 have hu : (A.deeper env).units + 10 < cLine := by show A.units + 3 + 10 < cLine; lia
 refine wpAny_execs_cons (isc_start F hall L C.handled (zip2_2 (by decide)) (zip2_1 (by decide)) (by rw [hsc]; exact IF.sw) fun s2 m2 Lf Mt F2 nL nM hLM hLe hMe gL gM q1 q2 q3 => ?_)
 refine wpAny_execs_cons (wpAny_While (codeAny_whileLoop (fun k s' => (k = 1 ∧ s' = s2) ∨ (k = 0 ∧ r = .bool true ∧ ∃ m', HF S (A.deeper env) env s.heap l m' s'.heap (og s') ∧ m' (Str.ofString "left") = some (.ref Lf) ∧ s'.heap.IsList Lf #[])) ?_ 1 (.inl ⟨rfl, rfl⟩)))
 rintro k s' (⟨rfl, rfl⟩ | ⟨rfl, rfl, m', F', q2', gL'⟩)
 ·have DL : DatH S.Ω s'.heap (.ref Lf) (.list [T]) := .list (vs := [vT]) ⟨_, gL, rfl, 0, rfl⟩ (.cons (D.up F2.up) .nil)
  refine isc_test Hr F2 L hu q2 DL fun s3 F3 a3 => ?_
  rw [if_pos (by rfl)]
  refine isc_turn (b1 := b1) (b2 := b2) (A := A.deeper env) hlim hg W Hr ho hd BF hmu hou hud UF L C.handled (by show A.depth + 1 + 1 + 10 < recursionLimit; omega) (by show A.units + 3 + 3 + 100 < cLine; omega) D hb hcase F3 nL nM hLM hLe hMe (a3 _ _ gL) (a3 _ _ gM) q1 q2 q3 (fun s4 hrf u st => ?_) (fun s4 m4 hrt F4 q4 g4 => ⟨0, Nat.zero_lt_one, .inr ⟨rfl, hrt, m4, F4, q4, g4⟩⟩)
  subst hrf
  exact hQ (.ret _) s4 (P _ s4 (.bool false) ⟨u, st⟩)
 ·have DL : DatH S.Ω s'.heap (.ref Lf) (.list []) := .list (vs := []) gL' .nil
  refine isc_test Hr F' L hu q2' DL fun s3 F3 a3 => ?_
  rw [if_neg (by decide)]
  refine wpAny_execs_nil ?_
  exact wpAny_execs_cons (wpAny_Return_some (wpAny_Constant_bool (hQ (.ret _) s3 (P _ s3 (.bool true) ⟨F3.up, F3.stays⟩))))
end
end
section
open PySem PySem.W PySem.SeqAt
variable {κ κ' : OG}
theorem iscR_inv {ds : List Dat} {out : Out} (h : iscR ds = some out) : ∃ T d, ds = [.obj 1, T] ∧ comparableD T = some d ∧ out = .val d := by
 induction ds using List.casesOn with
 | nil => exact nn h
 | cons a r => induction a using Dat.casesOn with
  | obj k => induction r using List.casesOn with
   | nil => exact nn h
   | cons T r => induction r using List.casesOn with
    | nil =>
     rcases iteO_inv h with ⟨hk, h3⟩ | ⟨_, h3⟩
     ·refine o_xa (val?_inv h3) fun d hd q2' => ?_
      exact ⟨T, d, by rw [Nat.eq_of_beq_eq_true hk], hd, q2'⟩
     ·exact nn h3
    | cons _ _ => exact nn h
  | _ => exact nn h
structure IscFacts (S : Fixed) (fb : Addr) (mg : Str → Option Value) : Prop where
 base : ∃ o fd, S.B0.get? fb = some o ∧ o.data = .func fd ∧ BaseFn S fd
 under : ∃ fu o fd, mg (Str.ofString "underlying_of") = some (.ref fu) ∧ S.B0.get? fu = some o ∧ o.data = .func fd ∧ UnderFn S fd
 isc : ∃ fi o fd, mg (Str.ofString "is_comparable") = some (.ref fi) ∧ S.B0.get? fi = some o ∧ o.data = .func fd ∧ IscFn S fd
section
variable {S : Fixed} {t : Tabs} {n : Nat} {ρ : List Dat} {out : Out} {fa : Nat → Addr} {K : Frag} {fm : Nat → Addr} {fb CC WC RC : Addr} {mk mw mr mg mb : Str → Option Value}
theorem ex_isc (I : SoundE S t n) (G : Globs S t fa mg mb) (W : WorldFacts S K fm fb CC WC RC mk mw mr) (Hr : OmRef S.Ω) (IF : IscFacts S fb mg) {np p : Pos} {a : M} (h : uIsc (runT t n) ρ a = some out) : ExOk S (n + 1) (.u (.isc np p) a) ρ out := by
 intro A env xs s Q E hok C P
 have hok' : (okM env.scope.names xs a && (okGlob env.scope.names (Str.ofString "is_comparable") && some1 a)) = true := hok
 simp only [Bool.and_eq_true] at hok'
 refine o_aa hok' fun ha h1 h3 => ?_
 clear hok'
 refine o_xxaa IF.base fun o fd ho hd BF => ?_
 refine o_xxxaaa IF.under fun fu ou ud hmu hou hud UF => ?_
 refine o_xxxaaa IF.isc fun fi oi id hmi hoi hid IFn => ?_
 have C' := C.less (Nat.le_succ n)
 have r1 := C.room
 have r2 := C.units
 refine wpAny_Call_ofName (name_top G C h1 hmi (Calls.callWith_function (o := oi) (fd := id) ?_))
 refine args_at I h h3 ha C' P.perr fun ds vs s₁ hk D K1 => ?_
 refine o_xxaa (iscR_inv hk) fun T d q2' hT q4' => ?_
 subst q2'
 subst q4'
 refine ⟨⟨K1.stays.base _ _ hoi, hid⟩, wpAny_call ?_⟩
 refine o_xxaa D.i2 fun v w q D1 D2 => ?_
 subst q
 obtain rfl := D1.io
 ···exact is_comparable_call G.lim G.g W Hr ho hd BF hmu hou hud UF hoi hid IFn ((C.less (Nat.zero_le _)).keep K1).call (by lia) (by lia) D2 hT (P.keep K1)
end
end
section
open PySem PySem.W PySem.SeqAt
variable {κ κ' : OG}
structure AllF (S : Fixed) (t : Tabs) (fa fm : Nat → Addr) (K : Frag) (fI fb CC WC RC : Addr) (mg mb mk mw mr : Str → Option Value) : Prop where
 G : Globs S t fa mg mb
 B : Blts mg mb
 rng : mg (Str.ofString "range") = none ∧ mb (Str.ofString "range") = some (.type "range")
 X : ExcFacts S K fI mg mb
 CF : CatchFacts S K
 W : WorldFacts S K fm fb CC WC RC mk mw mr
 IF : IscFacts S fb mg
 L : LamFacts S mg
 Hr : OmRef S.Ω
 bits : TabIs S mg (Str.ofString "BITS") bitsKs bitsVs
 dflt : TabIs S mg (Str.ofString "UNTYPED_DEFAULTS") dfltKs dfltVs
 tried : ∃ ft o fd, mg (Str.ofString "_law_tried") = some (.ref ft) ∧ S.B0.get? ft = some o ∧ o.data = .func fd ∧ TriedFn S fd
 known : ∃ ft o fd, mg (Str.ofString "known_const") = some (.ref ft) ∧ S.B0.get? ft = some o ∧ o.data = .func fd ∧ KnownFn S fd
 fns : ∀ k, k < cx0.fns.length → ∃ o fd, S.B0.get? (fa k) = some o ∧ o.data = .func fd ∧ (FnOk S (t.fns k) fd ∨ FnOkC S (t.fns k) fd)
 meths : ∀ k, k < cx0.meths.length → ∃ o fd, S.B0.get? (fm k) = some o ∧ o.data = .func fd ∧ (FnOk S (t.meths k) fd ∨ FnOkC S (t.meths k) fd)
section
variable {S : Fixed} {t : Tabs} {n : Nat} {fa fm : Nat → Addr} {K : Frag} {fI fb CC WC RC : Addr} {mg mb mk mw mr : Str → Option Value}
theorem ex_all (F : AllF S t fa fm K fI fb CC WC RC mg mb mk mw mr) (I : ∀ k, k ≤ n → SoundE S t k) (C : CallsOk S t fa n) (Mm : MethsOk S t fm n) (m : M) (ρ : List Dat) (out : Out) (h : runT t (n + 1) (.ex m) ρ = some out) : ExOk S (n + 1) m ρ out := by
 have I0 := I n (Nat.le_refl _)
 have LV := leaves_all F.X.isX
 induction m using M.casesOn with
 | nil => exact nn h
 | cons e r => exact nn h
 | lit c k p => exact ex_lit h
 | var i x p => exact ex_var h
 | gl i x p => exact ex_gl F.G h
 | raw e => exact nn h
 | rawS e => exact nn h
 | u o a =>
  induction o with
  | tup k p => exact ex_tup I0 h
  | lst p => exact ex_lst I0 h
  | not p => exact ex_not I0 h
  | neg p => exact ex_neg I0 h
  | bools op p => induction op with
   | And => exact ex_and I0 h
   | Or => exact ex_or I0 h
  | world p => exact ex_world I0 F.W F.Hr h
  | isi T np tp p => exact ex_isi I0 F.G F.B h
  | bi f np p => exact ex_bi_all I0 F.G F.B h
  | isc np p => exact ex_isc I0 F.G F.W F.Hr F.IF h
  | call k x np p => exact ex_call I0 C F.G h
  | lt k x g sc np p lp mp cp =>
   refine o_xxxaaa F.tried fun ft o fd h1 h2 h3 h4 => ?_
   exact ex_lt F.L LV F.X F.CF F.Hr F.G I0 h1 h2 h3 h4 h
  | gbits np p => exact ex_gbits I0 F.G F.bits h
  | gdflt np p => exact ex_gdflt I0 F.G F.dflt h
  | crng k x sc xp rp cp np nk p => exact ex_comps F.L.list I0 F.G F.rng.1 F.rng.2 rfl h
  | _ => exact nn h
 | b o a b =>
  induction o with
  | bin op p => exact ex_bin I0 h
  | cmp op p => exact ex_cmp I0 F.Hr h
  | idx p => exact ex_idx I0 h
  | base ap p =>
   refine o_xxaa F.IF.base fun o fd h1 h2 h3 => ?_
   exact ex_base I0 F.G.lim F.W F.Hr h1 h2 h3 h
  | meth k x ap p => exact ex_meth I0 Mm F.W h
  | cnt ap p => exact ex_cnt I h
  | cutTo sp p => exact ex_cutTo I0 h
  | cutFrom sp p => exact ex_cutFrom I0 h
  | kc k x g sc np p lp mp cp =>
   refine o_xxxaaa F.known fun ft o fd h1 h2 h3 h4 => ?_
   exact ex_kc F.L LV F.X F.CF F.G I0 h1 h2 h3 h4 h
  | comp x sc xp p => exact ex_comps F.L.list I0 F.G F.rng.1 F.rng.2 rfl h
  | _ => exact nn h
 | c o a b c =>
  induction o with
  | cmp2 op op' p => exact ex_cmp2 I0 F.Hr h
  | ite p => exact ex_ite I0 h
  | compIf x sc xp p => exact ex_comps F.L.list I0 F.G F.rng.1 F.rng.2 rfl h
  | dix dp p => exact ex_dix I h
  | dget dp ap p => exact ex_dget ⟨_, F.G.g⟩ I h
  | _ => exact nn h
theorem st_all (F : AllF S t fa fm K fI fb CC WC RC mg mb mk mw mr) (I : ∀ k, k ≤ n → SoundE S t k) (J : ∀ k, k ≤ n → SoundS S t k) (m : M) (ρ : List Dat) (out : Out) (h : runT t (n + 1) (.st m) ρ = some out) :
  StOk S (n + 1) (toS m) (fun sc xs => okSt sc xs m) ρ out := by
 have I0 := I n (Nat.le_refl _)
 have J0 := J n (Nat.le_refl _)
 induction m using M.casesOn with
 | nil => exact nn h
 | cons e r => exact nn h
 | lit c k p => exact nn h
 | var i x p => exact nn h
 | gl i x p => exact nn h
 | raw e => exact nn h
 | rawS e => exact nn h
 | u o a =>
  induction o with
  | asg i x xp p =>
   induction hn : noComp a with
   | true => exact st_asg I0 hn h
   | false =>
    intro A env xs s h0 outer Q E hok T P
    have hok' : (at? xs i x && isLocal (env.scope.names.lookup x) && !(env.scope.names.lookup x == some .free) && (noComp a || okUse env.scope.names x xp a) && okM env.scope.names xs a) = true := hok
    rw [hn] at hok'
    simp only [Bool.and_eq_true, Bool.false_or] at hok'
    exact one_stmt (st_asg_use F.L.list I F.G F.rng.1 F.rng.2 h hok'.1.1.1.1 hok'.1.2 hok'.2 T P)
  | ret p => exact st_ret I0 h
  | exs p => exact st_exs I0 h
  | rais k x np cp p => exact st_rais I0 F.G F.X h
  | _ => exact nn h
 | b o a b =>
  induction o with
  | unp k xp p => exact st_unp I0 h
  | rng i x k xp rp cp np p nk => exact st_rng F.G J F.rng.1 F.rng.2 h
  | lapp i x xp lp ap np tp cp ep =>
   intro A env xs s h0 outer Q E hok T P
   exact st_lapp I0 h hok T P
  | _ => exact nn h
 | c o a b c =>
  induction o with
  | ifs p => exact st_ifs I0 J0 h
  | for_ i x xp p => exact st_for I0 J h
  | lets i x xp dp ap np sp cp ip =>
   intro A env xs s h0 outer Q E hok T P
   induction c using M.casesOn with
   | cons u v =>
    induction v using M.casesOn with
    | cons k w =>
     have hok' : (okDisp a b && okM env.scope.names xs b && okM env.scope.names xs u && okM env.scope.names xs k && okSt env.scope.names xs w && at? xs i x && (env.scope.names.lookup x == some .local) && plainName x) = true := hok
     simp only [Bool.and_eq_true, beq_iff_eq] at hok'
     refine via fun Gv kv => ?_
     obtain ⟨⟨⟨⟨⟨⟨⟨a1, a2⟩, a3⟩, a4⟩, a5⟩, a6⟩, a7⟩, a8⟩ := hok'
     refine kv ?_
     clear kv Gv
     exact st_lets I J0 F.Hr a1 h a2 a3 a4 a5 a7 (plainName_eq a8).1 (at?_eq a6) T P
    | _ => exact ft hok
   | _ => exact ft hok
  | _ => exact nn h
theorem zero_e : SoundE S t 0 := ⟨fun _ _ _ h => (by exact nn h), fun _ _ _ h => (by exact nn h), fun _ _ _ h => (by exact nn h)⟩
theorem zero_s : SoundS S t 0 := ⟨fun _ _ _ h => (by exact nn h), fun _ _ _ h => (by exact nn h)⟩
theorem sound (F : AllF S t fa fm K fI fb CC WC RC mg mb mk mw mr) : ∀ n, (∀ k, k ≤ n → SoundE S t k) ∧ (∀ k, k ≤ n → SoundS S t k) ∧ CallsOk S t fa n ∧ MethsOk S t fm n := by
 have LV := leaves_all F.X.isX
 intro n
 induction n with
 | zero =>
  refine ⟨fun k hk => ?_, fun k hk => ?_, fun _ _ _ _ _ h => (by exact nn h), fun _ _ _ _ _ h => (by exact nn h)⟩
  ·rw [Nat.le_zero.mp hk]; exact zero_e
  ·rw [Nat.le_zero.mp hk]; exact zero_s
 | succ n ih =>
  refine o_aaa ih fun I J C Mm => ?_
  clear ih
  have E1 : SoundE S t (n + 1) := ⟨fun m ρ out h => ex_all F I C Mm m ρ out h, fun m ρ out h => xs_all (I n (Nat.le_refl _)) h, fun m ρ out h => te_at (I n (Nat.le_refl _)) (fun k hk => I k (Nat.le_of_lt hk)) F.Hr h⟩
  have S1 : SoundS S t (n + 1) := ⟨fun m ρ out h => st_all F I J m ρ out h, fun m ρ out h => sts_all (J n (Nat.le_refl _)) h⟩
  refine ⟨fun k hk => ?_, fun k hk => ?_, fun k ds ρ out hk h => ?_, fun k ds ρ out hk h => ?_⟩
  ·rcases Nat.le_succ_iff.mp hk with q | q
   ·exact I k q
   ·rw [q]; exact E1
  ·rcases Nat.le_succ_iff.mp hk with q | q
   ·exact J k q
   ·rw [q]; exact S1
  ·obtain ⟨o, fd, h1, h2, h3 | h3⟩ := F.fns k hk
   ·exact call_plain (J n (Nat.le_refl _)) LV F.G.lim h1 h2 h3 h
   ·exact call_cells (J n (Nat.le_refl _)) LV F.G.lim h1 h2 h3 h
  ·obtain ⟨o, fd, h1, h2, h3 | h3⟩ := F.meths k hk
   ·exact call_plain (J n (Nat.le_refl _)) LV F.G.lim h1 h2 h3 h
   ·exact call_cells (J n (Nat.le_refl _)) LV F.G.lim h1 h2 h3 h
end
end
section
open PySem PySem.W PySem.Calls PySem.Builtin PySem.Builtin.ObjectAttr
variable {κ κ' : OG}
section
variable {prog : Program} {w : World} {A : Around} {E : Value → Shared → Prop} {s : Shared} {K : Frag} {C x dx : Addr} {name : Str} {v : Value}
noncomputable def setsIn (K : Frag) (C : Addr) : Bool := plainOver K C && findIn K (.ref C) "__setattr__" == some (some (.builtin "object.__setattr__")) && (clsIn K C).any (·.hasDict)
theorem inst_set {Q : Unit → Shared → Prop} {mA : Str → Option Value} {ns : List Str} (X : K.In s.heap) (e : setsIn K C = true) (hx : s.heap.get? x = some (instObj C dx)) (hne : dx ≠ x) (hns : s.heap.Ns1 dx mA) (hw : Within mA ns) (hsz : ns.length ≤ 64) (ht : takerIn K C name = some none)
  (hQ : ∀ h' tk, h'.Ns1 dx (fun y => if y = name then some v else mA y) → Heap.SameBut dx s.heap h' → Q () { s with heap := h', toks := tk }) :
  wpAny (model prog w) A (setAttr (.ref x) name v) Q E s := by
 unfold setsIn at e
 simp only [Bool.and_eq_true, beq_iff_eq] at e
 obtain ⟨⟨e1, e2⟩, e3⟩ := e
 refine o_xa (any_some e3) fun cd hcd hdict => ?_
 refine o_xxxa hns fun oD0 es0 ep0 ho0 r0 => ?_
 clear hns
 have I : InstAt s.heap x (instObj C dx) C (some oD0) := ⟨hx, rfl, rfl, ho0⟩
 refine set_plain X I e2 ?_
 refine via fun Gv kv => ?_
 obtain ⟨hh, g, d, t, os⟩ := s
 refine kv ?_
 clear kv Gv
 dsimp only at X hx hQ I ho0 ⊢
 refine osa_open (s := ⟨hh, g, d, t + 1, os⟩) X I e1 ht fun b => ?_
 show wpAny _ _ (storeInOwnDict (.ref x) (.ref C) (.str name t) name v b) _ _ _
 refine wpAny_bind (wpAny_pure (wpAny_bind (wpAny_bind (wpAny_loadPart (s := ⟨hh, g, d, t + 1, os⟩) hx (wpAny_bind ((looks_clsIn X hcd).at ?_))))))
 rw [hdict]
 refine wpAny_pure (a := some dx) ?_
 show wpAny _ _ (storeInDict dx (.str name t) name v) _ _ _
 unfold storeInDict newKeyGuard
 refine wpAny_bind (wpAny_pure (wpAny_bind (wpAny_nsSet1 (s := ⟨hh, g, d, t + 1, os⟩) ⟨oD0, es0, ep0, ho0, r0⟩ fun h' hn' hs => ?_)))
 refine o_xxxaa (hn'.count (Within.cons name v hw)) fun oD esD epD hoD hdD hcD => ?_
 refine wpAny_bind (wpAny_lookBehind hoD (by rw [hdD]; exact pastItsLine_dict (Nat.le_trans hcD (by rw [List.length_cons, sizeLine_eq]; (exact Nat.lt_of_le_of_lt ‹_› (by decide))))) ?_)
 exact wpAny_pure (hQ h' _ hn' hs)
end
section
variable {S : Fixed}
theorem call_hand2 (hlim : S.B0.NoLimit) {ps : List Str} {body : List Stmt} {fa : Addr} {o : Obj} {fd : FuncData} (ho : S.B0.get? fa = some o) (hd : o.data = .func fd) (F : HandFn S ps body fd) {A : Around} {s : Shared} {vs vs' : List Value} {Q E : Value → Shared → Prop}
  (hbind : BindsTo s fd ⟨vs, []⟩ (ps.zip vs')) (room : A.depth < recursionLimit) {outer : List Env} (hout : A.frames = some outer) {b : Heap} (hb : All b s.heap) (stb : S.B0.StaysIn b) (hff : b.FunFrames S.B0 outer) (st : Stays S s.heap (og s))
  (walk : ∀ (env : Env) (s₁ : Shared) (Q' : Flow → Shared → Prop) (E' : Value → Shared → Prop), (∀ fl s', Q (match fl with | .ret v => v | _ => .none) s' → Q' fl s') → env.scope = fd.scope → HF S (A.deeper env) env b outer (fun x => (ps.zip vs').reverse.lookup x) s₁.heap (og s₁) → All s.heap s₁.heap → s.heap.get? env.locals = none →
   wpAny S.M (A.deeper env) (execs body env) Q' E' s₁) :
  codeAny S.M A (.call (.ref fa) ⟨vs, []⟩) (fun r s' => match r with | .ok (.ret v) => Q v s' | .ok _ => False | .error e => E e s') s := by
 have hno : ∀ x, (callEnv fd s.heap.objs.size fa).kindOf x ≠ some .cell := fun x e => (F.no _ (lookup_mem e)).1 rfl
 refine codeAny_call_def room (st.base _ _ ho) hd (hlim.keeps st.base) (F.code.keeps st.base) F.body hbind (fun x hx => (F.no x hx).1) (fun x hx => F.loc x.1 (List.of_mem_zip hx).1)
  (fun h₀ hns hall => ?_) F.co F.gen F.kind
 have st0 : Stays S h₀ (og s) := st.all hall
 have hfresh : s.heap.get? s.heap.objs.size = none := Heap.get?_none_of_le (Nat.le_refl _)
 have hbn : b.get? s.heap.objs.size = none := by
  induction q : b.get? s.heap.objs.size with
  | none => rfl
  | some o => have := hb _ _ q; rw [hfresh] at this; exact nn this
 have ent : Ent S (callEnv fd s.heap.objs.size fa) b outer := ⟨stb, hbn, fun y c e => absurd e (hno y), hff, rfl, F.kind⟩
 exact walk (callEnv fd s.heap.objs.size fa) { s with heap := h₀, toks := s.toks + (ps.zip vs').length } _ _ (fun _ _ h => h) rfl ⟨hns, ent, by show A.frames.map _ = _; rw [hout]; rfl, Up.of_all fun b' o e => hall _ _ (hb _ _ e), st0, hno, F.glob, F.blt⟩ hall hfresh
theorem make_plain {K : Frag} {C fI : Addr} {A : Around} {s : Shared} {rest : List Value} {Q E : Value → Shared → Prop} (X : K.In s.heap) (hm : makesIn K C = true) (hi : findIn K (.ref C) "__init__" = some (some (.ref fI))) (hf : typeIn K (.ref fI) = some (.type "function"))
  (h : ∀ h' x dx, All s.heap h' → s.heap.get? x = none → s.heap.get? dx = none → dx ≠ x → h'.get? x = some (instObj C dx) → h'.Ns1 dx (fun _ => none) →
   codeAny S.M (A.under (.builtin "type.__call__" ⟨.ref C :: rest, []⟩)) (.call (.ref fI) ⟨.ref x :: rest, []⟩) (fun r s' => match r with | .ok (.ret v) => v = .none ∧ Q (.ref x) s' | .ok _ => False | .error e => E e s') { s with heap := h' }) :
  wpAny S.M A (call (.ref C) rest) Q E s := by
 refine via fun Gv kv => ?_
 obtain ⟨hh, g, d, t, os⟩ := s
 refine kv ?_
 clear kv Gv
 refine wpAny_call (make_core (makes_of X hm) (looks_findIn X hi) (fun self => bind_fn X self hf) (.inl rfl) ?_)
 have k : All hh ((hh.push emptyDict).push (instObj C hh.objs.size)) := fun b o e => Heap.get?_push_of_some _ (Heap.get?_push_of_some _ e)
 have hx : ((hh.push emptyDict).push (instObj C hh.objs.size)).get? (hh.objs.size + 1) = some (instObj C hh.objs.size) := by heap_get
 have hd : ((hh.push emptyDict).push (instObj C hh.objs.size)).get? hh.objs.size = some emptyDict := by heap_get
 have hns : ((hh.push emptyDict).push (instObj C hh.objs.size)).Ns1 hh.objs.size (fun _ => none) := Heap.Ns1.of_empty ⟨_, #[], _, hd, rfl, fun e he => absurd he (by simp), fun _ => rfl⟩
 refine codeAny_mono (h _ (hh.objs.size + 1) hh.objs.size k (Heap.get?_none_of_le (Nat.le_succ _)) (Heap.get?_none_of_le (Nat.le_refl _)) (Nat.ne_of_lt (Nat.lt_succ_self _)) hx hns) fun r s' z => ?_
 rcases r with e | (v | _ | _ | _) <;> first | exact z | exact z.elim | skip
end
end
section
set_option backward.match.sparseCases false
open PySem PySem.W PySem.SeqAt
open PyProof.Rows (Tuple_ List_)
variable {κ κ' : OG}
noncomputable def litC : Const → Option Dat
 | .none => some .none
 | .bool b => some (.bool b)
 | .int i => some (.int i)
 | .str x => match okSB x with
  | true => some (.str (codeS x))
  | false => none
 | _ => none
noncomputable def litsL (f : Expr → Option Dat) : List Expr → Option (List Dat)
 | [] => some []
 | e :: r => match f e with
  | some d => match litsL f r with
   | some ds => some (d :: ds)
   | none => none
  | none => none
noncomputable def litD : Nat → Expr → Option Dat
 | 0, _ => none
 | n + 1, e => match e with
  | .Constant c _ _ => litC c
  | .Tuple es _ _ => match Nat.ble es.length 64 with
   | true => match litsL (litD n) es with
    | some ds => some (.tup ds)
    | none => none
   | false => none
  | _ => none
structure AllS (s s' : Shared) : Prop where
 all : All s.heap s'.heap
 og : og s' = og s
theorem AllS.trans {a b c : Shared} (x : AllS a b) (y : AllS b c) : AllS a c := ⟨fun q o e => y.all _ _ (x.all _ _ e), y.og.trans x.og⟩
theorem AllS.refl (s : Shared) : AllS s s := ⟨fun _ _ e => e, rfl⟩
theorem Stays.allS {S : Fixed} {s s' : Shared} (x : Stays S s.heap (Mine.og s)) (k : AllS s s') : Stays S s'.heap (Mine.og s') := by rw [k.og]; exact x.all k.all
theorem HF.allS {S : Fixed} {A : Around} {env : Env} {h0 : Heap} {outer : List Env} {m : Str → Option Value} {s s' : Shared} (F : HF S A env h0 outer m s.heap (og s)) (k : AllS s s') : HF S A env h0 outer m s'.heap (og s') := F.next (Up.of_all k.all) (F.stays.allS k)
section
variable {S : Fixed} {A : Around} {env : Env} {E : Value → Shared → Prop}
theorem lit_star {n : Nat} {e : Expr} {d : Dat} (h : litD n e = some d) (rest : List Expr) : starEach (e :: rest) env = (false, eval e env) :: starEach rest env := by
 induction n using Nat.casesAuxOn with
 | zero => exact nn h
 | succ n => induction e using Expr.casesOn <;> first | rfl | exact nn h
set_option tactic.hygienic true in
theorem litC_eval {c : Const} {k : Nat} {p : Pos} {d : Dat} {s : Shared} {Q : Value → Shared → Prop} (h : litC c = some d) (q : ∀ v s', DatH S.Ω s'.heap v d → AllS s s' → Q v s') : wpAny S.M A (eval (.Constant c k p) env) Q E s := by
 unfold litC at h
 split at h
 ·obtain rfl := si h; exact wpAny_Constant_none (q _ _ .none (.refl _))
 ·obtain rfl := si h; exact wpAny_Constant_bool (q _ _ (.bool _) (.refl _))
 ·obtain rfl := si h; exact wpAny_Constant_int (q _ { s with toks := s.toks + 1 } (.int _ _) ⟨fun _ _ e => e, rfl⟩)
 ·split at h
  ·rename_i hx
   obtain rfl := si h
   exact Calls.Constant_str (q _ { s with toks := s.toks + 1 } (.str _ _ (okSB_eq hx)) ⟨fun _ _ e => e, rfl⟩)
  ·exact nn h
 ·exact nn h
noncomputable def LitOk (S : Fixed) (A : Around) (env : Env) (E : Value → Shared → Prop) (f : Expr → Option Dat) : Prop := ∀ (e : Expr) (d : Dat) (s : Shared) (Q : Value → Shared → Prop), f e = some d → (∀ v s', DatH S.Ω s'.heap v d → AllS s s' → Q v s') → wpAny S.M A (eval e env) Q E s
theorem lits_eval {n : Nat} (I : LitOk S A env E (litD n)) : ∀ (es : List Expr) (p : Pos) (ds : List Dat) (s : Shared) (Q : List Value → Shared → Prop), litsL (litD n) es = some ds → (∀ vs s', DatsH S.Ω s'.heap vs ds → AllS s s' → vs.length = es.length → Q vs s') →
  wpAny S.M A (spliced (backTo p (starEach es env))) Q E s
 | [], p, ds, s, Q, h, q => by
  obtain rfl := si h
  exact Calls.spliced_nil (q [] s .nil (.refl _) rfl)
 | e :: r, p, ds, s, Q, h, q => by
  unfold litsL at h
  induction hd : litD n e with
  | none => rw [hd] at h; exact nn h
  | some d =>
   rw [hd] at h
   dsimp only at h
   induction hr : litsL (litD n) r with
   | none => rw [hr] at h; exact nn h
   | some ds' =>
    rw [hr] at h
    obtain rfl := si h
    refine wpAny_items_cons (he := lit_star hd r) (I e d s _ hd fun v s₁ D k1 => ?_)
    refine lits_eval I r p ds' s₁ _ hr fun vs s₂ D2 k2 hl => ?_
    exact q (v :: vs) s₂ (.cons (D.up (Up.of_all k2.all)) D2) (k1.trans k2) (by rw [List.length_cons, hl, List.length_cons])
theorem lit_eval : ∀ n, LitOk S A env E (litD n)
 | 0 => fun _ _ _ _ h _ => by exact nn h
 | n + 1 => fun e d s Q h q => by
  induction e using Expr.casesOn with
  | Constant c k p => exact litC_eval h q
  | Tuple es k p =>
   have h' : (match Nat.ble es.length 64 with | true => (match litsL (litD n) es with | some ds => some (Dat.tup ds) | none => none) | false => none) = some d := h
   induction hz : Nat.ble es.length 64 with
   | false => rw [hz] at h'; exact nn h'
   | true =>
    rw [hz] at h'
    dsimp only at h'
    induction hr : litsL (litD n) es with
    | none => rw [hr] at h'; exact nn h'
    | some ds =>
     rw [hr] at h'
     obtain rfl := si h'
     refine Tuple_ (lits_eval (lit_eval n) es p ds s _ hr fun vs s₁ D k1 hl => ?_)
     have k2 := All.push s₁.heap { cls := .type "tuple", data := .seq vs.toArray }
     exact wpAny_newTuple (q _ _ (.tup (push_tuple rfl rfl) (D.up (Up.of_all k2))) ⟨fun b o e => k2 _ _ (k1.all _ _ e), k1.og⟩) (hsz := by have := Nat.le_of_ble_eq_true hz; show vs.length ≤ 2 ^ 24; lia)
  | _ => exact nn h
end
end
section
set_option backward.match.sparseCases false
open PySem PySem.W PySem.SeqAt
open PyProof.Rows (Tuple_ List_)
variable {κ κ' : OG}
structure MkAt (S : Fixed) (A : Around) (env : Env) (h0 : Heap) (outer : List Env) (m : Str → Option Value) (C x dx : Addr) (mA : Str → Option Value) (ns : List Str) (h : Heap) (κ : OG) : Prop where
 hf : HF S A env h0 outer m h κ
 hx : h.get? x = some (instObj C dx)
 ne : dx ≠ x
 own : h.Ns1 dx mA
 within : Within mA ns
 fresh : h0.get? dx = none
 loc : env.locals ≠ dx
theorem ns1_ns {h : Heap} {a : Addr} {m : Str → Option Value} (x : h.Ns1 a m) : h.Ns a m := x.ns
noncomputable def nameE : Expr → Option Str
 | .Name x _ => some x
 | _ => none
theorem nameE_eq {e : Expr} {x : Str} (h : nameE e = some x) : ∃ p, e = .Name x p := by
 induction e using Expr.casesOn with
 | Name y p => exact ⟨p, congrArg (Expr.Name · p) (si h)⟩
 | _ => exact nn h
noncomputable def isNoneE : Expr → Bool
 | .Constant c _ _ => (match c with | .none => true | _ => false)
 | _ => false
theorem isNoneE_eq {e : Expr} (h : isNoneE e = true) : ∃ k p, e = .Constant .none k p := by
 induction e using Expr.casesOn with
 | Constant c k p => induction c using Const.casesOn with
  | none => exact ⟨k, p, rfl⟩
  | _ => exact ft h
 | _ => exact ft h
noncomputable def isIs1 : List CmpOp → Bool
 | [] => false
 | o :: r => r.isEmpty && (match o with | .Is => true | _ => false)
theorem isIs1_eq {l : List CmpOp} (h : isIs1 l = true) : l = [.Is] := by
 induction l using List.casesOn with
 | nil => exact ft h
 | cons o r =>
  refine b_Lnn (show (r.isEmpty && _) = true from h) fun h1 h2 => ?_
  rw [List.isEmpty_iff.mp h1]
  induction o with
  | Is => rfl
  | _ => exact ft h2
noncomputable def isNone1 : List Expr → Bool
 | [] => false
 | e :: r => r.isEmpty && isNoneE e
theorem isNone1_eq {l : List Expr} (h : isNone1 l = true) : ∃ k p, l = [.Constant .none k p] := by
 induction l using List.casesOn with
 | nil => exact ft h
 | cons e r =>
  refine b_Lnn (show (r.isEmpty && _) = true from h) fun h1 h2 => ?_
  obtain ⟨k, p, e1⟩ := isNoneE_eq h2
  exact ⟨k, p, by rw [List.isEmpty_iff.mp h1, e1]⟩
noncomputable def testE : Expr → Option Str
 | .Compare a ops es _ => (match isIs1 ops && isNone1 es with | true => nameE a | false => none)
 | _ => none
theorem testE_eq {e : Expr} {x : Str} (h : testE e = some x) : ∃ p1 k2 p2 p3, e = .Compare (.Name x p1) [.Is] [.Constant .none k2 p2] p3 := by
 induction e using Expr.casesOn with
 | Compare a ops es p =>
  have h' : (match isIs1 ops && isNone1 es with | true => nameE a | false => none) = some x := h
  induction hb : isIs1 ops && isNone1 es with
  | false => rw [hb] at h'; exact nn h'
  | true =>
   rw [hb] at h'
   refine b_Lnn hb fun h1 h2 => ?_
   obtain ⟨p1, e1⟩ := nameE_eq h'
   obtain ⟨k, p2, e2⟩ := isNone1_eq h2
   exact ⟨p1, k, p2, p, by rw [e1, isIs1_eq h1, e2]⟩
 | _ => exact nn h
noncomputable def isDict0 : Expr → Bool
 | .Dict ks vs _ => ks.isEmpty && vs.isEmpty
 | _ => false
theorem isDict0_eq {e : Expr} (h : isDict0 e = true) : ∃ p, e = .Dict [] [] p := by
 induction e using Expr.casesOn with
 | Dict ks vs p =>
  refine b_Lnn (show (ks.isEmpty && vs.isEmpty) = true from h) fun h1 h2 => ?_
  exact ⟨p, by rw [List.isEmpty_iff.mp h1, List.isEmpty_iff.mp h2]⟩
 | _ => exact ft h
noncomputable def nameIn (sc : Sc) (l : List Str) (y : Str) : Bool := (sc.lookup y == some .local) && l.contains y && plainName y
noncomputable def initE (sc : Sc) (ps zs : List Str) : Expr → Bool
 | .Constant c _ _ => (litC c).isSome
 | .Name x _ => nameIn sc ps x
 | .Dict ks vs _ => ks.isEmpty && vs.isEmpty
 | .List es _ => es.isEmpty
 | .Tuple es _ _ => es.isEmpty
 | .IfExp t a _ _ => isDict0 a && (testE t).any (nameIn sc zs)
 | _ => false
noncomputable def attrE : Expr → Option (Str × Str)
 | .Attribute v nm _ => (nameE v).map fun x => (x, nm)
 | _ => none
theorem attrE_eq {e : Expr} {x nm : Str} (h : attrE e = some (x, nm)) : ∃ p q, e = .Attribute (.Name x p) nm q := by
 induction e using Expr.casesOn with
 | Attribute v nm' q =>
  obtain ⟨y, e1, e2⟩ := Option.map_eq_some_iff.mp (show (nameE v).map (fun x => (x, nm')) = some (x, nm) from h)
  obtain ⟨p, e3⟩ := nameE_eq e1
  exact ⟨p, q, by rw [e3, (Prod.mk.inj e2).1, (Prod.mk.inj e2).2]⟩
 | _ => exact nn h
noncomputable def attr1 : List Expr → Option (Str × Str)
 | [] => none
 | e :: r => (match r with | [] => attrE e | _ :: _ => none)
noncomputable def initName (sc : Sc) (ps zs : List Str) (self : Str) : Stmt → Option Str
 | .Assign ts e _ => (attr1 ts).bind fun q => (match Fast.sEq q.1 self && initE sc ps zs e with
  | true => some q.2
  | false => none)
 | _ => none
theorem initName_inv {sc : Sc} {ps zs : List Str} {self nm : Str} {st : Stmt} (h : initName sc ps zs self st = some nm) : ∃ p1 p2 ex p3, st = .Assign [.Attribute (.Name self p1) nm p2] ex p3 ∧ initE sc ps zs ex = true := by
 induction st using Stmt.casesOn with
 | Assign ts e p =>
  obtain ⟨⟨x, nm'⟩, h1, h2⟩ := Option.bind_eq_some_iff.mp (show (attr1 ts).bind _ = some nm from h)
  have h2' : (match Fast.sEq x self && initE sc ps zs e with | true => some nm' | false => none) = some nm := h2
  induction hb : Fast.sEq x self && initE sc ps zs e with
  | false => rw [hb] at h2'; exact nn h2'
  | true =>
   rw [hb] at h2'
   refine b_Lnn hb fun g1 g2 => ?_
   induction ts using List.casesOn with
   | nil => exact nn h1
   | cons a r => induction r using List.casesOn with
    | nil =>
     obtain ⟨p1, p2, e1⟩ := attrE_eq h1
     exact ⟨p1, p2, e, p, by rw [e1, Fast.sEq_iff.mp g1, si h2'], g2⟩
    | cons _ _ => exact nn h1
 | _ => exact nn h
section
variable {S : Fixed} {A : Around} {env : Env} {s : Shared} {E : Value → Shared → Prop} {h0 : Heap} {outer : List Env} {m : Str → Option Value} {K : Frag} {C x dx : Addr} {mA : Str → Option Value} {ns : List Str}
theorem MkAt.all {h h' : Heap} (M : MkAt S A env h0 outer m C x dx mA ns h κ) (k : All h h') : MkAt S A env h0 outer m C x dx mA ns h' κ := by
 refine o_xxxa M.own fun o es ep ho r => ?_
 exact ⟨M.hf.next (Up.of_all k) (M.hf.stays.all k), k _ _ M.hx, M.ne, ⟨o, es, ep, k _ _ ho, r⟩, M.within, M.fresh, M.loc⟩
theorem MkAt.allS {s s' : Shared} (M : MkAt S A env h0 outer m C x dx mA ns s.heap (og s)) (k : AllS s s') : MkAt S A env h0 outer m C x dx mA ns s'.heap (og s') := by rw [k.og]; exact M.all k.all
theorem set_line (X : K.In S.B0) (e : setsIn K C = true) (M : MkAt S A env h0 outer m C x dx mA ns s.heap (og s)) (hsz : ns.length ≤ 64) {name self : Str} (ht : takerIn K C name = some none) (hself : env.kindOf self = some .local) (mself : m self = some (.ref x)) (hsd : (self == ("__debug__" : Str)) = false)
  {ex : Expr} {p1 p2 p3 : Pos} {P : Value → Heap → Prop} {Q : Flow → Shared → Prop} (hP : ∀ v h h', P v h → (∀ b o, b ≠ dx → h.get? b = some o → h'.get? b = some o) → P v h') (hs : swapsWith ex (some (.Attribute (.Name self p1) name p2)) p3.line env = pure false)
  (ev : ∀ R : Value → Shared → Prop, (∀ v s₁, P v s₁.heap → AllS s s₁ → R v s₁) → wpAny S.M A (eval ex env) R E s)
  (next : ∀ v s', P v s'.heap → MkAt S A env h0 outer m C x dx (fun y => if y = name then some v else mA y) (name :: ns) s'.heap (og s') → (∀ b o, b ≠ dx → s.heap.get? b = some o → s'.heap.get? b = some o) → Q .next s') :
  wpAny S.M A (exec (.Assign [.Attribute (.Name self p1) name p2] ex p3) env) Q E s := by
 refine plainObj_wpAny_Assign_Attribute (ev _ fun v s₁ hv k1 => ?_) hs
 have M1 := M.allS k1
 refine M1.hf.load hself mself hsd ?_
 refine inst_set (X.keeps M1.hf.stays.base) e M1.hx M.ne M1.own M.within hsz ht fun h2 tk hn hs2 => ?_
 have k2 : ∀ b o, b ≠ dx → s₁.heap.get? b = some o → h2.get? b = some o := fun b o hb q => (hs2.2 b hb).trans q
 refine next v _ (hP v _ _ hv k2) ⟨M1.hf.but k2 M.fresh M.loc (ns_lam (ns1_ns M1.own)), k2 _ _ (Ne.symm M.ne) M1.hx, M.ne, hn, Within.cons name v M.within, M.fresh, M.loc⟩ fun b o hb q => k2 b o hb (k1.all _ _ q)
set_option tactic.hygienic true in
theorem nameIn_inv {sc : Sc} {l : List Str} {y : Str} (h : nameIn sc l y = true) : sc.lookup y = some .local ∧ y ∈ l ∧ (y == ("__debug__" : Str)) = false := by
 have h' : ((sc.lookup y == some .local) && l.contains y && plainName y) = true := h
 simp only [Bool.and_eq_true, beq_iff_eq] at h'
 exact ⟨h'.1.1, by simpa using h'.1.2, (plainName_eq h'.2).1⟩
theorem initE_eval (Hr : OmRef S.Ω) (hu : A.units + 10 < cLine) (F : HF S A env h0 outer m s.heap (og s)) {ps zs : List Str} (hp : ∀ y ∈ ps, ∃ v, m y = some v) (hz : ∀ y ∈ zs, m y = some .none) {ex : Expr} (h : initE env.scope.names ps zs ex = true) {R : Value → Shared → Prop} (q : ∀ v s₁, AllS s s₁ → R v s₁) : wpAny S.M A (eval ex env) R E s := by
 induction ex using Expr.casesOn with
 | Constant c k p =>
  obtain ⟨d, hd⟩ := Option.isSome_iff_exists.mp (show (litC c).isSome = true from h)
  exact litC_eval hd fun v s' _ k => q v s' k
 | Name y p =>
  obtain ⟨h1, h2, h3⟩ := nameIn_inv h
  obtain ⟨v, hv⟩ := hp y h2
  exact F.load h1 hv h3 (q v s (.refl _))
 | Dict ks vs p =>
  refine b_Lnn (show (ks.isEmpty && vs.isEmpty) = true from h) fun h1 h2 => ?_
  rw [List.isEmpty_iff] at h1 h2
  subst h1 h2
  exact wpAny_Dict_empty (q _ _ ⟨All.push _ _, rfl⟩)
 | List es p =>
  have h1 : es = [] := List.isEmpty_iff.mp h
  subst h1
  exact List_ (Calls.spliced_nil (new_list (by simp) fun h' L a _ _ => q _ _ ⟨a, rfl⟩))
 | Tuple es k p =>
  have h1 : es = [] := List.isEmpty_iff.mp h
  subst h1
  exact Tuple_ (Calls.spliced_nil (new_tuple (by simp) fun h' L a _ => q _ _ ⟨a, rfl⟩))
 | IfExp t a b p =>
  refine b_Lnn (show (isDict0 a && (testE t).any (nameIn env.scope.names zs)) = true from h) fun g1 g2 => ?_
  obtain ⟨y, g3, g4⟩ := (Option.any_eq_true _ _).mp g2
  obtain ⟨h1, h2, h3⟩ := nameIn_inv g4
  obtain ⟨p1, k2, p2, p3, e⟩ := testE_eq g3
  obtain ⟨p4, e'⟩ := isDict0_eq g1
  rw [e, e']
  refine wpAny_IfExp (wpAny_isTrue_Compare1 (F.load h1 (hz y h2) h3 (wpAny_Constant_none ?_)) rfl)
  refine cmp_sound (op := .Is) (b := true) Hr hu .none .none rfl (wpAny_truthy_bool ?_)
  exact wpAny_Dict_empty (q _ _ ⟨All.push _ _, rfl⟩)
 | _ => exact ft h
theorem init_swaps {sc : Sc} {ps zs : List Str} {ex : Expr} (h : initE sc ps zs ex = true) (t : Option Expr) (l : Nat) : swapsWith ex t l env = pure false := by
 induction ex using Expr.casesOn <;> first | rfl | exact ft h
set_option tactic.hygienic true in
theorem sets_all (Hr : OmRef S.Ω) (hu : A.units + 10 < cLine) (X : K.In S.B0) (e : setsIn K C = true) {self : Str} {ps zs : List Str} (hself : env.kindOf self = some .local) (mself : m self = some (.ref x)) (hsd : (self == ("__debug__" : Str)) = false) (hp : ∀ y ∈ ps, ∃ v, m y = some v) (hzs : ∀ y ∈ zs, m y = some .none) :
  ∀ (body : List Stmt) (names : List Str) (mA : Str → Option Value) (ns : List Str) (s : Shared) (Q : Flow → Shared → Prop), body.map (initName env.scope.names ps zs self) = names.map some → (∀ y ∈ names, takerIn K C y = some none) → ns.length + names.length ≤ 64 →
   MkAt S A env h0 outer m C x dx mA ns s.heap (og s) →
   (∀ s' mA' ns', (∀ y, y ∉ names → mA' y = mA y) → ns'.length = ns.length + names.length → MkAt S A env h0 outer m C x dx mA' ns' s'.heap (og s') → (∀ b o, b ≠ dx → s.heap.get? b = some o → s'.heap.get? b = some o) → Q .next s') → wpAny S.M A (execs body env) Q E s
 | [], names, mA, ns, s, Q, hn, _, _, M, q => by
  induction names using List.casesOn with
  | nil => exact wpAny_execs_nil (q s mA ns (fun _ _ => rfl) rfl M fun _ _ _ e => e)
  | cons _ _ => injection hn
 | st :: r, names, mA, ns, s, Q, hn, ht, hz, M, q => by
  induction names using List.casesOn with
  | nil => cases hn
  | cons nm names =>
   rw [List.map_cons, List.map_cons, List.cons.injEq] at hn
   obtain ⟨h1, h2⟩ := hn
   rw [List.length_cons] at hz
   refine o_xxxxa (initName_inv h1) fun p1 p2 ex p3 hst hex => ?_
   subst hst
   refine wpAny_execs_cons (set_line X e M (by lia) (ht nm (.head _)) hself mself hsd (P := fun _ _ => True) (fun _ _ _ h _ => h) (init_swaps hex _ _) (fun R q => initE_eval Hr hu M.hf hp hzs hex fun v s₁ k => q v s₁ trivial k) fun v s1 _ M1 k1 => ?_)
   refine sets_all Hr hu X e hself mself hsd hp hzs r names _ (nm :: ns) s1 Q h2 (fun y hy => ht y (.tail _ hy)) (by rw [List.length_cons]; (simp +arith at *; assumption)) M1 fun s' mA' ns' g1 g2 M' k' => ?_
   refine q s' mA' ns' (fun y hy => ?_) (by rw [g2, List.length_cons, List.length_cons]; (simp_all +arith)) M' fun b o hb e => k' b o hb (k1 b o hb e)
   rw [g1 y fun h => hy (.tail _ h)]
   have hne : y ≠ nm := fun h => hy (by rw [h]; exact .head _)
   exact if_neg hne
end
end
section
open PySem PySem.W PySem.SeqAt
variable {κ κ' : OG}
theorem zip_all {ps : List Str} {vs : List Value} (nd : ps.Nodup) (hl : vs.length = ps.length) : ∀ y ∈ ps, ∃ v, (ps.zip vs).reverse.lookup y = some v := fun y hy => by
 obtain ⟨i, hi⟩ := List.getElem?_of_mem hy
 have hlt := (List.getElem?_eq_some_iff.mp hi).1
 exact ⟨vs[i], lookup_zip nd hl hi (List.getElem?_eq_getElem (by omega))⟩
structure InitIs (S : Fixed) (K : Frag) (C fI : Addr) (sf : Str) (ps zs : List Str) (nm : Str) (ex : Expr) (ab : List Str) (fd : FuncData) : Prop where
 makes : makesIn K C = true
 init : findIn K (.ref C) "__init__" = some (some (.ref fI))
 fty : typeIn K (.ref fI) = some (.type "function")
 sets : setsIn K C = true
 fn : ∃ (pre post : List Stmt) (npre npost : List Str) (p1 p2 p3 : Pos), HandFn S (sf :: ps) (pre ++ .Assign [.Attribute (.Name sf p1) nm p2] ex p3 :: post) fd ∧ pre.map (initName fd.scope.names (sf :: ps) zs sf) = npre.map some ∧
  post.map (initName fd.scope.names (sf :: ps) zs sf) = npost.map some ∧ (∀ y ∈ npre ++ nm :: npost, takerIn K C y = some none) ∧ npre.length + npost.length ≤ 60 ∧ nm ∉ npost ∧ (∀ y ∈ ab, y ∉ npre ++ nm :: npost) ∧ ∀ env, swapsWith ex (some (.Attribute (.Name sf p1) nm p2)) p3.line env = pure false
 self : fd.scope.names.lookup sf = some .local
 dbg : (sf == ("__debug__" : Str)) = false
section
variable {S : Fixed} {K : Frag} {C fI : Addr} {sf : Str} {ps zs : List Str} {nm : Str} {ex : Expr} {ab : List Str} {fd : FuncData}
theorem make_thing (hlim : S.B0.NoLimit) (Hr : OmRef S.Ω) (X : K.In S.B0) (I : InitIs S K C fI sf ps zs nm ex ab fd) {oI : Obj} (ho : S.B0.get? fI = some oI) (hd : oI.data = .func fd) {A : Around} {s : Shared} {rest rest' : List Value} {Q E : Value → Shared → Prop}
  (hlen : rest'.length = ps.length) (bind : ∀ (s : Shared) (x : Addr), S.B0.StaysIn s.heap → BindsTo s fd ⟨.ref x :: rest, []⟩ ((sf :: ps).zip (.ref x :: rest'))) (hz : ∀ y ∈ zs, ∀ x, ((sf :: ps).zip (Value.ref x :: rest')).reverse.lookup y = some .none)
  (room : A.depth + 1 < recursionLimit) (units : A.units + 20 < cLine) {outer : List Env} (hout : A.frames = some outer) {b : Heap} (hb : All b s.heap) (stb : S.B0.StaysIn b) (hff : b.FunFrames S.B0 outer) (st : Stays S s.heap (og s))
  {P : Addr → Value → Heap → Prop} (hP : ∀ dx v h h', P dx v h → (∀ b o, b ≠ dx → h.get? b = some o → h'.get? b = some o) → P dx v h')
  (ev : ∀ (A1 : Around) (env : Env) (s₁ : Shared) (x dx : Addr) (R E' : Value → Shared → Prop), A1.depth = A.depth + 1 → A1.units ≤ A.units + 6 → A1.handled = A.handled → (A1.deeper env).frames = some (env :: outer) → env.scope = fd.scope → HF S (A1.deeper env) env b outer (fun y => ((sf :: ps).zip (Value.ref x :: rest')).reverse.lookup y) s₁.heap (og s₁) → s₁.heap.get? dx ≠ none → All s.heap s₁.heap →
   (∀ v s₂, P dx v s₂.heap → AllS s₁ s₂ → R v s₂) → wpAny S.M (A1.deeper env) (eval ex env) R E' s₁)
  (fin : ∀ x dx v s' mA, P dx v s'.heap → All s.heap s'.heap → s.heap.get? x = none → s.heap.get? dx = none → s'.heap.get? x = some (instObj C dx) → s'.heap.Ns dx mA → mA nm = some v → (∀ y ∈ ab, mA y = none) → Stays S s'.heap (og s') → Q (.ref x) s') : wpAny S.M A (call (.ref C) rest) Q E s := by
 refine via fun Gv kv => ?_
 obtain ⟨pre, post, npre, npost, p1, p2, p3, HFn, h1, h2, h3, h4, h5, h7, h6⟩ := I.fn
 refine kv ?_
 clear kv Gv
 refine make_plain (X.keeps st.base) I.makes I.init I.fty fun h' x dx k1 nx ndx hne hx hns => ?_
 have bn : b.get? dx = none := by
  induction q : b.get? dx with
  | none => rfl
  | some o => have := hb _ _ q; rw [ndx] at this; exact nn this
 have sx : s.heap.get? x = none := nx
 have w1 : Code.weight (.builtin "type.__call__" ⟨.ref C :: rest, []⟩) = 1 := by kernel_rfl
 refine call_hand2 (s := { s with heap := h' }) hlim ho hd HFn (bind _ x (st.all k1).base) (by show A.depth + Code.weight _ < recursionLimit; rw [w1]; exact room) (outer := outer) hout (b := b) (fun b' o e => k1 _ _ (hb _ _ e)) stb hff (st.all k1) fun env s₁ Q' E' hQ hsc F a1 fresh => ?_
 have kind : ∀ y, env.kindOf y = fd.scope.names.lookup y := fun y => by show env.scope.names.lookup y = _; rw [hsc]
 have hself : env.kindOf sf = some .local := by rw [kind]; exact I.self
 have hl2 : (Value.ref x :: rest').length = (sf :: ps).length := by simp [hlen]
 have mself : (fun y => ((sf :: ps).zip (Value.ref x :: rest')).reverse.lookup y) sf = some (.ref x) := lookup_zip HFn.nd hl2 (i := 0) rfl rfl
 have mall : ∀ y ∈ sf :: ps, ∃ v, (fun y => ((sf :: ps).zip (Value.ref x :: rest')).reverse.lookup y) y = some v := zip_all HFn.nd hl2
 have mz : ∀ y ∈ zs, (fun y => ((sf :: ps).zip (Value.ref x :: rest')).reverse.lookup y) y = some .none := fun y hy => hz y hy x
 have u1 : Nat.ble (Code.cUnits (.builtin "type.__call__" ⟨.ref C :: rest, []⟩)) 6 = true := by kernel_rfl
 have u1' := Nat.le_of_ble_eq_true u1
 generalize hA1 : A.under (.builtin "type.__call__" ⟨.ref C :: rest, []⟩) = A1 at F ⊢
 have dA : A1.depth = A.depth + 1 := by rw [← hA1]; show A.depth + Code.weight _ = _; rw [w1]
 have uA : A1.units ≤ A.units + 6 := by rw [← hA1]; show A.units + Code.cUnits _ ≤ _; (simp_all +arith)
 have hhA : A1.handled = A.handled := by rw [← hA1]; rfl
 have hu : (A1.deeper env).units + 10 < cLine := by show A1.units + 3 + 10 < cLine; lia
 have o1 : h'.Ns1 dx (fun _ => none) := hns
 have dxne : env.locals ≠ dx := fun q => by
  refine o_xxxa o1 fun o es ep g _ => ?_
  clear o1
  rw [← q, show h'.get? env.locals = none from fresh] at g
  exact nn g
 have M0 : MkAt S (A1.deeper env) env b outer (fun y => ((sf :: ps).zip (Value.ref x :: rest')).reverse.lookup y) C x dx (fun _ => none) [] s₁.heap (og s₁) :=
  ⟨F, a1 _ _ hx, hne, hns.at fun o e => a1 _ _ e, Within.nil, bn, dxne⟩
 have hfr : (A1.deeper env).frames = some (env :: outer) := F.fr
 refine execs_append pre _ env ?_
 refine sets_all Hr hu X I.sets hself mself I.dbg mall mz pre npre _ [] s₁ _ (by rw [hsc]; exact h1) (fun y hy => h3 y (List.mem_append_left _ hy)) (by simp; lia) M0 fun s2 m2 n2 g2 l2 M2 k2 => ?_
 have s1dx : s2.heap.get? dx ≠ none := by obtain ⟨o, es, ep, g, _⟩ := M2.own; rw [g]; simp
 have a2 : All s.heap s2.heap := fun b o e => k2 b o (fun q => by rw [q, ndx] at e; exact nn e) (a1 _ _ (k1 _ _ e))
 refine wpAny_execs_cons (set_line X I.sets M2 (by rw [l2]; simp; lia) (h3 nm (List.mem_append_right _ (.head _))) hself mself I.dbg (P := P dx) (hP dx) (h6 env) (fun R q => ?_) fun v s3 hv M3 k3 => ?_)
 ·exact ev A1 env s2 x dx R _ dA uA hhA hfr hsc M2.hf s1dx a2 fun v s₂ hv k => q v s₂ hv k
 refine sets_all Hr hu X I.sets hself mself I.dbg mall mz post npost _ _ s3 _ (by rw [hsc]; exact h2) (fun y hy => h3 y (List.mem_append_right _ (.tail _ hy))) (by rw [List.length_cons, l2]; simp; lia) M3 fun s4 m4 n4 g4 l4 M4 k4 => ?_
 refine hQ .next s4 ⟨rfl, ?_⟩
 refine fin x dx v s4 m4 (hP dx v _ _ hv k4) (fun b o e => ?_) nx ndx M4.hx (ns1_ns M4.own) ?_ (fun y hy => ?_) M4.hf.stays
 ·have hbd : b ≠ dx := fun q => by rw [q, ndx] at e; exact nn e
  exact k4 b o hbd (k3 b o hbd (a2 b o e))
 ·rw [g4 nm h5]
  exact if_pos rfl
 ·have hy' := h7 y hy
  simp only [List.mem_append, List.mem_cons, not_or] at hy'
  rw [g4 y hy'.2.2, if_neg hy'.2.1, g2 y hy'.1]
end
end
section
set_option backward.match.sparseCases false
open PySem PySem.W PySem.SeqAt
open PyProof.Rows (Tuple_ List_)
variable {κ κ' : OG}
noncomputable def strKey : Expr → Option Str
 | .Constant (.str x) _ _ => some x
 | _ => none
theorem strKey_eq {e : Expr} {x : Str} (h : strKey e = some x) : ∃ k p, e = .Constant (.str x) k p := by
 induction e using Expr.casesOn with
 | Constant c k p => induction c using Const.casesOn with
  | str y => exact ⟨k, p, by rw [si h]⟩
  | _ => exact nn h
 | _ => exact nn h
noncomputable def anyE (sc : Sc) (ps gs : List Str) (row : Str) (rn : Nat) : Nat → Expr → Bool
 | 0, _ => false
 | n + 1, e => match e with
  | .Constant c _ _ => (litC c).isSome
  | .Name x _ => plainName x && (((sc.lookup x == some .local) && ps.contains x) || ((sc.lookup x == some .globalImplicit) && gs.contains x))
  | .Tuple es _ _ => Nat.ble es.length 64 && es.all (anyE sc ps gs row rn n)
  | .Dict ks vs _ => Nat.ble vs.length 15 && Nat.beq ks.length vs.length && (ks.all fun k => k.any fun k => (strKey k).isSome) && vs.all (anyE sc ps gs row rn n)
  | .Call (.Name x _) args kw _ => plainName x && Fast.sEq x row && (sc.lookup x == some .globalImplicit) && Nat.beq args.length rn && args.all (anyE sc ps gs row rn n) && kw.isEmpty && !args.isEmpty
  | _ => false
structure AnyF (S : Fixed) (mg : Str → Option Value) (A : Around) (env : Env) (h0 : Heap) (outer : List Env) (m : Str → Option Value) (ps gs : List Str) (row : Str) (rn : Nat) (E : Value → Shared → Prop) : Prop where
 g : S.B0.Ns mainGlobals mg
 ps : ∀ y ∈ ps, ∃ v, m y = some v
 gs : ∀ y ∈ gs, ∃ v, mg y = some v
 row : ∃ C, mg row = some (.ref C) ∧ (∀ h, S.B0.StaysIn h → ∃ k, (k = Keeper.frame ∨ k = Keeper.machine ∨ k = Keeper.boundFrame) ∧ Looks S.M h (keeperOf (.ref C)) k) ∧
  ∀ (m' : Str → Option Value) (s : Shared) (rest : List Value) (Q : Value → Shared → Prop), rest.length = rn → HF S A env h0 outer m' s.heap (og s) → (∀ v s', AllS s s' → Q v s') → wpAny S.M A (call (.ref C) rest) Q E s
section
variable {S : Fixed} {mg : Str → Option Value} {A : Around} {env : Env} {h0 : Heap} {outer : List Env} {m : Str → Option Value} {ps gs : List Str} {row : Str} {rn : Nat} {E : Value → Shared → Prop}
noncomputable def AnyOk (S : Fixed) (A : Around) (env : Env) (h0 : Heap) (outer : List Env) (m : Str → Option Value) (E : Value → Shared → Prop) (f : Expr → Bool) : Prop :=
 ∀ (e : Expr) (s : Shared) (Q : Value → Shared → Prop), f e = true → HF S A env h0 outer m s.heap (og s) → (∀ v s', AllS s s' → Q v s') → wpAny S.M A (eval e env) Q E s
theorem HF.all {h h' : Heap} (F : HF S A env h0 outer m h κ) (k : All h h') : HF S A env h0 outer m h' κ := F.next (Up.of_all k) (F.stays.all k)
theorem any_star {n : Nat} {sc : Sc} {e : Expr} (h : anyE sc ps gs row rn n e = true) (rest : List Expr) : starEach (e :: rest) env = (false, eval e env) :: starEach rest env := by
 induction n using Nat.casesAuxOn with
 | zero => exact ft h
 | succ n => induction e using Expr.casesOn <;> first | rfl | exact ft h
theorem anys_eval {n : Nat} {sc : Sc} (I : AnyOk S A env h0 outer m E (anyE sc ps gs row rn n)) : ∀ (es : List Expr) (p : Pos) (s : Shared) (Q : List Value → Shared → Prop), es.all (anyE sc ps gs row rn n) = true → HF S A env h0 outer m s.heap (og s) → (∀ vs s', AllS s s' → vs.length = es.length → Q vs s') →
  wpAny S.M A (spliced (backTo p (starEach es env))) Q E s
 | [], p, s, Q, _, _, q => Calls.spliced_nil (q [] s (.refl _) rfl)
 | e :: r, p, s, Q, h, F, q => by
  rw [List.all_cons, Bool.and_eq_true] at h
  refine wpAny_items_cons (he := any_star h.1 r) (I e s _ h.1 F fun v s₁ k1 => ?_)
  refine anys_eval I r p s₁ _ h.2 (F.allS k1) fun vs s₂ k2 hl => ?_
  exact q (v :: vs) s₂ (k1.trans k2) (by rw [List.length_cons, hl, List.length_cons])
theorem any_plain {n : Nat} {sc : Sc} : ∀ (es : List Expr) (p : Pos), es.all (anyE sc ps gs row rn n) = true → (backTo p (starEach es env)).any (·.1) = false
 | [], _, _ => rfl
 | e :: r, p, h => by
  rw [List.all_cons, Bool.and_eq_true] at h
  have ih := any_plain r p h.2
  rw [any_star h.1 r]
  show (false || (backTo p (starEach r env)).any (·.1)) = false
  rw [ih]
  rfl
theorem any_pairs {n : Nat} {sc : Sc} {p : Pos} (I : AnyOk S A env h0 outer m E (anyE sc ps gs row rn n)) (ks : List (Option Expr)) : ∀ (vs : List Expr) (s : Shared) (R : List (Value × Value) → Shared → Prop), ks.length = vs.length → (ks.all fun k => k.any fun k => (strKey k).isSome) = true → vs.all (anyE sc ps gs row rn n) = true → HF S A env h0 outer m s.heap (og s) →
  (∀ prs us s', KeysAre prs us → us.length = vs.length → AllS s s' → R prs s') → wpAny S.M A (evalPairs (pairTrees ks vs env p)) R E s := by
 induction ks with
 | nil =>
  intro vs s R hl _ _ _ q
  have : vs = [] := List.length_eq_zero_iff.mp hl.symm
  subst this
  exact pairTrees_nil_walk (q [] [] s .nil rfl (.refl _))
 | cons k ks ih =>
  intro vs s R hl hk hv F q
  induction vs using List.casesOn with
  | nil => injection hl
  | cons v vs =>
   rw [List.all_cons, Bool.and_eq_true] at hk hv
   refine o_xa (any_some hk.1) fun k q1' hk1 => ?_
   subst q1'
   obtain ⟨x, hx⟩ := Option.isSome_iff_exists.mp hk1
   obtain ⟨kk, pp, rfl⟩ := strKey_eq hx
   refine pairTrees_cons_walk (wpAny_Constant_str (I v { s with toks := s.toks + 1 } _ hv.1 F fun u s₁ k1 => ?_))
   refine ih vs s₁ _ (by simpa using hl) hk.2 hv.2 (HF.allS (s := { s with toks := s.toks + 1 }) F k1) fun prs us s₂ z1 z2 k2 => ?_
   exact q _ ((x, u) :: us) s₂ (.cons z1) (by rw [List.length_cons, z2, List.length_cons]) ⟨fun b o e => k2.all _ _ (k1.all _ _ e), k2.og.trans k1.og⟩
theorem any_dict {n : Nat} {sc : Sc} {p : Pos} (I : AnyOk S A env h0 outer m E (anyE sc ps gs row rn n)) {ks : List (Option Expr)} {vs : List Expr} {s : Shared} {Q : Value → Shared → Prop} (hz : vs.length ≤ 15) (hl : ks.length = vs.length) (hk : (ks.all fun k => k.any fun k => (strKey k).isSome) = true) (hv : vs.all (anyE sc ps gs row rn n) = true)
  (F : HF S A env h0 outer m s.heap (og s)) (q : ∀ T f s', s.heap.get? T = none → AllS s s' → STabS S.prog S.w s'.heap T f 16 → Q (.ref T) s') : wpAny S.M A (eval (.Dict ks vs p) env) Q E s := by
 have mono : ∀ {h : Heap} {T : Addr} {f : Str → Option Value} {k : Nat}, STabS S.prog S.w h T f k → k ≤ 16 → STabS S.prog S.w h T f 16 := fun ⟨o, es, ep, a1, a2, a3, a4, a5, a6⟩ hk => ⟨o, es, ep, a1, a2, a3, a4, Nat.le_trans a5 hk, a6⟩
 have kp := All.push s.heap { cls := .type "dict", data := .dict #[] }
 have nT : s.heap.get? s.heap.objs.size = none := Heap.get?_none_of_le (Nat.le_refl _)
 induction hks : ks using List.casesOn with
 | nil =>
  subst hks
  induction vs using List.casesOn with
  | cons _ _ => injection hl
  | nil => exact wpAny_Dict_empty (q _ _ _ nT ⟨kp, rfl⟩ (mono (STabS.new s.heap) (by decide)))
 | cons k0 kr =>
  rw [← hks]
  refine wpAny_Dict_any ?_ hl (by rw [hks]; simp) (by (simp_all +arith)) ?_
  ·rw [List.all_eq_true] at hk ⊢
   intro k hkm
   have := hk k hkm
   induction k with
   | none => exact ft this
   | some _ => rfl
  refine any_pairs I ks vs { s with heap := s.heap.push { cls := .type "dict", data := .dict #[] } } _ hl hk hv (F.all kp) fun prs us s₁ z1 z2 k1 => ?_
  have m0 : STabS S.prog S.w s₁.heap s.heap.objs.size (fun _ => none) 0 := by
   refine o_xxxa (STabS.new (prog := S.prog) (w := S.w) s.heap) fun o es ep ho r => ?_
   exact ⟨o, es, ep, k1.all _ _ ho, r⟩
  refine stab_storeAll z1 (by lia) m0 fun h' tk m' hs' => q _ _ _ nT ⟨fun b o e => ?_, k1.og⟩ (mono m' (by lia))
  exact (hs'.2 b fun h => by rw [h, nT] at e; exact nn e).trans (k1.all _ _ (kp _ _ e))
theorem any_eval {sc : Sc} (G : AnyF S mg A env h0 outer m ps gs row rn E) (hsc : env.scope.names = sc) : ∀ n, AnyOk S A env h0 outer m E (anyE sc ps gs row rn n)
 | 0 => fun _ _ _ h _ _ => by exact ft h
 | n + 1 => fun e s Q h F q => by
  have I := any_eval G hsc n
  induction e using Expr.casesOn with
  | Constant c k p =>
   obtain ⟨d, hd⟩ := Option.isSome_iff_exists.mp (show (litC c).isSome = true from h)
   exact litC_eval hd fun v s' _ k => q v s' k
  | Name x p =>
   have h' : (plainName x && (((sc.lookup x == some .local) && ps.contains x) || ((sc.lookup x == some .globalImplicit) && gs.contains x))) = true := h
   simp only [Bool.and_eq_true, Bool.or_eq_true, beq_iff_eq] at h'
   rcases h'.2 with ⟨h1, h2⟩ | ⟨h1, h2⟩
   ·obtain ⟨v, hv⟩ := G.ps x (by simpa using h2)
    exact F.load (by show env.scope.names.lookup x = _; rw [hsc]; exact h1) hv (plainName_eq h'.1).1 (q v s (.refl _))
   ·obtain ⟨v, hv⟩ := G.gs x (by simpa using h2)
    exact F.top G.g (by show env.scope.names.lookup x = _; rw [hsc]; exact h1) hv (plainName_eq h'.1).1 (q v s (.refl _))
  | Tuple es k p =>
   refine b_Lnn (show (Nat.ble es.length 64 && es.all (anyE sc ps gs row rn n)) = true from h) fun h1 h2 => ?_
   refine Tuple_ (anys_eval I es p s _ h2 F fun vs s₁ k1 hl => ?_)
   have k2 := All.push s₁.heap { cls := .type "tuple", data := .seq vs.toArray }
   exact wpAny_newTuple (q _ _ ⟨fun b o e => k2 _ _ (k1.all _ _ e), k1.og⟩) (hsz := by have := Nat.le_of_ble_eq_true h1; show vs.length ≤ 2 ^ 24; lia)
  | Dict ks vs p =>
   have h' : (Nat.ble vs.length 15 && Nat.beq ks.length vs.length && (ks.all fun k => k.any fun k => (strKey k).isSome) && vs.all (anyE sc ps gs row rn n)) = true := h
   refine b_LLLnnnn h' fun h1 h2 h3 h4 => ?_
   clear h'
   exact any_dict I (Nat.le_of_ble_eq_true h1) (Nat.eq_of_beq_eq_true h2) h3 h4 F fun T f s' _ k _ => q _ s' k
  | Call f args kw p =>
   induction f using Expr.casesOn with
   | Name x np =>
    have h' : (plainName x && Fast.sEq x row && (sc.lookup x == some .globalImplicit) && Nat.beq args.length rn && args.all (anyE sc ps gs row rn n) && kw.isEmpty && !args.isEmpty) = true := h
    simp only [Bool.and_eq_true, beq_iff_eq, Bool.not_eq_true', List.isEmpty_iff] at h'
    refine via fun Gv kv => ?_
    obtain ⟨⟨⟨⟨⟨⟨h1, h2⟩, h3⟩, h4⟩, h5⟩, rfl⟩, h7⟩ := h'
    have := Fast.sEq_iff.mp h2
    subst this
    refine o_xaa G.row fun C hC hkp hcall => ?_
    refine kv ?_
    clear kv Gv
    refine wpAny_Call_ofName (F.top G.g (by show env.scope.names.lookup x = _; rw [hsc]; exact h3) hC (plainName_eq h1).1 ?_)
    induction args using List.casesOn with
    | nil => exact tf h7
    | cons a0 ar =>
     have h0 := h5
     rw [List.all_cons, Bool.and_eq_true] at h0
     have hb : backTo p (starEach (a0 :: ar) env) = (false, eval a0 env) :: backTo p (starEach ar env) := by rw [any_star h0.1 ar]; rfl
     have key : wpAny S.M A (spliced (backTo p (starEach (a0 :: ar) env))) (fun vs s' => S.B0.StaysIn s'.heap ∧ wpAny S.M A (call (.ref C) ([] ++ vs) []) Q E s') E s :=
      anys_eval I (a0 :: ar) p s _ h5 F fun vs s₁ k1 hl => ⟨(F.allS k1).stays.base, hcall m s₁ vs Q (by rw [hl]; exact Nat.eq_of_beq_eq_true h4) (F.allS k1) fun v s' k => q v s' (k1.trans k)⟩
     refine PySem.W.callWith_of (P := fun h => S.B0.StaysIn h) (by rw [any_plain _ _ h5]; rfl) hkp ?_
     rw [hb] at key ⊢
     exact Calls.evalArgs_plain key
   | _ => exact ft h
  | _ => exact ft h
end
end
section
set_option backward.match.sparseCases false
open PySem PySem.W PySem.SeqAt
variable {κ κ' : OG}
noncomputable def name1 : List Expr → Option Str
 | [] => none
 | e :: r => (match r with | [] => nameE e | _ :: _ => none)
theorem name1_eq {l : List Expr} {x : Str} (h : name1 l = some x) : ∃ p, l = [.Name x p] := by
 induction l using List.casesOn with
 | nil => exact nn h
 | cons e r => induction r using List.casesOn with
  | nil =>
   obtain ⟨p, q⟩ := nameE_eq h
   exact ⟨p, by rw [q]⟩
  | cons _ _ => exact nn h
noncomputable def okDict (sc : Sc) (gs : List Str) (row : Str) (rn n : Nat) (ps : List Str) : Expr → Bool
 | .Dict ks vs _ => Nat.ble vs.length 15 && Nat.beq ks.length vs.length && (ks.all fun k => k.any fun k => (strKey k).isSome) && vs.all (anyE sc ps gs row rn n)
 | _ => false
theorem okDict_inv {sc : Sc} {gs : List Str} {row : Str} {rn n : Nat} {ps : List Str} {e : Expr} (h : okDict sc gs row rn n ps e = true) :
  ∃ ks vs p, e = .Dict ks vs p ∧ (Nat.ble vs.length 15 && Nat.beq ks.length vs.length && (ks.all fun k => k.any fun k => (strKey k).isSome) && vs.all (anyE sc ps gs row rn n)) = true := by
 induction e using Expr.casesOn with
 | Dict ks vs p => exact ⟨ks, vs, p, rfl, h⟩
 | _ => exact ft h
noncomputable def okLines (sc : Sc) (gs : List Str) (row : Str) (rn n : Nat) : List Str → List Stmt → Bool
 | ps, st :: r => match st with
  | .Assign ts e _ => (match name1 ts with
   | some x => (sc.lookup x == some .local) && anyE sc ps gs row rn n e && okLines sc gs row rn n (x :: ps) r
   | none => false)
  | .Return o _ => o.any (okDict sc gs row rn n ps) && r.isEmpty
  | _ => false
 | _, [] => false
section
variable {S : Fixed} {mg : Str → Option Value} {A : Around} {env : Env} {h0 : Heap} {outer : List Env} {gs : List Str} {row : Str} {rn : Nat} {E : Value → Shared → Prop}
theorem any_swaps {n : Nat} {sc : Sc} {ps : List Str} {e : Expr} (h : anyE sc ps gs row rn n e = true) (t : Option Expr) (l : Nat) : swapsWith e t l env = pure false := by
 induction n using Nat.casesAuxOn with
 | zero => exact ft h
 | succ n => induction e using Expr.casesOn <;> first | rfl | exact ft h
theorem okLines_inv {sc : Sc} {n : Nat} {ps : List Str} {st : Stmt} {r : List Stmt} (h : okLines sc gs row rn n ps (st :: r) = true) {G : Prop}
  (k1 : ∀ x xp e p, st = .Assign [.Name x xp] e p → ((sc.lookup x == some .local) && anyE sc ps gs row rn n e && okLines sc gs row rn n (x :: ps) r) = true → G)
  (k2 : ∀ ks vs dp p, st = .Return (some (.Dict ks vs dp)) p → (Nat.ble vs.length 15 && Nat.beq ks.length vs.length && (ks.all fun k => k.any fun k => (strKey k).isSome) && vs.all (anyE sc ps gs row rn n)) = true → r = [] → G) : G := by
 revert k1 k2
 induction st using Stmt.casesOn with
 | Assign ts e p =>
  intro k1 _
  have h' : (match name1 ts with | some x => (sc.lookup x == some .local) && anyE sc ps gs row rn n e && okLines sc gs row rn n (x :: ps) r | none => false) = true := h
  induction hn : name1 ts with
  | none => rw [hn] at h'; exact ft h'
  | some x =>
   rw [hn] at h'
   obtain ⟨xp, q⟩ := name1_eq hn
   exact k1 x xp e p (by rw [q]) h'
 | Return o p =>
  intro _ k2
  refine b_Lnn (show (o.any (okDict sc gs row rn n ps) && r.isEmpty) = true from h) fun h1 h2 => ?_
  obtain ⟨d, q, h3⟩ := any_some h1
  refine o_xxxa (okDict_inv h3) fun ks vs dp q2 h4 => ?_
  exact k2 ks vs dp p (by rw [q, q2]) h4 (List.isEmpty_iff.mp h2)
 | _ => exact fun _ _ => ft h
theorem any_lines {n : Nat} {sc : Sc} (hsc : env.scope.names = sc) : ∀ (body : List Stmt) (ps : List Str) (m : Str → Option Value) (s : Shared) (Q : Flow → Shared → Prop), okLines sc gs row rn n ps body = true → AnyF S mg A env h0 outer m ps gs row rn E → HF S A env h0 outer m s.heap (og s) →
  (∀ T f s', (∀ b o, b ≠ env.locals → s.heap.get? b = some o → s'.heap.get? b = some o) → s.heap.get? T = none → STabS S.prog S.w s'.heap T f 16 → Up h0 s'.heap → Stays S s'.heap (og s') → Q (.ret (.ref T)) s') → wpAny S.M A (execs body env) Q E s
 | [], ps, m, s, Q, h, _, _, _ => by exact ft h
 | st :: r, ps, m, s, Q, h, G, F, q => by
  refine okLines_inv h (fun x xp e p e0 hh => ?_) fun ks vs dp p e0 hh hr => ?_ <;> clear h <;> subst e0
  ··simp only [Bool.and_eq_true, beq_iff_eq] at hh
    obtain ⟨⟨h1, h2⟩, h3⟩ := hh
    refine wpAny_execs_cons (wpAny_Assign_Name (hs := any_swaps h2 _ _) (any_eval G hsc n e s _ h2 F fun v s₁ k1 => ?_))
    refine HF.store (F.allS k1) (by show env.scope.names.lookup x = _; rw [hsc]; exact h1) fun h2' F2 sf sb => ?_
    refine any_lines hsc r (x :: ps) _ _ Q h3 ⟨G.g, fun y hy => ?_, G.gs, G.row⟩ F2 fun T f s' k nT tab u st => ?_
    ·by_cases hyx : y = x
     ·exact ⟨v, if_pos hyx⟩
     ·rcases List.mem_cons.mp hy with e | e
      ·exact absurd e hyx
      ·obtain ⟨w, hw⟩ := G.ps y e
       exact ⟨w, (if_neg hyx).trans hw⟩
    ·refine q T f s' (fun b o hb e => k b o hb ((sb.2 b hb).trans (k1.all _ _ e))) ?_ tab u st
     induction hq : s.heap.get? T with
     | none => rfl
     | some o =>
      exfalso
      have g1 := k1.all _ _ hq
      by_cases hT : T = env.locals
      ·refine o_xxxa F2.ns fun o' es ep ho' _ => ?_
       rw [hT] at nT
       exact absurd (ho'.symm.trans nT) (by simp)
      ·exact absurd (((sb.2 T hT).trans g1).symm.trans nT) (by simp)
  ··subst hr
    refine b_LLLnnnn hh fun h1 h2 h3 h4 => ?_
    clear hh
    refine wpAny_execs_cons (wpAny_Return_some (any_dict (any_eval G hsc n) (Nat.le_of_ble_eq_true h1) (Nat.eq_of_beq_eq_true h2) h3 h4 F fun T f s' nT k tab => ?_))
    have F2 := F.allS k
    exact q T f s' (fun b o _ e => k.all _ _ e) nT tab F2.up F2.stays
end
section
variable {S : Fixed} {mg : Str → Option Value} {K : Frag} {CR fR : Addr} {rd : FuncData}
theorem row_call (hlim : S.B0.NoLimit) (Hr : OmRef S.Ω) (X : K.In S.B0) {u1 : Pos} (I : InitIs S K CR fR (Str.ofString "self") [Str.ofString "path", Str.ofString "package", Str.ofString "underlying", Str.ofString "methods"] [] (Str.ofString "underlying") (.Name (Str.ofString "underlying") u1) [] rd)
  (hul : rd.scope.names.lookup (Str.ofString "underlying") = some .local) {oI : Obj} (ho : S.B0.get? fR = some oI) (hd : oI.data = .func rd) {A : Around} {env : Env} {h0 : Heap} {outer : List Env} {m : Str → Option Value} {s : Shared} {E Q : Value → Shared → Prop}
  (F : HF S A env h0 outer m s.heap (og s)) (room : A.depth + 1 < recursionLimit) (units : A.units + 20 < cLine) {a b u c : Value}
  (fin : ∀ x dx s' mA, All s.heap s'.heap → s.heap.get? x = none → s.heap.get? dx = none → s'.heap.get? x = some (instObj CR dx) → s'.heap.Ns dx mA → mA (Str.ofString "underlying") = some u → Stays S s'.heap (og s') → Q (.ref x) s') : wpAny S.M A (call (.ref CR) [a, b, u, c]) Q E s := by
 refine o_xxxxxxxa I.fn fun pre post npre npost q1 q2 q3 HFn _ => ?_
 refine make_thing (rest' := [a, b, u, c]) hlim Hr X I ho hd rfl (fun s x st => HFn.bind s _ st rfl) (fun y hy => by cases hy) room units F.fr (b := s.heap) (fun _ _ e => e) F.stays.base F.frames F.stays (P := fun _ v _ => v = u) (fun _ _ _ _ h _ => h) (fun A1 env1 s1 x dx R E' _ _ _ _ hsc F1 _ _ q => ?_) fun x dx v s' mA hv k nx ndx hx hns hm _ st => ?_
 ·have hk : env1.kindOf (Str.ofString "underlying") = some .local := by show env1.scope.names.lookup _ = _; rw [hsc]; exact hul
  exact F1.load hk rfl (by decide) (q u s1 rfl (.refl _))
 ·subst hv
  exact fin x dx s' mA k nx ndx hx hns hm st
end
end
section
open PySem PySem.W PySem.SeqAt
variable {κ κ' : OG}
section
variable {prog : Program} {w : World} {A : Around} {E : Value → Shared → Prop} {s : Shared} {d : Addr} {f : Str → Option Value} {x : Str} {tk : Tok}
theorem stab_setItem {v : Value} {n : Nat} {Q : Unit → Shared → Prop} (m : STabS prog w s.heap d f n) (hn : n < 4096)
  (hQ : ∀ h' tk', STabS prog w h' d (fun y => if y = x then some v else f y) (n + 1) → Heap.SameBut d s.heap h' → Q () { s with heap := h', toks := tk' }) : wpAny (model prog w) A (setItem (.ref d) (.str x tk) v) Q E s := by
 unfold setItem
 try with_reducible refine wpAny_holding ?_
 first | refine wpAny_bind (wpAny_pure ?_) | skip
 refine wpAny_bind (wpAny_sequenceKey m.tab.typeIs (by decide) ?_)
 refine wpAny_bind (wpAny_callSpecial?_slot (name := Str.ofString "__setitem__") m.tab.typeIs slot_dict_setitem
  (wpAny_call_entry slot_dict_setitem m.tab.typeIs entry_dict_setitem ?_ (args_dict_setitem _ _ _)))
 show wpAny _ _ (Builtin.Dict.notOrdered "__setitem__" ⟨[.ref d, .str x tk, v], []⟩ >>= _) _ _ s
 refine wpAny_bind (wpAny_notOrdered_dict m.tab.typeIs ?_)
 show wpAny _ _ (PySem.dictSet d (.str x tk) v >>= _) _ _ s
 exact wpAny_bind (stab_set m hn fun h' m' hs' => wpAny_pure ⟨.none, rfl, wpAny_pure (hQ h' _ m' hs')⟩)
end
section
variable {S : Fixed} {mg : Str → Option Value} {K : Frag} {CR fR : Addr} {rd : FuncData}
structure RowFacts (S : Fixed) (K : Frag) (mg : Str → Option Value) (CR fR : Addr) (rd : FuncData) : Prop where
 I : ∃ u1, InitIs S K CR fR (Str.ofString "self") [Str.ofString "path", Str.ofString "package", Str.ofString "underlying", Str.ofString "methods"] [] (Str.ofString "underlying") (.Name (Str.ofString "underlying") u1) [] rd
 ul : rd.scope.names.lookup (Str.ofString "underlying") = some .local
 ex : ∃ oI, S.B0.get? fR = some oI ∧ oI.data = .func rd
 name : mg (Str.ofString "NamedRow") = some (.ref CR)
 keep : keepIn K (.ref CR) = true
theorem four {vs : List Value} (h : vs.length = 4) : ∃ a b c d, vs = [a, b, c, d] := by
 have cons : ∀ {l : List Value} {n : Nat}, l.length = n + 1 → ∃ a r, l = a :: r ∧ r.length = n := fun {l n} e => by
  induction l using List.casesOn with
  | nil => injection e
  | cons a r => exact ⟨a, r, rfl, Nat.succ.inj e⟩
 obtain ⟨a, r, q, h⟩ := cons h
 obtain ⟨b, r, q2, h⟩ := cons h
 obtain ⟨c, r, q3, h⟩ := cons h
 obtain ⟨d, q4⟩ := List.length_eq_one_iff.mp h
 exact ⟨a, b, c, d, by rw [q, q2, q3, q4]⟩
theorem row_any (hlim : S.B0.NoLimit) (Hr : OmRef S.Ω) (X : K.In S.B0) (R : RowFacts S K mg CR fR rd) (hg : S.B0.Ns mainGlobals mg) {A : Around} {env : Env} {h0 : Heap} {outer : List Env} {m : Str → Option Value} {ps gs : List Str} {E : Value → Shared → Prop} (room : A.depth + 1 < recursionLimit) (units : A.units + 20 < cLine)
  (hps : ∀ y ∈ ps, ∃ v, m y = some v) (hgs : ∀ y ∈ gs, ∃ v, mg y = some v) : AnyF S mg A env h0 outer m ps gs (Str.ofString "NamedRow") 4 E := by
 obtain ⟨u1, I⟩ := R.I
 refine o_xa R.ex fun oI ho hd => ?_
 refine ⟨hg, hps, hgs, CR, R.name, fun h st => keeps_K R.keep h (X.keeps st), fun m' s rest Q hl F q => ?_⟩
 refine o_xxxx (four hl) fun a b c d q4' => ?_
 subst q4'
 exact row_call hlim Hr X I R.ul ho hd F room units fun x dx s' mA k _ _ _ _ _ st => q _ s' ⟨k, st.og.trans F.stays.og.symm⟩
theorem known_rows_call (hlim : S.B0.NoLimit) (Hr : OmRef S.Ω) (X : K.In S.B0) (R : RowFacts S K mg CR fR rd) (hg : S.B0.Ns mainGlobals mg) {fk : Addr} {ok : Obj} {kd : FuncData} (hok : S.B0.get? fk = some ok) (hokd : ok.data = .func kd) {body : List Stmt} (HFn : HandFn S [] body kd) {n : Nat} {gs : List Str}
  (hgs : ∀ y ∈ gs, ∃ v, mg y = some v) (hbody : okLines kd.scope.names gs (Str.ofString "NamedRow") 4 n [] body = true) {A : Around} {env : Env} {h0 : Heap} {outer : List Env} {m : Str → Option Value} {s : Shared} {Q E : Value → Shared → Prop} (F : HF S A env h0 outer m s.heap (og s)) (room : A.depth + 2 < recursionLimit) (units : A.units + 30 < cLine)
  (fin : ∀ T f s', AllS s s' → s.heap.get? T = none → STabS S.prog S.w s'.heap T f 16 → Q (.ref T) s') : codeAny S.M A (.call (.ref fk) ⟨[], []⟩) (fun r s' => match r with | .ok (.ret v) => Q v s' | .ok _ => False | .error e => E e s') s := by
 refine call_hand2 (vs' := []) hlim hok hokd HFn (HFn.bind s [] F.stays.base rfl) (by lia) F.fr (b := s.heap) (fun _ _ e => e) F.stays.base F.frames F.stays fun env1 s1 Q' E' hQ hsc F1 a1 fresh => ?_
 refine any_lines (n := n) (by rw [hsc]) body [] _ s1 _ hbody (row_any hlim Hr X R hg (by show A.depth + 1 + 1 < recursionLimit; omega) (by show A.units + 3 + 20 < cLine; lia) (fun y hy => by cases hy) hgs) F1 fun T f s' k nT tab u st => ?_
 refine hQ (.ret _) s' (fin T f s' ⟨fun b o e => k b o (fun q => by rw [q, fresh] at e; exact nn e) (a1 _ _ e), st.og.trans F.stays.og.symm⟩ ?_ tab)
 induction q : s.heap.get? T with
 | none => rfl
 | some o => have := a1 _ _ q; rw [nT] at this; exact nn this
end
end
section
open PySem PySem.W PySem.SeqAt
variable {κ κ' : OG}
section
variable {S : Fixed} {mg : Str → Option Value} {K : Frag} {CR fR WC fW : Addr} {rd wd : FuncData}
structure KrFacts (S : Fixed) (mg : Str → Option Value) : Prop where
 ex : ∃ (fk : Addr) (ok : Obj) (kd : FuncData) (body : List Stmt) (n : Nat) (gs : List Str), mg (Str.ofString "known_rows") = some (.ref fk) ∧ S.B0.get? fk = some ok ∧ ok.data = .func kd ∧ HandFn S [] body kd ∧ (∀ y ∈ gs, ∃ v, mg y = some v) ∧ okLines kd.scope.names gs (Str.ofString "NamedRow") 4 n [] body = true
structure WldFacts (S : Fixed) (K : Frag) (WC fW : Addr) (wd : FuncData) : Prop where
 I : ∃ p1 p2, InitIs S K WC fW (Str.ofString "self") [Str.ofString "packages"] [] (Str.ofString "named") (.Call (.Name (Str.ofString "known_rows") p1) [] [] p2) [Str.ofString "base_of"] wd
 kr : wd.scope.names.lookup (Str.ofString "known_rows") = some .globalImplicit
 ex : ∃ oI, S.B0.get? fW = some oI ∧ oI.data = .func wd
 bind : ∀ (s : Shared) (x : Addr), S.B0.StaysIn s.heap → BindsTo s wd ⟨[.ref x], []⟩ ([Str.ofString "self", Str.ofString "packages"].zip [.ref x, .none])
theorem world_call (hlim : S.B0.NoLimit) (Hr : OmRef S.Ω) (X : K.In S.B0) (hg : S.B0.Ns mainGlobals mg) (R : RowFacts S K mg CR fR rd) (KF : KrFacts S mg) (WF : WldFacts S K WC fW wd) {A : Around} {env : Env} {h0 : Heap} {outer : List Env} {m : Str → Option Value} {s : Shared} {E Q : Value → Shared → Prop}
  (F : HF S A env h0 outer m s.heap (og s)) (room : A.depth + 5 < recursionLimit) (units : A.units + 60 < cLine)
  (fin : ∀ x dx N f s' mA, All s.heap s'.heap → s.heap.get? x = none → s.heap.get? dx = none → s.heap.get? N = none → N ≠ dx → s'.heap.get? x = some (instObj WC dx) → s'.heap.Ns dx mA → mA (Str.ofString "named") = some (.ref N) → mA (Str.ofString "base_of") = none → STabS S.prog S.w s'.heap N f 16 → Stays S s'.heap (og s') → Q (.ref x) s') :
  wpAny S.M A (call (.ref WC) []) Q E s := by
 refine via fun Gv kv => ?_
 refine o_xx WF.I fun p1 p2 I => ?_
 refine o_xa WF.ex fun oI ho hd => ?_
 obtain ⟨fk, ok, kd, body, n, gs, hmk, hok, hokd, HFn, hgs, hbody⟩ := KF.ex
 refine kv ?_
 clear kv Gv
 refine make_thing (rest' := [.none]) hlim Hr X I ho hd rfl (fun s x st => WF.bind s x st) (fun y hy => by cases hy) (by lia) (by lia) F.fr (b := s.heap) (fun _ _ e => e) F.stays.base F.frames F.stays
  (P := fun dx v h => ∃ N f, v = .ref N ∧ N ≠ dx ∧ s.heap.get? N = none ∧ STabS S.prog S.w h N f 16) (fun dx v h h' ⟨N, f, e1, e2, e3, e4⟩ k => ?_) (fun A1 env1 s1 x dx R' E' hdA huA hhA hfr hsc F1 hdx a1 q => ?_) fun x dx v s' mA hv k nx ndx hx hns hm hab st => ?_
 ·refine o_xxxa e4 fun o es ep g r => ?_
  clear e4
  exact ⟨N, f, e1, e2, e3, o, es, ep, k _ _ e2 g, r⟩
 ·have hk : env1.kindOf (Str.ofString "known_rows") = some .globalImplicit := by show env1.scope.names.lookup _ = _; rw [hsc]; exact WF.kr
  refine wpAny_Call_ofName (F1.top hg hk hmk (by decide) ?_)
  refine Calls.callWith_function (o := ok) (fd := kd) (evalArgs_none ⟨⟨F1.stays.base _ _ hok, hokd⟩, wpAny_call ?_⟩)
  refine known_rows_call hlim Hr X R hg hok hokd HFn hgs hbody F1 (by show A1.depth + 1 + 2 < recursionLimit; lia) (by show A1.units + 3 + 30 < cLine; lia) fun T f s' k nT tab => ?_
  refine q _ s' ⟨T, f, rfl, fun e => ?_, ?_, tab⟩ k
  ·rw [e] at nT
   exact hdx nT
  ·induction hq : s.heap.get? T with
   | none => rfl
   | some o => have := a1 _ _ hq; rw [nT] at this; exact nn this
 ·refine o_xxaaa hv fun N f q2' e2 e3 e4 => ?_
  clear hv
  subst q2'
  exact fin x dx N f s' mA k nx ndx e3 e2 hx hns hm (hab _ (.head _)) e4 st
end
end
section
open PySem PySem.W PySem.SeqAt
open PyProof.Rows (Tuple_ List_)
variable {κ κ' : OG}
noncomputable def chkPs : List Str := [Str.ofString "world", Str.ofString "package", Str.ofString "scope", Str.ofString "key", Str.ofString "readers", Str.ofString "run_body", Str.ofString "outer"]
structure ChkFacts (S : Fixed) (K : Frag) (mg : Str → Option Value) (CC fC SC fS : Addr) (cd sd : FuncData) : Prop where
 I : ∃ p1, InitIs S K CC fC (Str.ofString "self") chkPs [Str.ofString "outer"] (Str.ofString "world") (.Name (Str.ofString "world") p1) [Str.ofString "coerce", Str.ofString "takes_type"] cd
 wl : cd.scope.names.lookup (Str.ofString "world") = some .local
 ex : ∃ oI, S.B0.get? fC = some oI ∧ oI.data = .func cd
 bind : ∀ (s : Shared) (x : Addr) (a b c d e f : Value), S.B0.StaysIn s.heap → BindsTo s cd ⟨[.ref x, a, b, c, d, e, f], []⟩ ((Str.ofString "self" :: chkPs).zip [.ref x, a, b, c, d, e, f, .none])
 sI : ∃ p1, InitIs S K SC fS (Str.ofString "self") [Str.ofString "outer", Str.ofString "owner"] [] (Str.ofString "owner") (.Name (Str.ofString "owner") p1) [] sd
 sl : sd.scope.names.lookup (Str.ofString "owner") = some .local
 sex : ∃ oI, S.B0.get? fS = some oI ∧ oI.data = .func sd
 sbind : ∀ (s : Shared) (x : Addr) (a : Value), S.B0.StaysIn s.heap → BindsTo s sd ⟨[.ref x, a], []⟩ ([Str.ofString "self", Str.ofString "outer", Str.ofString "owner"].zip [.ref x, a, .none])
 names : mg (Str.ofString "Checker") = some (.ref CC) ∧ mg (Str.ofString "Scope") = some (.ref SC)
 keep : keepIn K (.ref CC) = true ∧ keepIn K (.ref SC) = true
section
variable {S : Fixed} {mg : Str → Option Value} {K : Frag} {CC fC SC fS : Addr} {cd sd : FuncData}
theorem scope_call (hlim : S.B0.NoLimit) (Hr : OmRef S.Ω) (X : K.In S.B0) (CF : ChkFacts S K mg CC fC SC fS cd sd) {A : Around} {env : Env} {h0 : Heap} {outer : List Env} {m : Str → Option Value} {s : Shared} {E Q : Value → Shared → Prop}
  (F : HF S A env h0 outer m s.heap (og s)) (room : A.depth + 1 < recursionLimit) (units : A.units + 20 < cLine) {a : Value} (fin : ∀ v s', AllS s s' → Q v s') : wpAny S.M A (call (.ref SC) [a]) Q E s := by
 obtain ⟨p1, I⟩ := CF.sI
 refine o_xa CF.sex fun oI ho hd => ?_
 refine make_thing (rest' := [a, .none]) hlim Hr X I ho hd rfl (fun s x st => CF.sbind s x a st) (fun y hy => by cases hy) room units F.fr (b := s.heap) (fun _ _ e => e) F.stays.base F.frames F.stays
  (P := fun _ _ _ => True) (fun _ _ _ _ h _ => h) (fun A1 env1 s1 x dx R' E' hdA huA hhA hfr hsc F1 hdx a1 q => ?_) fun x dx v s' mA hv k nx ndx hx hns hm _ st => fin _ s' ⟨k, st.og.trans F.stays.og.symm⟩
 have hk : env1.kindOf (Str.ofString "owner") = some .local := by show env1.scope.names.lookup _ = _; rw [hsc]; exact CF.sl
 exact F1.load hk rfl (by decide) (q .none s1 trivial (.refl _))
theorem chk_call (hlim : S.B0.NoLimit) (Hr : OmRef S.Ω) (X : K.In S.B0) (CF : ChkFacts S K mg CC fC SC fS cd sd) {A : Around} {env : Env} {h0 : Heap} {outer : List Env} {m : Str → Option Value} {s : Shared} {E Q : Value → Shared → Prop}
  (F : HF S A env h0 outer m s.heap (og s)) (room : A.depth + 1 < recursionLimit) (units : A.units + 20 < cLine) {a b c d e f : Value}
  (fin : ∀ x dx s' mA, All s.heap s'.heap → s.heap.get? x = none → s.heap.get? dx = none → s'.heap.get? x = some (instObj CC dx) → s'.heap.Ns dx mA → mA (Str.ofString "world") = some a → (∀ y ∈ [Str.ofString "coerce", Str.ofString "takes_type"], mA y = none) → Stays S s'.heap (og s') → Q (.ref x) s') : wpAny S.M A (call (.ref CC) [a, b, c, d, e, f]) Q E s := by
 obtain ⟨p1, I⟩ := CF.I
 refine o_xa CF.ex fun oI ho hd => ?_
 refine make_thing (rest' := [a, b, c, d, e, f, .none]) hlim Hr X I ho hd rfl (fun s x st => CF.bind s x a b c d e f st) (fun y hy x => ?_) room units F.fr (b := s.heap) (fun _ _ e => e) F.stays.base F.frames F.stays
  (P := fun _ v _ => v = a) (fun _ _ _ _ h _ => h) (fun A1 env1 s1 x dx R' E' hdA huA hhA hfr hsc F1 hdx a1 q => ?_) fun x dx v s' mA hv k nx ndx hx hns hm hab st => ?_
 ·rw [List.mem_singleton.mp hy]; rfl
 ·have hk : env1.kindOf (Str.ofString "world") = some .local := by show env1.scope.names.lookup _ = _; rw [hsc]; exact CF.wl
  exact F1.load hk rfl (by decide) (q a s1 rfl (.refl _))
 ·subst hv
  exact fin x dx s' mA k nx ndx hx hns hm hab st
end
inductive Made (S : Fixed) (CC WC RC : Addr) (h h' : Heap) (chk : Addr) : Prop
 | mk (dC wld dW N row dR : Addr) (f mC mW mR : Str → Option Value) (T : Value) : h'.get? chk = some (instObj CC dC) →
  h'.Ns dC mC →
  mC (Str.ofString "world") = some (.ref wld) →
  (∀ y ∈ [Str.ofString "coerce", Str.ofString "takes_type"], mC y = none) →
  h'.get? wld = some (instObj WC dW) →
  h'.Ns dW mW →
  mW (Str.ofString "named") = some (.ref N) →
  mW (Str.ofString "base_of") = none →
  STab S.prog S.w h' N f →
  f (Str.ofString "main.K") = some (.ref row) →
  h'.get? row = some (instObj RC dR) →
  h'.Ns dR mR →
  mR (Str.ofString "underlying") = some T →
  DatH S.Ω h' T (.tup [.str (cS "int"), .str (cS "int8")]) →
  h.get? chk = none →
  h.get? dC = none →
  h.get? wld = none →
  h.get? dW = none →
  h.get? N = none →
  h.get? row = none →
  h.get? dR = none → Made S CC WC RC h h' chk
noncomputable def chkP (i : Nat) : Pos := posAt [649, 4, 649, 9, 649, 12, 649, 17, 649, 12, 649, 19, 649, 4, 649, 19, 650, 4, 650, 9, 650, 4, 650, 15, 650, 16, 650, 24, 650, 4, 650, 25, 650, 28, 650, 36, 650, 37, 650, 45, 650, 47, 650, 53, 650, 56, 650, 61, 650, 63, 650, 69, 650, 55, 650, 70, 650, 72, 650, 74, 650, 28, 650, 75, 650, 4, 650, 75, 651, 11, 651, 18, 651, 19, 651, 24, 651, 26, 651, 32, 651, 34, 651, 39, 651, 40, 651, 44, 651, 34, 651, 45, 651, 47, 651, 55, 651, 57, 651, 59, 651, 61, 651, 65, 651, 11, 651, 66, 651, 4, 651, 66] i
noncomputable def chkT : List Stmt := [.Assign [(.Name (Str.ofString "world") (chkP 0))] (.Call (.Name (Str.ofString "World") (chkP 1)) [] [] (chkP 2)) (chkP 3), .Assign [(.Subscript (.Attribute (.Name (Str.ofString "world") (chkP 4)) (Str.ofString "named") (chkP 5)) (.Constant (.str (Str.ofString "main.K")) 0 (chkP 6)) (chkP 7))] (.Call (.Name (Str.ofString "NamedRow") (chkP 8)) [(.Constant (.str (Str.ofString "main.K")) 0 (chkP 9)), (.Constant (.str (Str.ofString "main")) 0 (chkP 10)), (.Tuple [(.Constant (.str (Str.ofString "int")) 0 (chkP 11)), (.Constant (.str (Str.ofString "int8")) 0 (chkP 12))] 0 (chkP 13)), (.Dict [] [] (chkP 14))] [] (chkP 15)) (chkP 16), .Return (some (.Call (.Name (Str.ofString "Checker") (chkP 17)) [(.Name (Str.ofString "world") (chkP 18)), (.Constant (.str (Str.ofString "main")) 0 (chkP 19)), (.Call (.Name (Str.ofString "Scope") (chkP 20)) [(.Constant .none 0 (chkP 21))] [] (chkP 22)), (.Constant (.str (Str.ofString "main.f")) 0 (chkP 23)), (.Dict [] [] (chkP 24)), (.Constant .none 0 (chkP 25))] [] (chkP 26))) (chkP 27)]
structure LawChk (S : Fixed) (fd : FuncData) : Prop where
 fn : HandFn S [] chkT fd
 world : fd.scope.names.lookup (Str.ofString "world") = some .local
 gl : ∀ x ∈ [Str.ofString "World", Str.ofString "NamedRow", Str.ofString "Checker", Str.ofString "Scope"], fd.scope.names.lookup x = some .globalImplicit
end
section
open PySem PySem.W PySem.SeqAt
open PyProof.Rows (Tuple_ List_)
variable {κ κ' : OG}
section
variable {S : Fixed} {mg : Str → Option Value} {K : Frag} {CR fR WC fW CC fC SC fS : Addr} {rd wd cd sd : FuncData}
theorem stab_ne_inst {prog : Program} {w : World} {h : Heap} {a x C d : Addr} {f : Str → Option Value} (hn : STab prog w h a f) (hx : h.get? x = some (instObj C d)) : a ≠ x := fun q => by
 refine o_xxxaaa hn fun o es ep ho hc hd _ => ?_
 clear hn
 rw [q, hx] at ho
 cases ho
 cases hd
noncomputable def chkRow : Stmt := .Assign [(.Subscript (.Attribute (.Name (Str.ofString "world") (chkP 4)) (Str.ofString "named") (chkP 5)) (.Constant (.str (Str.ofString "main.K")) 0 (chkP 6)) (chkP 7))] (.Call (.Name (Str.ofString "NamedRow") (chkP 8)) [(.Constant (.str (Str.ofString "main.K")) 0 (chkP 9)), (.Constant (.str (Str.ofString "main")) 0 (chkP 10)), (.Tuple [(.Constant (.str (Str.ofString "int")) 0 (chkP 11)), (.Constant (.str (Str.ofString "int8")) 0 (chkP 12))] 0 (chkP 13)), (.Dict [] [] (chkP 14))] [] (chkP 15)) (chkP 16)
theorem law_row (hlim : S.B0.NoLimit) (Hr : OmRef S.Ω) (X : K.In S.B0) (hg : S.B0.Ns mainGlobals mg) (R : RowFacts S K mg CR fR rd) (W : objIn K WC = true ∧ findIn K (.ref WC) (Str.ofString "named") = some none) {A : Around} {env : Env} {h0 : Heap} {outer : List Env} {m : Str → Option Value} {s : Shared} {E : Value → Shared → Prop} {Q : Flow → Shared → Prop}
  (F : HF S A env h0 outer m s.heap (og s)) (room : A.depth + 2 < recursionLimit) (units : A.units + 30 < cLine) (hw : env.kindOf (Str.ofString "world") = some .local) (hr : env.kindOf (Str.ofString "NamedRow") = some .globalImplicit)
  {wld dW N : Addr} {f mW : Str → Option Value} (mw : m (Str.ofString "world") = some (.ref wld)) (gw : s.heap.get? wld = some (instObj WC dW)) (nw : s.heap.Ns dW mW) (hN : mW (Str.ofString "named") = some (.ref N)) (tab : STabS S.prog S.w s.heap N f 16) (hNd : N ≠ dW) (hN0 : h0.get? N = none) (hNe : env.locals ≠ N)
  (fin : ∀ s' row dR mR T f', HF S A env h0 outer m s'.heap (og s') → (∀ b o, b ≠ N → s.heap.get? b = some o → s'.heap.get? b = some o) → STab S.prog S.w s'.heap N f' → f' (Str.ofString "main.K") = some (.ref row) → s'.heap.get? row = some (instObj CR dR) → s'.heap.Ns dR mR → mR (Str.ofString "underlying") = some T →
   DatH S.Ω s'.heap T (.tup [.str (cS "int"), .str (cS "int8")]) → s.heap.get? row = none → s.heap.get? dR = none → Q .next s') :
  wpAny S.M A (exec chkRow env) Q E s := by
 unfold chkRow
 obtain ⟨u1, I⟩ := R.I
 refine o_xa R.ex fun oI ho hd => ?_
 refine wpAny_Assign_Subscript (wpAny_Call_ofName (F.top hg hr R.name (by decide) ?_)) (hs := rfl)
 refine PySem.W.callWith_of (P := fun h => S.B0.StaysIn h) rfl (fun h st => keeps_K R.keep h (X.keeps st)) ?_
 refine Calls.evalArgs_plain (Calls.spliced_cons (Calls.Constant_str (k := 0) (pos := chkP 9) (Calls.spliced_cons (Calls.Constant_str (k := 0) (pos := chkP 10) (Calls.spliced_cons ?_)))))
 refine lit_eval (S := S) 3 _ (.tup [.str (cS "int"), .str (cS "int8")]) _ _ (by rfl) fun T s1 DT a1 => ?_
 have a1' : All s.heap s1.heap := by have := a1.all; exact this
 refine Calls.spliced_cons (wpAny_Dict_empty (Calls.spliced_nil ?_))
 have a2 := All.push s1.heap { cls := .type "dict", data := .dict #[] }
 have F2 : HF S A env h0 outer m (s1.heap.push { cls := .type "dict", data := .dict #[] }) (og s1) := (F.next (Up.of_all a1') (by rw [show og s1 = og s from a1.og]; exact F.stays.all a1')).all a2
 refine ⟨F2.stays.base, ?_⟩
 refine row_call (s := { s1 with heap := s1.heap.push { cls := .type "dict", data := .dict #[] } }) hlim Hr X I R.ul ho hd F2 (by (exact Nat.le_of_lt ‹_›)) (by lia) fun row dR s2 mR a3 nrow ndR grow nR hmR st2 => ?_
 have a02 : All s.heap s2.heap := fun b o e => a3 _ _ (a2 _ _ (a1' _ _ e))
 have F3 := F.next (Up.of_all a02) st2
 refine PyProof.Rows.Attribute_name (F3.load hw mw (by decide) ?_)
 have IW : InstIs s2.heap (.ref wld) WC mW := ⟨wld, _, dW, rfl, a02 _ _ gw, rfl, rfl, rfl, by obtain ⟨o, es, ep, g, r⟩ := nw; exact ⟨o, es, ep, a02 _ _ g, r⟩⟩
 refine inst_get (X.keeps F3.stays.base) IW W.1 W.2 hN rfl fun tk3 => ?_
 refine Calls.Constant_str (k := 0) (pos := chkP 6) ?_
 have tab2 : STabS S.prog S.w s2.heap N f 16 := by obtain ⟨o, es, ep, g, r⟩ := tab; exact ⟨o, es, ep, a02 _ _ g, r⟩
 refine stab_setItem (s := { s2 with toks := tk3 + 1 }) tab2 (by decide) fun h4 tk4 tab4 hs4 => ?_
 have k4 : ∀ b o, b ≠ N → s2.heap.get? b = some o → h4.get? b = some o := fun b o hb e => (hs4.2 b hb).trans e
 have nN : ∀ y, s.heap.get? y = none → y ≠ N := fun y hy q => by obtain ⟨o, es, ep, g, _⟩ := tab; rw [q, g] at hy; cases hy
 have lam : ∀ o, s2.heap.get? N = some o → ¬ LamLike o := fun o e ⟨vs, hd, _⟩ => by
  refine o_xxxaaa tab2 fun o' es ep g _ hd' _ => ?_
  clear tab2
  rw [e] at g
  cases g
  rw [hd] at hd'
  cases hd'
 have s1n : ∀ y, (s1.heap.push { cls := .type "dict", data := .dict #[] }).get? y = none → s.heap.get? y = none := fun y hy => by
  induction q : s.heap.get? y with
  | none => rfl
  | some o => have := a2 _ _ (a1' _ _ q); rw [hy] at this; cases this
 have n1 := s1n _ nrow
 have n2 := s1n _ ndR
 have DT2 : DatH S.Ω h4 T (.tup [.str (cS "int"), .str (cS "int8")]) := by
  have D := (DT.up (Up.of_all a2)).up (Up.of_all a3)
  exact D.soft (soft_but k4 fun o e items n hd => by
   refine o_xxxaaa tab2 fun o' es ep g _ hd' _ => ?_
   clear tab2
   rw [e] at g
   cases g
   rw [hd] at hd'
   cases hd')
 refine fin _ row dR mR T _ (F3.but k4 hN0 hNe lam) (fun b o hb e => k4 b o hb (a02 _ _ e)) tab4.tab (if_pos rfl) (k4 _ _ (nN _ n1) grow) ?_ hmR DT2 n1 n2
 refine o_xxxa nR fun o es ep g r => ?_
 clear nR
 exact ⟨o, es, ep, k4 _ _ (nN _ n2) g, r⟩
end
end
section
open PySem PySem.W PySem.SeqAt
open PyProof.Rows (Tuple_ List_)
variable {κ κ' : OG}
section
variable {S : Fixed} {mg : Str → Option Value} {K : Frag} {CR fR WC fW CC fC SC fS : Addr} {rd wd cd sd : FuncData}
noncomputable def chkRet : Stmt := .Return (some (.Call (.Name (Str.ofString "Checker") (chkP 17)) [(.Name (Str.ofString "world") (chkP 18)), (.Constant (.str (Str.ofString "main")) 0 (chkP 19)), (.Call (.Name (Str.ofString "Scope") (chkP 20)) [(.Constant .none 0 (chkP 21))] [] (chkP 22)), (.Constant (.str (Str.ofString "main.f")) 0 (chkP 23)), (.Dict [] [] (chkP 24)), (.Constant .none 0 (chkP 25))] [] (chkP 26))) (chkP 27)
theorem law_ret (hlim : S.B0.NoLimit) (Hr : OmRef S.Ω) (X : K.In S.B0) (hg : S.B0.Ns mainGlobals mg) (CF : ChkFacts S K mg CC fC SC fS cd sd) {A : Around} {env : Env} {h0 : Heap} {outer : List Env} {m : Str → Option Value} {s : Shared} {E : Value → Shared → Prop} {Q : Flow → Shared → Prop}
  (F : HF S A env h0 outer m s.heap (og s)) (room : A.depth + 2 < recursionLimit) (units : A.units + 30 < cLine) (hw : env.kindOf (Str.ofString "world") = some .local) (hc : env.kindOf (Str.ofString "Checker") = some .globalImplicit) (hs : env.kindOf (Str.ofString "Scope") = some .globalImplicit)
  {wld : Addr} (mw : m (Str.ofString "world") = some (.ref wld))
  (fin : ∀ x dx s' mA, All s.heap s'.heap → s.heap.get? x = none → s.heap.get? dx = none → s'.heap.get? x = some (instObj CC dx) → s'.heap.Ns dx mA → mA (Str.ofString "world") = some (.ref wld) → (∀ y ∈ [Str.ofString "coerce", Str.ofString "takes_type"], mA y = none) → Up h0 s'.heap → Stays S s'.heap (og s') → Q (.ret (.ref x)) s') :
  wpAny S.M A (exec chkRet env) Q E s := by
 unfold chkRet
 refine wpAny_Return_some (wpAny_Call_ofName (F.top hg hc CF.names.1 (by decide) ?_))
 refine PySem.W.callWith_of (P := fun h => S.B0.StaysIn h) rfl (fun h st => keeps_K CF.keep.1 h (X.keeps st)) ?_
 refine Calls.evalArgs_plain (Calls.spliced_cons (F.load hw mw (by decide) (Calls.spliced_cons (Calls.Constant_str (k := 0) (pos := chkP 19) (Calls.spliced_cons (wpAny_Call_ofName (HF.top (s := { s with toks := s.toks + 1 }) F hg hs CF.names.2 (by decide) ?_)))))))
 refine PySem.W.callWith_of (P := fun h => S.B0.StaysIn h) rfl (fun h st => keeps_K CF.keep.2 h (X.keeps st)) ?_
 refine Calls.evalArgs_plain (Calls.spliced_cons (wpAny_Constant_none (k := 0) (pos := chkP 21) (Calls.spliced_nil ⟨F.stays.base, ?_⟩)))
 refine scope_call (s := { s with toks := s.toks + 1 }) hlim Hr X CF F (by (exact Nat.le_of_lt ‹_›)) (by lia) fun v s1 a1 => ?_
 have a1' : All s.heap s1.heap := by have := a1.all; exact this
 refine Calls.spliced_cons (Calls.Constant_str (k := 0) (pos := chkP 23) (Calls.spliced_cons (wpAny_Dict_empty (Calls.spliced_cons (wpAny_Constant_none (k := 0) (pos := chkP 25) (Calls.spliced_nil ?_))))))
 have a2 := All.push s1.heap { cls := .type "dict", data := .dict #[] }
 have F2 : HF S A env h0 outer m (s1.heap.push { cls := .type "dict", data := .dict #[] }) (og s1) := (F.next (Up.of_all a1') (by rw [show og s1 = og s from a1.og]; exact F.stays.all a1')).all a2
 refine ⟨F2.stays.base, ?_⟩
 refine chk_call (s := { s1 with heap := s1.heap.push { cls := .type "dict", data := .dict #[] }, toks := s1.toks + 1 }) hlim Hr X CF F2 (by omega) (by omega) fun x dx s2 mA a3 nx ndx gx ns hm hab st => ?_
 have s1n : ∀ y, (s1.heap.push { cls := .type "dict", data := .dict #[] }).get? y = none → s.heap.get? y = none := fun y hy => by
  induction q : s.heap.get? y with
  | none => rfl
  | some o => have := a2 _ _ (a1' _ _ q); rw [hy] at this; exact nn this
 have a02 : All s.heap s2.heap := fun b o e => a3 _ _ (a2 _ _ (a1' _ _ e))
 have F3 := F.next (Up.of_all a02) st
 exact fin x dx s2 mA a02 (s1n _ nx) (s1n _ ndx) gx ns hm hab F3.up F3.stays
theorem law_checker_call (hlim : S.B0.NoLimit) (Hr : OmRef S.Ω) (X : K.In S.B0) (hg : S.B0.Ns mainGlobals mg) (R : RowFacts S K mg CR fR rd) (KF : KrFacts S mg) (WF : WldFacts S K WC fW wd) (hW : mg (Str.ofString "World") = some (.ref WC) ∧ keepIn K (.ref WC) = true) (W : objIn K WC = true ∧ findIn K (.ref WC) (Str.ofString "named") = some none) (CF : ChkFacts S K mg CC fC SC fS cd sd)
  {fl : Addr} {ol : Obj} {ld : FuncData} (hol : S.B0.get? fl = some ol) (hld : ol.data = .func ld) (LF : LawChk S ld) {A : Around} {s : Shared} {Q E : Value → Shared → Prop} {outer : List Env} (hout : A.frames = some outer) (hff : s.heap.FunFrames S.B0 outer) (st : Stays S s.heap (og s)) (room : A.depth + 8 < recursionLimit) (units : A.units + 80 < cLine)
  (fin : ∀ chk s', All s.heap s'.heap → Made S CC WC CR s.heap s'.heap chk → Stays S s'.heap (og s') → Q (.ref chk) s') :
  codeAny S.M A (.call (.ref fl) ⟨[], []⟩) (fun r s' => match r with | .ok (.ret v) => Q v s' | .ok _ => False | .error e => E e s') s := by
 have HFn := LF.fn
 refine call_hand2 (vs' := []) hlim hol hld HFn (HFn.bind s [] st.base rfl) (by lia) hout (b := s.heap) (fun _ _ e => e) st.base hff st fun env s1 Q' E' hQ hsc F a1 fresh => ?_
 have kind : ∀ y, env.kindOf y = ld.scope.names.lookup y := fun y => by show env.scope.names.lookup y = _; rw [hsc]
 have hw : env.kindOf (Str.ofString "world") = some .local := by rw [kind]; exact LF.world
 have hgl : ∀ x ∈ [Str.ofString "World", Str.ofString "NamedRow", Str.ofString "Checker", Str.ofString "Scope"], env.kindOf x = some .globalImplicit := fun x hx => by rw [kind]; exact LF.gl x hx
 refine wpAny_execs_cons (wpAny_Assign_Name (hs := rfl) (wpAny_Call_ofName (F.top hg (hgl _ (.head _)) hW.1 (by decide) ?_)))
 refine PySem.W.callWith_of (P := fun h => S.B0.StaysIn h) rfl (fun h st => keeps_K hW.2 h (X.keeps st)) (evalArgs_none ⟨F.stays.base, ?_⟩)
 refine world_call hlim Hr X hg R KF WF F (by show A.depth + 1 + 5 < recursionLimit; lia) (by show A.units + 3 + 60 < cLine; lia) fun wld dW N f s2 mW a2 nw ndW nN hNd gw ns hN hNb tab st2 => ?_
 have F2 := F.next (Up.of_all a2) st2
 refine F2.store hw fun h3 F3 sf3 sb3 => ?_
 have up1 : ∀ y, s1.heap.get? y = none → s.heap.get? y = none := fun y hy => by
  induction q : s.heap.get? y with
  | none => rfl
  | some o => have := a1 _ _ q; rw [hy] at this; exact nn this
 have loc1 : ∀ y, s1.heap.get? y = none → env.locals ≠ y := fun y hy q => by
  refine o_xxxa F.ns fun o es ep g _ => ?_
  rw [q, hy] at g
  exact nn g
 have k3 : ∀ b o, b ≠ env.locals → s2.heap.get? b = some o → h3.get? b = some o := fun b o hb e => (sb3.2 b hb).trans e
 have gw3 := k3 _ _ (Ne.symm (loc1 _ nw)) gw
 have ns3 : h3.Ns dW mW := by obtain ⟨o, es, ep, g, r⟩ := ns; exact ⟨o, es, ep, k3 _ _ (Ne.symm (loc1 _ ndW)) g, r⟩
 have tab3 : STabS S.prog S.w h3 N f 16 := by obtain ⟨o, es, ep, g, r⟩ := tab; exact ⟨o, es, ep, k3 _ _ (Ne.symm (loc1 _ nN)) g, r⟩
 refine wpAny_execs_cons (law_row (s := { s2 with heap := h3, toks := s2.toks + 1 }) hlim Hr X hg R W F3 (by show A.depth + 1 + 2 < recursionLimit; lia) (by show A.units + 3 + 30 < cLine; lia) hw (hgl _ (.tail _ (.head _))) (if_pos rfl) gw3 ns3 hN tab3 hNd (up1 _ nN) (loc1 _ nN) fun s4 row dR mR T f' F4 k4 tab4 hf4 grow nR hmR DT nrow ndR => ?_)
 have back : ∀ y, h3.get? y = none → s.heap.get? y = none := fun y hy => by
  induction q : s.heap.get? y with
  | none => rfl
  | some o =>
   have hy' : y ≠ env.locals := fun e => by rw [e, fresh] at q; exact nn q
   have := k3 _ _ hy' (a2 _ _ (a1 _ _ q))
   rw [hy] at this
   exact nn this
 have wN : wld ≠ N := fun q => stab_ne_inst tab3.tab gw3 q.symm
 refine wpAny_execs_cons (law_ret hlim Hr X hg CF F4 (by show A.depth + 1 + 2 < recursionLimit; omega) (by show A.units + 3 + 30 < cLine; omega) hw (hgl _ (.tail _ (.tail _ (.head _)))) (hgl _ (.tail _ (.tail _ (.tail _ (.head _))))) (if_pos rfl) fun chk dC s5 mC a5 nchk ndC gchk nsC hmC habC u5 st5 => ?_)
 have loc4 : ∀ b o, s.heap.get? b = some o → s4.heap.get? b = some o := fun b o e => by
  have hb : b ≠ env.locals := fun q => by rw [q, fresh] at e; exact nn e
  have hbN : b ≠ N := fun q => by rw [q, up1 _ nN] at e; exact nn e
  exact k4 b o hbN (k3 b o hb (a2 _ _ (a1 _ _ e)))
 have back4 : ∀ y, s4.heap.get? y = none → s.heap.get? y = none := fun y hy => by
  induction q : s.heap.get? y with
  | none => rfl
  | some o => have := loc4 _ _ q; rw [hy] at this; exact nn this
 refine hQ (.ret _) s5 (fin chk s5 (fun b o e => a5 _ _ (loc4 b o e)) ⟨dC, wld, dW, N, row, dR, f', mC, mW, mR, T, gchk, nsC, hmC, habC, a5 _ _ (k4 _ _ wN gw3), ?_, hN, hNb, tab4.up (Up.of_all a5), hf4, a5 _ _ grow, ?_, hmR, DT.up (Up.of_all a5), back4 _ nchk, back4 _ ndC, up1 _ nw, up1 _ ndW, up1 _ nN, back _ nrow, back _ ndR⟩ st5)
 ·refine o_xxxa ns3 fun o es ep g r => ?_
  clear ns3
  exact ⟨o, es, ep, a5 _ _ (k4 _ _ (Ne.symm hNd) g), r⟩
 ·refine o_xxxa nR fun o es ep g r => ?_
  clear nR
  exact ⟨o, es, ep, a5 _ _ g, r⟩
end
end
section
open PySem PySem.W PySem.SeqAt
variable {κ κ' : OG}
noncomputable def fillStep (p : Str × Value) (r : List (Str × Value)) : List (Str × Value) := if (r.lookup p.1).isNone then r ++ [p] else r
theorem lookup_append_none {l r : List (Str × Value)} {x : Str} (h : l.lookup x = none) : (l ++ r).lookup x = r.lookup x := by
 rw [List.lookup_append, h]; rfl
theorem zip_lookup_none : ∀ {ns : List Str} {vs : List Value} {x : Str}, x ∉ ns → (ns.zip vs).lookup x = none
 | [], _, _, _ => by simp
 | _ :: _, [], _, _ => by simp
 | n :: ns, v :: vs, x, h => by
  have hne : x ≠ n := fun e => h (by rw [e]; exact .head _)
  rw [List.zip_cons_cons, List.lookup_cons, beq_eq_false_iff_ne.mpr hne]
  exact zip_lookup_none fun q => h (.tail _ q)
theorem lookup_isSome_of_mem : ∀ {l : List (Str × Value)} {x : Str} {v : Value}, (x, v) ∈ l → (l.lookup x).isSome = true
 | [], _, _, h => by cases h
 | (y, u) :: l, x, v, h => by
  rw [List.lookup_cons]
  by_cases hxy : x = y
  ·subst hxy; simp
  ·rw [beq_eq_false_iff_ne.mpr hxy]
   rcases List.mem_cons.mp h with e | e
   ·cases e; exact absurd rfl hxy
   ·exact lookup_isSome_of_mem e
theorem fill_all : ∀ (ns : List Str) (vs : List Value) (ds : List Value) (r : List (Str × Value)), ns.Nodup → (∀ x ∈ ns, r.lookup x = none) → (ns.zip ds).foldl (fun r p => fillStep p r) (r ++ []) = r ++ ns.zip ds
 | [], _, _, r, _, _ => by simp
 | _ :: _, _, [], r, _, _ => by simp
 | n :: ns, vs, d :: ds, r, nd, h => by
  rw [List.nodup_cons] at nd
  rw [List.zip_cons_cons, List.foldl_cons]
  have h1 : fillStep (n, d) (r ++ []) = (r ++ [(n, d)]) ++ [] := by
   unfold fillStep
   rw [List.append_nil, List.append_nil, h n (.head _)]
   rfl
  rw [h1, fill_all ns vs ds (r ++ [(n, d)]) nd.2 fun x hx => ?_]
  ·simp
  ·have hne : x ≠ n := fun e => nd.1 (by rw [← e]; exact hx)
   rw [lookup_append_none (h x (.tail _ hx)), List.lookup_cons, beq_eq_false_iff_ne.mpr hne]
   rfl
theorem zip_filterMap : ∀ (ns : List Str) (vs : List Value) (pre : List (Str × Value)), ns.Nodup → ns.length = vs.length → (∀ x ∈ ns, pre.lookup x = none) → (ns.filterMap fun n => ((pre ++ ns.zip vs).lookup n).map (n, ·)) = ns.zip vs
 | [], _, _, _, _, _ => by simp
 | n :: ns, [], _, _, hl, _ => by simp at hl
 | n :: ns, v :: vs, pre, nd, hl, h => by
  rw [List.nodup_cons] at nd
  have e1 : (pre ++ (n :: ns).zip (v :: vs)).lookup n = some v := by
   rw [lookup_append_none (h n (.head _)), List.zip_cons_cons, List.lookup_cons]; simp
  rw [List.filterMap_cons, e1]
  simp only [Option.map_some]
  rw [List.zip_cons_cons]
  congr 1
  have := zip_filterMap ns vs (pre ++ [(n, v)]) nd.2 (by simpa using hl) fun x hx => by
   have hne : x ≠ n := fun e => nd.1 (by rw [← e]; exact hx)
   rw [lookup_append_none (h x (.tail _ hx)), List.lookup_cons, beq_eq_false_iff_ne.mpr hne]; rfl
  refine Eq.trans ?_ this
  refine congrArg (fun g => ns.filterMap g) (funext fun x => ?_)
  rw [List.append_assoc]
  rfl
theorem forIn_fill {l : List (Str × Value)} : ∀ (r : List (Str × Value)), (forIn l r fun (p : Str × Value) (r : List (Str × Value)) => (if (r.lookup p.1).isNone = true then (pure (ForInStep.yield (r ++ [(p.1, p.2)])) : Sem _) else pure (ForInStep.yield r))) = pure (l.foldl (fun r p => fillStep p r) r) := by
 induction l with
 | nil => intro r; rfl
 | cons p l ih =>
  intro r
  rw [List.forIn_cons]
  have : (if (r.lookup p.1).isNone = true then (pure (ForInStep.yield (r ++ [(p.1, p.2)])) : Sem (ForInStep (List (Str × Value)))) else pure (ForInStep.yield r)) = pure (ForInStep.yield (fillStep p r)) := by
   unfold fillStep
   split <;> rfl
  rw [this, pure_bind]
  exact ih _
theorem bind_via {α β : Type} {m : Sem α} {a : α} {f : α → Sem β} {r : Sem β} (h : m = pure a) (k : f a = r) : m >>= f = r := by rw [h]; exact k
theorem zip_app {a b : List Str} {c d : List Value} (h : a.length = c.length) : (a ++ b).zip (c ++ d) = a.zip c ++ b.zip d := List.zip_append h
theorem not_none {o : Option Value} (h : o.isSome = true) : ¬ o.isNone = true := by
 induction o with
 | none => exact ft h
 | some v => exact Bool.false_ne_true
theorem take_get {ns : List Str} {a i : Nat} {n : Str} (h : (ns.take a)[i]? = some n) : i < a ∧ ns[i]? = some n := by
 have l := (List.getElem?_eq_some_iff.mp h).1
 rw [List.length_take] at l
 have l' := (Nat.lt_min.mp l).1
 rw [List.getElem?_take_of_lt l'] at h
 exact ⟨l', h⟩
theorem miss_nil {ns : List Str} {vs : List Value} {a : Nat} (h : a ≤ vs.length) : List.filter (fun n => ((ns.zip vs).lookup n).isNone) (ns.take a) = [] := by
 rw [List.filter_eq_nil_iff]
 intro n hn
 obtain ⟨i, hi⟩ := List.getElem?_of_mem hn
 obtain ⟨hlt, hi⟩ := take_get hi
 have hiv : i < vs.length := Nat.lt_of_lt_of_le hlt h
 exact not_none (lookup_isSome_of_mem (v := vs[i]) (List.mem_of_getElem? (i := i) (List.getElem?_zip_eq_some.mpr ⟨hi, List.getElem?_eq_getElem hiv⟩)))
theorem fill_skip : ∀ (l : List (Str × Value)) (r : List (Str × Value)), (∀ p ∈ l, (r.lookup p.1).isSome = true) → l.foldl (fun r p => fillStep p r) r = r
 | [], _, _ => rfl
 | p :: l, r, h => by
  have : fillStep p r = r := if_neg (not_none (h p (.head _)))
  show l.foldl (fun r p => fillStep p r) (fillStep p r) = r
  rw [this]
  exact fill_skip l r fun q hq => h q (.tail _ hq)
theorem fold_fill {ns : List Str} {vs items : List Value} {a b : Nat} (ha : a + items.length = ns.length) (hb : a + b = vs.length) (hc : b ≤ items.length) (nd : ns.Nodup) :
  ((ns.drop a).zip items).foldl (fun r p => fillStep p r) (ns.zip vs) = ns.zip (vs ++ items.drop b) := by
 have l1 : (ns.drop a).length = items.length := by rw [List.length_drop, ← ha, Nat.add_sub_cancel_left]
 have l2 : (ns.take (a + b)).length = vs.length := by rw [List.length_take, ← ha, Nat.min_eq_left (Nat.add_le_add_left hc a), hb]
 have e3 := zip_app (b := ns.drop (a + b)) (c := vs) (d := items.drop b) l2
 have hz := zip_app (b := ns.drop (a + b)) (c := vs) (d := []) l2
 rw [List.take_append_drop, List.append_nil, List.zip_nil_right, List.append_nil] at hz
 have hsplit := zip_app (a := (ns.drop a).take b) (b := (ns.drop a).drop b) (c := items.take b) (d := items.drop b) (by rw [List.length_take, List.length_take, l1])
 rw [List.take_append_drop, List.take_append_drop, List.drop_drop] at hsplit
 rw [hsplit, List.foldl_append, fill_skip _ (ns.zip vs) fun p hp => ?_]
 ·have := fill_all (ns.drop (a + b)) [] (items.drop b) (ns.zip vs) (nd.sublist (List.drop_sublist _ _)) fun x hx => by
   rw [hz]
   refine zip_lookup_none fun h => ?_
   have nd' := nd
   rw [← List.take_append_drop (a + b) ns, List.nodup_append] at nd'
   exact nd'.2.2 x h x hx rfl
  rw [List.append_nil] at this
  rw [this, hz, ← e3, List.take_append_drop]
 ·obtain ⟨i, hi⟩ := List.getElem?_of_mem (List.of_mem_zip hp).1
  obtain ⟨h1, h2⟩ := take_get hi
  rw [List.getElem?_drop] at h2
  have hiv : a + i < vs.length := hb ▸ Nat.add_lt_add_left h1 a
  exact lookup_isSome_of_mem (v := vs[a + i]) (List.mem_of_getElem? (i := a + i) (List.getElem?_zip_eq_some.mpr ⟨h2, List.getElem?_eq_getElem hiv⟩))
theorem bind_core {fd : FuncData} {as : List Arg} {dfl : List Expr} {ko : List (Option Expr)} (hp : fd.params = ⟨[], as, none, [], ko, none, dfl⟩) {vs : List Value} : ∃ k, bindArgs fd ⟨vs, []⟩ = seqItems? fd.defaults >>= k ∧
  ∀ (d : Option (Array Value)) (ns : List Str) (D : List Value), ns = as.map (·.arg) → D = (d.getD #[]).toList.drop ((d.getD #[]).toList.length - ns.length) → vs.length ≤ ns.length → ns.length - D.length ≤ vs.length → ∀ r : List (Str × Value), ((ns.drop (ns.length - D.length)).zip D).foldl (fun r p => fillStep p r) (ns.zip vs) = r →
   k d = pure ((ns ++ []).filterMap fun n => (r.lookup n).map (n, ·)) := by
 cases fd
 cases hp
 refine ⟨_, rfl, ?_⟩
 rintro d _ _ rfl rfl h1 h2 _ rfl
 refine (if_neg (fun q => absurd (of_decide_eq_true (ba q).1) (Nat.not_lt.mpr h1))).trans ?_
 refine (if_neg (fun q => ?_)).trans ?_
 ·exact ft ((congrArg (fun l : List Str => !l.isEmpty) (miss_nil h2)).symm.trans q)
 exact bind_via (forIn_fill _) rfl
theorem bind_gen {s : Shared} {fd : FuncData} {as : List Arg} {dfl : List Expr} {ko : List (Option Expr)} (hp : fd.params = ⟨[], as, none, [], ko, none, dfl⟩) (nd : (as.map (·.arg)).Nodup) {items : List Value} (hdef : (fd.defaults = .none ∧ items = []) ∨ ∃ T o n, fd.defaults = .ref T ∧ s.heap.get? T = some o ∧ o.data = .seq items.toArray n)
  {vs : List Value} (h1 : vs.length ≤ as.length) (h2 : as.length ≤ vs.length + items.length) (hit : items.length ≤ as.length) : BindsTo s fd ⟨vs, []⟩ ((as.map (·.arg)).zip (vs ++ items.drop (items.length + vs.length - as.length))) := by
 obtain ⟨k, e, hk⟩ := bind_core hp (vs := vs)
 have hln : (as.map (·.arg)).length = as.length := List.length_map _
 have key : ∀ d : Option (Array Value), (d.getD #[]).toList = items → k d = pure ((as.map (·.arg)).zip (vs ++ items.drop (items.length + vs.length - as.length))) := fun d hd => by
  refine (hk d _ items rfl (by rw [hd, hln, Nat.sub_eq_zero_of_le hit, List.drop_zero]) (by rw [hln]; exact h1) (by rw [hln]; exact Nat.sub_le_iff_le_add.mpr h2) _ (fold_fill (b := items.length + vs.length - as.length) ?_ ?_ ?_ nd)).trans ?_
  ·rw [hln, Nat.sub_add_cancel hit]
  ·rw [hln]; clear hk e; lia
  ·exact Nat.sub_le_iff_le_add.mpr (Nat.add_le_add_left h1 _)
  ·rw [List.append_nil]
   exact congrArg pure (zip_filterMap _ _ [] nd (by rw [hln, List.length_append, List.length_drop]; clear hk e; lia) fun _ _ => rfl)
 intro M A E Q hq
 rw [e]
 rcases hdef with ⟨e1, e2⟩ | ⟨T, o, n, e1, e2, e3⟩
 ·rw [e1]
  exact wpAny_bind (wpAny_bind (wpAny_pure (wpAny_pure (by rw [key none e2.symm]; exact wpAny_pure hq))))
 ·rw [e1]
  exact wpAny_bind (wpAny_seqItems e2 e3 (by rw [key (some items.toArray) rfl]; exact wpAny_pure hq))
theorem bind_eq {fd : FuncData} {as : List Arg} {dfl : List Expr} {ko : List (Option Expr)} (hp : fd.params = ⟨[], as, none, [], ko, none, dfl⟩) (nd : (as.map (·.arg)).Nodup) (hdef : fd.defaults = .none) {vs : List Value} (h1 : vs.length = as.length) :
  bindArgs fd ⟨vs, []⟩ = pure ((as.map (·.arg)).zip vs) := by
 obtain ⟨k, e, hk⟩ := bind_core hp (vs := vs)
 have hln : (as.map (·.arg)).length = vs.length := (List.length_map _).trans h1.symm
 rw [e, hdef]
 refine bind_via (a := none) rfl ((hk none _ [] rfl List.drop_nil.symm (Nat.le_of_eq hln.symm) (by rw [hln]; exact Nat.sub_le _ _) _ (by rw [List.zip_nil_right])).trans ?_)
 rw [List.append_nil]
 exact congrArg pure (zip_filterMap _ vs [] nd hln fun _ _ => rfl)
end
section
set_option backward.match.sparseCases false
open PySem PySem.W PySem.SeqAt
variable {κ κ' : OG}
theorem appD_app (a b : List Dat) : appD a b = a ++ b := appD_eq a b
set_option tactic.hygienic true in
theorem bindR_spec {f : Fn} : ∀ (ds ρ : List Dat) (n : Nat), bindR f ds n = some ρ → ∃ k, ds.length + k = n ∧ k ≤ f.dflts.length ∧ ρ = ds ++ (f.dflts.drop (f.dflts.length - k) ++ f.rest)
 | [], ρ, 0, h => by
  obtain rfl := si h
  exact ⟨0, rfl, Nat.zero_le _, by simp⟩
 | [], ρ, k + 1, h => by
  have h' : dflR f (k + 1) = some ρ := h
  unfold dflR at h'
  split at h'
  ·rename_i hle
   obtain rfl := si h'
   exact ⟨k + 1, by simp, Nat.le_of_ble_eq_true hle, by rw [appD_app, List.nil_append]⟩
  ·exact nn h'
 | d :: ds, ρ, 0, h => by exact nn h
 | d :: ds, ρ, k + 1, h => by
  have h' : consO d (bindR f ds k) = some ρ := h
  induction q : bindR f ds k with
  | none => rw [q] at h'; exact nn h'
  | some ρ' =>
   rw [q] at h'
   obtain rfl := si h'
   refine o_xaa (bindR_spec ds ρ' k q) fun j e1 e2 e3 => ?_
   exact ⟨j, by rw [List.length_cons]; (simp +arith at *; assumption), e2, by rw [e3]; rfl⟩
/-! facts read off the known heap -/
noncomputable def fnAt (K : Frag) (a : Addr) : Option FuncData := match K.lookup a with
 | some o => match o.data with
  | .func fd => some fd
  | _ => none
 | none => none
set_option tactic.hygienic true in
theorem fnAt_get {K : Frag} {h : Heap} (X : K.In h) {a : Addr} {fd : FuncData} (e : fnAt K a = some fd) : ∃ o, h.get? a = some o ∧ o.data = .func fd := by
 unfold fnAt at e
 split at e
 ·rename_i o ho
  split at e
  ·rename_i fd' hd
   obtain rfl := si e
   exact ⟨o, X _ _ ho, hd⟩
  ·exact nn e
 ·exact nn e
noncomputable def codeOk (K : Frag) (fd : FuncData) : Bool := match fd.code with
 | .ref c => match K.lookup c with
  | some o => match o.data with
   | .fields vs => match (vs[1]? : Option Value) with
    | some (.str q _) => Fast.sEq q fd.qualname
    | _ => false
   | _ => false
  | none => false
 | _ => false
set_option tactic.hygienic true in
theorem codeOk_rec {K : Frag} {h : Heap} (X : K.In h) {fd : FuncData} (e : codeOk K fd = true) : h.CodeRec fd.code fd.qualname := by
 unfold codeOk at e
 split at e
 ·rename_i c hc
  split at e
  ·rename_i o ho
   split at e
   ·rename_i vs hd
    split at e
    ·rename_i q t hq
     rw [← Fast.sEq_iff.mp e]
     exact ⟨c, o, vs, t, hc, X _ _ ho, hd, hq⟩
    ·exact ft e
   ·exact ft e
  ·exact ft e
 ·exact ft e
noncomputable def dflVals (K : Frag) (fd : FuncData) : Option (List Value) := match fd.defaults with
 | .none => some []
 | .ref T => match K.lookup T with
  | some o => match o.data with
   | .seq xs _ => some xs.toList
   | _ => none
  | none => none
 | _ => none
set_option tactic.hygienic true in
theorem dflVals_of {K : Frag} {h : Heap} (X : K.In h) {fd : FuncData} {items : List Value} (e : dflVals K fd = some items) : (fd.defaults = .none ∧ items = []) ∨ ∃ T o n, fd.defaults = .ref T ∧ h.get? T = some o ∧ o.data = .seq items.toArray n := by
 unfold dflVals at e
 split at e
 ·rename_i hd
  obtain rfl := si e
  exact .inl ⟨hd, rfl⟩
 ·rename_i T hd
  split at e
  ·rename_i o ho
   split at e
   ·rename_i xs n hx
    obtain rfl := si e
    exact .inr ⟨T, o, n, hd, X _ _ ho, by rw [hx]⟩
   ·exact nn e
  ·exact nn e
 ·exact nn e
noncomputable def datVal : Value → Option Dat
 | .none => some .none
 | .bool b => some (.bool b)
 | .int i _ => some (.int i)
 | .str x _ => match okSB x with
  | true => some (.str (codeS x))
  | false => none
 | _ => none
set_option tactic.hygienic true in
theorem datVal_of {Ω : Nat → Value} {h : Heap} {v : Value} {d : Dat} (e : datVal v = some d) : DatH Ω h v d := by
 unfold datVal at e
 split at e
 ·obtain rfl := si e; exact .none
 ·obtain rfl := si e; exact .bool _
 ·obtain rfl := si e; exact .int _ _
 ·split at e
  ·rename_i hx
   obtain rfl := si e
   exact .str _ _ (okSB_eq hx)
  ·exact nn e
 ·exact nn e
noncomputable def datVals : List Value → Option (List Dat)
 | [] => some []
 | v :: r => match datVal v with
  | some d => match datVals r with
   | some ds => some (d :: ds)
   | none => none
  | none => none
set_option tactic.hygienic true in
theorem datVals_of {Ω : Nat → Value} {h : Heap} : ∀ {vs : List Value} {ds : List Dat}, datVals vs = some ds → DatsH Ω h vs ds
 | [], ds, e => by obtain rfl := si e; exact .nil
 | v :: r, ds, e => by
  unfold datVals at e
  split at e
  ·rename_i d hd
   split at e
   ·rename_i ds' hr
    obtain rfl := si e
    exact .cons (datVal_of hd) (datVals_of hr)
   ·exact nn e
  ·exact nn e
end
section
set_option backward.match.sparseCases false
open PySem PySem.W PySem.SeqAt
variable {κ κ' : OG}
noncomputable def argsOf (fd : FuncData) : Option (List Arg) := match fd.params with
 | ⟨po, as, va, kos, _, kw, _⟩ => match po.isEmpty && va.isNone && kos.isEmpty && kw.isNone with
  | true => some as
  | false => none
set_option tactic.hygienic true in
theorem argsOf_eq {fd : FuncData} {as : List Arg} (h : argsOf fd = some as) : ∃ ko dfl, fd.params = ⟨[], as, none, [], ko, none, dfl⟩ := by
 unfold argsOf at h
 generalize fd.params = p at h
 refine via fun Gv kv => ?_
 obtain ⟨po, as', va, kos, ko, kw, dfl⟩ := p
 refine kv ?_
 clear kv Gv
 dsimp only at h
 split at h
 ·rename_i hb
  simp only [Bool.and_eq_true, List.isEmpty_iff, Option.isNone_iff_eq_none] at hb
  refine via fun Gv kv => ?_
  obtain ⟨⟨⟨rfl, rfl⟩, rfl⟩, rfl⟩ := hb
  refine kv ?_
  clear kv Gv
  obtain rfl := si h
  exact ⟨ko, dfl, rfl⟩
 ·exact nn h
noncomputable def strsEq : List Str → List Str → Bool
 | [], [] => true
 | x :: a, y :: b => Fast.sEq x y && strsEq a b
 | _, _ => false
theorem strsEq_eq : ∀ {a b : List Str}, strsEq a b = true → a = b
 | [], [], _ => rfl
 | x :: a, y :: b, h => by
  refine b_Lnn (show (Fast.sEq x y && strsEq a b) = true from h) fun h1 h2 => ?_
  rw [Fast.sEq_iff.mp h1, strsEq_eq h2]
 | [], _ :: _, h => by exact ft h
 | _ :: _, [], h => by exact ft h
noncomputable def nodupB : List Str → Bool
 | [] => true
 | x :: r => !(r.any (Fast.sEq x)) && nodupB r
theorem nodupB_of : ∀ {l : List Str}, nodupB l = true → l.Nodup
 | [], _ => List.nodup_nil
 | x :: r, h => by
  refine b_Lnn (show (!(r.any (Fast.sEq x)) && nodupB r) = true from h) fun h1 h2 => ?_
  refine List.nodup_cons.mpr ⟨fun hm => ?_, nodupB_of h2⟩
  rw [Bool.not_eq_true', List.any_eq_false] at h1
  exact h1 x hm (Fast.sEq_iff.mpr rfl)
noncomputable def plainFd (K : Frag) (fd : FuncData) : Bool := (fd.scope.kind == .function) && !fd.scope.isCoroutine && !fd.scope.isGenerator && Nat.beq fd.globals mainGlobals && Nat.beq fd.builtins builtinsNs && fd.closure.isEmpty && codeOk K fd && fd.scope.names.all fun p => !(p.2 == .free)
structure PlainFd (B : Heap) (fd : FuncData) : Prop where
 kind : fd.scope.kind = .function
 co : fd.scope.isCoroutine = false
 gen : fd.scope.isGenerator = false
 glob : fd.globals = mainGlobals
 blt : fd.builtins = builtinsNs
 clo : fd.closure = []
 code : B.CodeRec fd.code fd.qualname
 free : ∀ x ∈ fd.scope.names, x.2 ≠ .free
theorem plainFd_of {K : Frag} {B : Heap} (X : K.In B) {fd : FuncData} (h : plainFd K fd = true) : PlainFd B fd := by
 unfold plainFd at h
 simp only [Bool.and_eq_true, beq_iff_eq, Bool.not_eq_true', List.isEmpty_iff, List.all_eq_true, beq_eq_false_iff_ne] at h
 refine via fun Gv kv => ?_
 obtain ⟨⟨⟨⟨⟨⟨⟨h1, h2⟩, h3⟩, h4⟩, h5⟩, h6⟩, h7⟩, h8⟩ := h
 refine kv ?_
 clear kv Gv
 exact ⟨h1, h2, h3, Nat.eq_of_beq_eq_true h4, Nat.eq_of_beq_eq_true h5, h6, codeOk_rec X h7, h8⟩
noncomputable def fnB (K : Frag) (f : Fn) (fd : FuncData) (cells : Bool) : Bool := plainFd K fd && (argsOf fd).any (fun as => strsEq (f.slots.take f.np) (as.map (·.arg)) && (dflVals K fd).any fun it => Nat.ble it.length as.length) && okSt fd.scope.names f.slots f.body && nodupB f.slots && Nat.ble f.np f.slots.length &&
 Nat.beq f.rest.length (f.slots.length - f.np) && f.rest.all isHole && (match cells with
  | true => (fd.defaults == .none) && (f.slots.take f.np).all (fun x => (fd.scope.names.lookup x == some .local) || (fd.scope.names.lookup x == some .cell))
  | false => fd.scope.names.all (fun p => !(p.2 == .cell)) && (f.slots.take f.np).all fun x => fd.scope.names.lookup x == some .local)
theorem isHole_eq {d : Dat} (h : isHole d = true) : d = .hole := by induction d using Dat.casesOn <;> first | rfl | exact ft h
section
variable {S : Fixed} {K : Frag} {f : Fn} {fd : FuncData}
theorem rest_holes {f : Fn} (h : f.rest.all isHole = true) {pre : List Dat} (hl : pre.length = f.np) {i : Nat} {d : Dat} (hi : f.np ≤ i) (hd : (pre ++ f.rest)[i]? = some d) : d = .hole := by
 rw [List.getElem?_append_right (by (simp_all +arith))] at hd
 exact isHole_eq (List.all_eq_true.mp h d (List.mem_of_getElem? hd))
theorem fnOk_of (X : K.In S.B0) (hb : fd.body = .stmts (toSs f.body)) (hd : (dflVals K fd).bind datVals = some f.dflts) (h : fnB K f fd false = true)
  (hlam : ∀ l ∈ S.lams, l.sc = fd.scope.names → ∃ c, fd.code = .ref c ∧ CodeHd S.B0 c l.P ∧ l.qual = fd.qualname ++ ".<locals>." ++ "<lambda>") : FnOk S f fd := by
 unfold fnB at h
 simp only [Bool.and_eq_true, List.all_eq_true, beq_iff_eq, Bool.not_eq_true', beq_eq_false_iff_ne] at h
 refine via fun Gv kv => ?_
 refine o_aa h fun r0' h8 h9 => ?_
 clear h
 obtain ⟨⟨⟨⟨⟨⟨h1, h2⟩, h3⟩, h4⟩, h5⟩, h6⟩, h7⟩ := r0'
 refine o_xa (any_some h2) fun as ha h2 => ?_
 refine b_Lnn h2 fun h2a h2b => ?_
 refine o_xa (any_some h2b) fun items hit hle => ?_
 have hle := Nat.le_of_ble_eq_true hle
 have P := plainFd_of X h1
 refine o_xx (argsOf_eq ha) fun ko dfl hpar => ?_
 refine kv ?_
 clear kv Gv
 have hsl := strsEq_eq h2a
 have hnd := nodupB_of h4
 have hnp := Nat.le_of_ble_eq_true h5
 have hrl := Nat.eq_of_beq_eq_true h6
 have has : as.length = f.np := by
  have := congrArg List.length hsl
  rw [List.length_take, List.length_map, Nat.min_eq_left hnp] at this
  exact this.symm
 rw [hit] at hd
 have hdv : datVals items = some f.dflts := hd
 refine ⟨hb, h3, hnd, P.kind, P.co, P.gen, fun x hx => ⟨h8 x hx, P.free x hx⟩, P.code, P.glob, P.blt, P.clo, hlam, h9, hnp, fun s vs ds ρ st D hbd => ?_⟩
 refine o_xaa (bindR_spec ds ρ f.np hbd) fun k e1 e2 e3 => ?_
 have hvl := D.length
 have Ddf : DatsH S.Ω s.heap items f.dflts := datVals_of hdv
 have hil := Ddf.length
 have hkl : k ≤ items.length := hil ▸ e2
 have hvk : k + vs.length = as.length := by rw [has, ← e1, hvl, Nat.add_comm]
 have hk : items.length + vs.length - as.length = items.length - k := by rw [← hvk, Nat.add_sub_add_right]
 refine ⟨vs ++ items.drop (items.length + vs.length - as.length), ?_, ?_, ?_, ?_, ?_⟩
 ·rw [hsl]
  exact bind_gen hpar (by rw [← hsl]; exact hnd.sublist (List.take_sublist _ _)) (dflVals_of (X.keeps st) hit) (hvk ▸ Nat.le_add_left _ _) (by rw [← hvk, Nat.add_comm]; exact Nat.add_le_add_left hkl _) hle
 ·have : ρ.take f.np = ds ++ f.dflts.drop (f.dflts.length - k) := by
   rw [e3, ← List.append_assoc]
   exact List.take_left' (by rw [List.length_append, List.length_drop, Nat.sub_sub_self e2, e1])
  rw [this, hk, ← hil]
  exact D.append (Ddf.drop _)
 ·rw [List.length_append, List.length_drop, hk, Nat.sub_sub_self hkl]; rw [hvl, e1]
 ·intro i d hi hdd
  rw [e3, ← List.append_assoc] at hdd
  exact rest_holes (List.all_eq_true.mpr h7) (by rw [List.length_append, List.length_drop, Nat.sub_sub_self e2, e1]) hi hdd
 ·rw [e3, List.length_append, List.length_append, List.length_drop, Nat.sub_sub_self e2, ← Nat.add_assoc, e1]; rw [hrl]; exact Nat.add_sub_cancel' hnp
theorem fnC_of (X : K.In S.B0) (hd : f.dflts = []) (h : fnB K f fd true = true)
  (hlam : ∀ l ∈ S.lams, l.sc = fd.scope.names → ∃ c, fd.code = .ref c ∧ CodeHd S.B0 c l.P ∧ l.qual = fd.qualname ++ ".<locals>." ++ "<lambda>") : FnC S f fd := by
 unfold fnB at h
 simp only [Bool.and_eq_true, List.all_eq_true, beq_iff_eq, Bool.or_eq_true] at h
 refine via fun Gv kv => ?_
 refine o_aa h fun r0' h8 h9 => ?_
 clear h
 obtain ⟨⟨⟨⟨⟨⟨h1, h2⟩, h3⟩, h4⟩, h5⟩, h6⟩, h7⟩ := r0'
 refine o_xa (any_some h2) fun as ha h2 => ?_
 refine b_Lnn h2 fun h2a h2b => ?_
 have P := plainFd_of X h1
 refine o_xx (argsOf_eq ha) fun ko dfl hpar => ?_
 refine kv ?_
 clear kv Gv
 have hsl := strsEq_eq h2a
 have hnd := nodupB_of h4
 have hnp := Nat.le_of_ble_eq_true h5
 have hrl := Nat.eq_of_beq_eq_true h6
 have has : as.length = f.np := by
  have := congrArg List.length hsl
  rw [List.length_take, List.length_map, Nat.min_eq_left hnp] at this
  exact this.symm
 refine ⟨hnd, P.kind, P.co, P.gen, P.free, P.code, P.glob, P.blt, P.clo, hlam, h9, hnp, fun vs ds ρ hvl hbd => ?_⟩
 refine o_xaa (bindR_spec ds ρ f.np hbd) fun k e1 e2 e3 => ?_
 rw [hd] at e2 e3
 have hk0 : k = 0 := by simpa using e2
 subst hk0
 have e3' : ρ = ds ++ f.rest := by rw [e3]; simp
 have e1' : ds.length = f.np := e1
 refine ⟨?_, ?_, hvl.trans e1', fun i d hi hdd => ?_, ?_⟩
 ·rw [hsl]
  exact bind_eq hpar (by rw [← hsl]; exact hnd.sublist (List.take_sublist _ _)) h8 ((hvl.trans e1').trans has.symm)
 ·rw [e3']
  exact (List.take_left' e1').symm
 ·rw [e3'] at hdd
  exact rest_holes (List.all_eq_true.mpr h7) e1' hi hdd
 ·rw [e3', List.length_append, e1', hrl]; exact Nat.add_sub_cancel' hnp
theorem fnB_ok {cells : Bool} (h : fnB K f fd cells = true) : okSt fd.scope.names f.slots f.body = true := by
 unfold fnB at h
 simp only [Bool.and_eq_true] at h
 exact h.1.1.1.1.1.2
theorem fnOkC_of (X : K.In S.B0) (hb : fd.body = .stmts (toSs f.body)) (hd : f.dflts = []) (h : fnB K f fd true = true)
  (hlam : ∀ l ∈ S.lams, l.sc = fd.scope.names → ∃ c, fd.code = .ref c ∧ CodeHd S.B0 c l.P ∧ l.qual = fd.qualname ++ ".<locals>." ++ "<lambda>") : FnOkC S f fd := ⟨hb, fnB_ok h, fnC_of X hd h hlam⟩
end
end
section
open PySem PySem.W PySem.SeqAt
variable {κ κ' : OG}
noncomputable def handB (K : Frag) (ps : List Str) (fd : FuncData) : Bool := plainFd K fd && (argsOf fd).any (fun as => strsEq ps (as.map (·.arg)) && (dflVals K fd).any fun it => Nat.ble it.length as.length) && nodupB ps && fd.scope.names.all (fun p => !(p.2 == .cell)) && ps.all fun x => fd.scope.names.lookup x == some .local
section
variable {S : Fixed} {K : Frag} {fd : FuncData}
theorem binds_of (X : K.In S.B0) {ps : List Str} (h : handB K ps fd = true) {items : List Value} (hit : dflVals K fd = some items) {s : Shared} (st : S.B0.StaysIn s.heap) {vs : List Value} (h1 : vs.length ≤ ps.length) (h2 : ps.length ≤ vs.length + items.length) :
  BindsTo s fd ⟨vs, []⟩ (ps.zip (vs ++ items.drop (items.length + vs.length - ps.length))) := by
 unfold handB at h
 refine via fun Gv kv => ?_
 refine b_LLLLnnnnn h fun g1 g2 g3 g4 g5 => ?_
 clear h
 refine o_xa (any_some g2) fun as ha g2 => ?_
 refine b_Lnn g2 fun g2a g2b => ?_
 refine o_xa (any_some g2b) fun items' hit' hle => ?_
 refine kv ?_
 clear kv Gv
 rw [hit] at hit'
 obtain rfl := si hit'
 refine o_xx (argsOf_eq ha) fun ko dfl hpar => ?_
 have hps := strsEq_eq g2a
 have hl : ps.length = as.length := by rw [hps, List.length_map]
 have := bind_gen (s := s) hpar (by rw [← hps]; exact nodupB_of g3) (dflVals_of (X.keeps st) hit) (vs := vs) (by (simp_all +arith)) (by (simp_all +arith)) (Nat.le_of_ble_eq_true hle)
 rw [← hps, ← hl] at this
 exact this
theorem handFn_of (X : K.In S.B0) {ps : List Str} {body : List Stmt} (hb : fd.body = .stmts body) (h : handB K ps fd = true) : HandFn S ps body fd := by
 have h' := h
 unfold handB at h
 simp only [Bool.and_eq_true, List.all_eq_true, beq_iff_eq, Bool.not_eq_true', beq_eq_false_iff_ne] at h
 refine via fun Gv kv => ?_
 obtain ⟨⟨⟨⟨g1, g2⟩, g3⟩, g4⟩, g5⟩ := h
 refine o_xa (any_some g2) fun as ha g2 => ?_
 refine b_Lnn g2 fun g2a g2b => ?_
 refine o_xa (any_some g2b) fun items hit hle => ?_
 refine kv ?_
 clear kv Gv
 have P := plainFd_of X g1
 refine ⟨hb, P.kind, P.co, P.gen, fun x hx => ⟨g4 x hx, P.free x hx⟩, P.code, P.glob, P.blt, g5, nodupB_of g3, fun s vs st hl => ?_⟩
 have := binds_of X h' hit st (vs := vs) (by (simp_all +arith)) (by (simp_all +arith))
 rw [show items.length + vs.length - ps.length = items.length by (simp [*]), List.drop_length, List.append_nil] at this
 exact this
end
/-! names of the module -/
noncomputable def gl (K : Frag) (x : Str) : Option (Option Value) := match K.lookup mainGlobals with
 | some o => lookIn x o
 | none => none
theorem ns_look {h : Heap} {a : Addr} {m : Str → Option Value} (hn : h.Ns a m) {o : Obj} (ho : h.get? a = some o) {x : Str} {r : Option Value} (e : lookIn x o = some r) : m x = r := by
 refine o_xa (lookIn_of_ns hn) fun o' ho' hh => ?_
 rw [ho] at ho'
 obtain rfl := si ho'
 exact (Option.some.inj ((hh x).symm.trans e))
set_option tactic.hygienic true in
theorem gl_of {K : Frag} {h : Heap} (X : K.In h) {mg : Str → Option Value} (hn : h.Ns mainGlobals mg) {x : Str} {r : Option Value} (e : gl K x = some r) : mg x = r := by
 unfold gl at e
 split at e
 ·rename_i o ho
  exact ns_look hn (X _ _ ho) e
 ·exact nn e
end
section
set_option backward.match.sparseCases false
open PySem PySem.W PySem.SeqAt
variable {κ κ' : OG}
noncomputable def defBody : Stmt → List Stmt
 | .FunctionDef _ _ b _ _ _ _ _ _ _ => b
 | _ => []
noncomputable def methAt (c i : Nat) : Stmt := (clsBody (stAt c)).getD i (.Pass ⟨0, 0, 0, 0⟩)
theorem known_shape : defBody (stAt 77) = knownT := by kernel_rfl
theorem tried_shape : defBody (stAt 103) = triedT := by kernel_rfl
theorem under_shape : defBody (stAt 53) = underT := by kernel_rfl
end
section
open PySem PySem.W PySem.SeqAt
variable {κ κ' : OG}
theorem base_shape : defBody (methAt 98 1) = baseT := by kernel_rfl
theorem law_chk_shape : defBody (stAt 104) = chkT := by kernel_rfl
theorem isc_shape : ∃ b1 b2, defBody (stAt 63) = iscT b1 b2 := ⟨_, _, rfl⟩
theorem isc_swap : swapOk (namesOf (stAt 63)) [.Name (Str.ofString "left") (iscP 0), .Name (Str.ofString "met") (iscP 1)] [.List [.Name (Str.ofString "T") (iscP 3)] (iscP 4), .List [] (iscP 5)] [Str.ofString "left", Str.ofString "met"] = true := by kernel_rfl
end
section
set_option backward.match.sparseCases false
open PySem PySem.W PySem.SeqAt
variable {κ κ' : OG}
theorem xat_iff {S T : Fixed} (h1 : S.B0 = T.B0) (h2 : S.Ω = T.Ω) (h3 : S.exc = T.exc) {h : Heap} {e : Addr} {c : Nat} {p : Dat} {oe : Obj} {vs : Array Value} (x : XAt S h e c p oe vs) : XAt T h e c p oe vs := by
 refine o_xxxxxaaaa x.dict fun D mD v y t d1 d2 d3 d4 d5 => ?_
 exact ⟨x.get, by rw [← h3]; exact x.cls, x.data, x.size, x.ctx, by rw [← h1]; exact x.base, D, mD, v, y, t, d1, d2, d3, by rw [← h2]; exact d4, d5⟩
theorem xfly_iff {S T : Fixed} (h1 : S.B0 = T.B0) (h2 : S.Ω = T.Ω) (h3 : S.exc = T.exc) {h : Heap} {e : Addr} {c : Nat} {p : Dat} (x : XFly S h e c p) : XFly T h e c p := by
 rcases x with ⟨oe, vs, x, g⟩ | ⟨oe, vs, A, x, g, t⟩
 ·exact .inl ⟨oe, vs, xat_iff h1 h2 h3 x, g⟩
 ·exact .inr ⟨oe, vs, A, xat_iff h1 h2 h3 x, g, by rw [← h1]; exact t.base, t.ne, t.get⟩
noncomputable def mkFixed (prog : Program) (w : World) (B0 : Heap) (Ω : Nat → Value) (consts : Nat → Dat) (lams : List LamTab) (exc : Nat → Addr) (g : OG) : Fixed :=
 { prog := prog, w := w, B0 := B0, Ω := Ω, X := XFly { prog := prog, w := w, B0 := B0, Ω := Ω, X := fun _ _ _ _ => True, consts := consts, lams := lams, exc := exc, og := g }, consts := consts, lams := lams, exc := exc, og := g }
theorem mkFixed_isX {prog : Program} {w : World} {B0 : Heap} {Ω : Nat → Value} {consts : Nat → Dat} {lams : List LamTab} {exc : Nat → Addr} {g : OG} : (mkFixed prog w B0 Ω consts lams exc g).X = XFly (mkFixed prog w B0 Ω consts lams exc g) := by
 funext h e c p
 refine propext ⟨fun x => @xfly_iff _ (mkFixed prog w B0 Ω consts lams exc g) ?_ ?_ ?_ h e c p x, fun x => @xfly_iff (mkFixed prog w B0 Ω consts lams exc g) _ ?_ ?_ ?_ h e c p x⟩ <;> rfl
/-! constants of the module, read off the known heap -/
noncomputable def datsK (f : Value → Option Dat) : List Value → Option (List Dat)
 | [] => some []
 | v :: r => match f v with
  | some d => match datsK f r with
   | some ds => some (d :: ds)
   | none => none
  | none => none
noncomputable def datK (K : Frag) : Nat → Value → Option Dat
 | 0, _ => none
 | n + 1, v => match v with
  | .ref a => match K.lookup a with
   | some o => match o.data with
    | .seq xs _ => match o.cls == .type "tuple" with
     | true => match datsK (datK K n) xs.toList with
      | some ds => some (.tup ds)
      | none => none
     | false => none
    | _ => none
   | none => none
  | v => datVal v
set_option tactic.hygienic true in
theorem datsK_of {Ω : Nat → Value} {h : Heap} {f : Value → Option Dat} (I : ∀ v d, f v = some d → DatH Ω h v d) : ∀ {vs : List Value} {ds : List Dat}, datsK f vs = some ds → DatsH Ω h vs ds
 | [], ds, e => by obtain rfl := si e; exact .nil
 | v :: r, ds, e => by
  unfold datsK at e
  split at e
  ·rename_i d hd
   split at e
   ·rename_i ds' hr
    obtain rfl := si e
    exact .cons (I v d hd) (datsK_of I hr)
   ·exact nn e
  ·exact nn e
set_option tactic.hygienic true in
theorem datK_of {K : Frag} {Ω : Nat → Value} {h : Heap} (X : K.In h) : ∀ n v d, datK K n v = some d → DatH Ω h v d
 | 0, _, _, e => by exact nn e
 | n + 1, v, d, e => by
  unfold datK at e
  split at e
  ·rename_i a
   split at e
   ·rename_i o ho
    split at e
    ·rename_i xs k hx
     split at e
     ·rename_i hc
      split at e
      ·rename_i ds hds
       obtain rfl := si e
       have : xs = xs.toList.toArray := by simp
       rw [this] at hx
       exact .tup ⟨o, X _ _ ho, eq_of_beq hc, k, hx⟩ (datsK_of (datK_of X n) hds)
      ·exact nn e
     ·exact nn e
    ·exact nn e
   ·exact nn e
  ·exact datVal_of e
noncomputable def rowsK : List DictEntry → Option (List (Str × Value × Int))
 | [] => some []
 | e :: r => match e.key with
  | .str x _ => match rowsK r with
   | some us => some ((x, e.val, e.hash) :: us)
   | none => none
  | _ => none
noncomputable def tabK (K : Frag) (a : Addr) : Option (List (Str × Value × Int)) := match K.lookup a with
 | some o => match o.data with
  | .dict es _ => match o.cls == .type "dict" with
   | true => rowsK es.toList
   | false => none
  | _ => none
 | none => none
set_option tactic.hygienic true in
theorem rowsK_keys {prog : Program} {w : World} : ∀ {es : List DictEntry} {us : List (Str × Value × Int)}, rowsK es = some us → (∀ p ∈ us, p.2.2 = hashStr w p.1) → (∀ e ∈ es, ∃ k, (strKind prog w).is k e.key = true ∧ e.hash = (strKind prog w).hash k) ∧ ∀ k, (es.find? fun e => (strKind prog w).is k e.key).map (·.val) = (us.map fun p => (p.1, p.2.1)).lookup k
 | [], us, h, _ => by obtain rfl := si h; exact ⟨fun e he => (by cases he), fun k => rfl⟩
 | e :: r, us, h, hh => by
  unfold rowsK at h
  split at h
  ·rename_i x t hk
   split at h
   ·rename_i us' hr
    obtain rfl := si h
    obtain ⟨a, b⟩ := rowsK_keys (prog := prog) (w := w) hr fun p hp => hh p (.tail _ hp)
    have hkey : ∀ k, (strKind prog w).is k e.key = decide (k = x) := fun k => by
     show Value.isStrOf k e.key = _
     rw [hk]
     show (x == k) = _
     by_cases q : k = x
     ·subst q; simp
     ·rw [beq_eq_false_iff_ne.mpr (Ne.symm q)]
      simp [q]
    refine ⟨fun e' he => ?_, fun k => ?_⟩
    ·rcases List.mem_cons.mp he with q | q
     ·subst q
      exact ⟨x, by rw [hkey]; simp, hh _ (.head _)⟩
     ·exact a e' q
    ·rw [List.find?_cons, List.map_cons, List.lookup_cons, hkey]
     by_cases q : k = x
     ·subst q; simp
     ·rw [beq_eq_false_iff_ne.mpr q]
      simp only [q, decide_false]
      exact b k
   ·exact nn h
  ·exact nn h
set_option tactic.hygienic true in
theorem tabK_of {K : Frag} {h : Heap} (X : K.In h) {prog : Program} {w : World} {a : Addr} {us : List (Str × Value × Int)} (e : tabK K a = some us) (hh : ∀ p ∈ us, p.2.2 = hashStr w p.1) : STab prog w h a fun k => (us.map fun p => (p.1, p.2.1)).lookup k := by
 unfold tabK at e
 split at e
 ·rename_i o ho
  split at e
  ·rename_i es ep hd
   split at e
   ·rename_i hc
    obtain ⟨g1, g2⟩ := rowsK_keys (prog := prog) (w := w) e hh
    refine ⟨o, es, ep, X _ _ ho, eq_of_beq hc, hd, fun e he => g1 e (Array.mem_toList_iff.mpr he), fun k => ?_⟩
    unfold findBy
    rw [← Array.find?_toList]
    exact g2 k
   ·exact nn e
  ·exact nn e
 ·exact nn e
end
section
open PySem PySem.W PySem.SeqAt
variable {κ κ' : OG}
noncomputable def InitSh (st : Stmt) (sf : Str) (ps zs : List Str) (nm : Str) (ex : Expr) (npre npost : List Str) : Prop := ∃ (pre post : List Stmt) (p1 p2 p3 : Pos), defBody st = pre ++ .Assign [.Attribute (.Name sf p1) nm p2] ex p3 :: post ∧
 pre.map (initName (namesOf st) (sf :: ps) zs sf) = npre.map some ∧ post.map (initName (namesOf st) (sf :: ps) zs sf) = npost.map some ∧ ∀ env, swapsWith ex (some (.Attribute (.Name sf p1) nm p2)) p3.line env = pure false
structure InitK (K : Frag) (C fI : Addr) (st : Stmt) (sf : Str) (ps : List Str) (nm : Str) (ab npre npost : List Str) : Prop where
 body : (fnAt K fI).map (·.body) = some (.stmts (defBody st))
 names : (fnAt K fI).map (·.scope.names) = some (namesOf st)
 hand : (fnAt K fI).any (handB K (sf :: ps)) = true
 makes : makesIn K C = true
 init : findIn K (.ref C) "__init__" = some (some (.ref fI))
 fty : typeIn K (.ref fI) = some (.type "function")
 sets : setsIn K C = true
 takes : ((npre ++ nm :: npost).all fun y => takerIn K C y == some none) = true
 len : npre.length + npost.length ≤ 60
 one : (npost.any (Fast.sEq nm)) = false
 absent : (ab.all fun y => !((npre ++ nm :: npost).any (Fast.sEq y))) = true
 dbg : (sf == ("__debug__" : Str)) = false
theorem not_any {x : Str} {l : List Str} (h : l.any (Fast.sEq x) = false) : x ∉ l := fun hm => by
 rw [List.any_eq_false] at h
 exact h x hm (Fast.sEq_iff.mpr rfl)
section
variable {S : Fixed} {K : Frag} {C fI : Addr} {st : Stmt} {sf : Str} {ps zs : List Str} {nm : Str} {ab npre npost : List Str} {ex : Expr}
theorem init_of (X : K.In S.B0) (I : InitK K C fI st sf ps nm ab npre npost) (H : InitSh st sf ps zs nm ex npre npost) : ∃ fd, fnAt K fI = some fd ∧ fd.scope.names = namesOf st ∧ handB K (sf :: ps) fd = true ∧ InitIs S K C fI sf ps zs nm ex ab fd := by
 refine o_xa (any_some I.hand) fun fd hfd hh => ?_
 have hb := I.body
 have hn := I.names
 rw [hfd] at hb hn
 have hb' : fd.body = .stmts (defBody st) := Option.some.inj hb
 have hn' : fd.scope.names = namesOf st := Option.some.inj hn
 refine o_xxxxxaaa H fun pre post p1 p2 p3 s1 s2 s3 s4 => ?_
 clear H
 refine ⟨fd, hfd, hn', hh, ⟨I.makes, I.init, I.fty, I.sets, ⟨pre, post, npre, npost, p1, p2, p3, handFn_of X (by rw [hb', s1]) hh, by rw [hn']; exact s2, by rw [hn']; exact s3, fun y hy => ?_, I.len, not_any I.one, fun y hy => ?_, s4⟩, ?_, I.dbg⟩⟩
 ·exact eq_of_beq (List.all_eq_true.mp I.takes y hy)
 ·have := List.all_eq_true.mp I.absent y hy
  rw [Bool.not_eq_true'] at this
  exact not_any this
 ·have := (handFn_of (S := S) X hb' hh).loc sf (.head _)
  exact this
end
theorem row_sh : ∃ u1, InitSh (methAt 96 0) (Str.ofString "self") [Str.ofString "path", Str.ofString "package", Str.ofString "underlying", Str.ofString "methods"] [] (Str.ofString "underlying") (.Name (Str.ofString "underlying") u1) [Str.ofString "path", Str.ofString "package"] [Str.ofString "methods"] :=
 ⟨_, [_, _], [_], _, _, _, rfl, by kernel_rfl, by kernel_rfl, fun _ => rfl⟩
noncomputable def wldPost : List Str := ["globals", "consts", "funcs", "bodies", "files", "scopes", "order", "starts", "settle", "want", "mentions", "measured", "values", "inits", "late_keys", "late_parts", "late_sizes", "is_whole"].map Str.ofString
theorem wld_sh : ∃ p1 p2, InitSh (methAt 98 0) (Str.ofString "self") [Str.ofString "packages"] [] (Str.ofString "named") (.Call (.Name (Str.ofString "known_rows") p1) [] [] p2) [Str.ofString "packages"] wldPost :=
 ⟨_, _, [_], (defBody (methAt 98 0)).drop 2, _, _, _, rfl, by kernel_rfl, by kernel_rfl, fun _ => rfl⟩
noncomputable def chkPost : List Str := ["package", "scope", "key", "readers", "run_body", "outer", "locals", "params", "results", "result_locals", "has_result_names", "captured", "literals", "loops", "other_panics", "mentions"].map Str.ofString
theorem chk_sh : ∃ p1, InitSh (methAt 93 0) (Str.ofString "self") chkPs [Str.ofString "outer"] (Str.ofString "world") (.Name (Str.ofString "world") p1) [] chkPost :=
 ⟨_, [], (defBody (methAt 93 0)).drop 1, _, _, _, rfl, by kernel_rfl, by kernel_rfl, fun _ => rfl⟩
theorem scp_sh : ∃ p1, InitSh (methAt 90 0) (Str.ofString "self") [Str.ofString "outer", Str.ofString "owner"] [] (Str.ofString "owner") (.Name (Str.ofString "owner") p1) [Str.ofString "outer"] [Str.ofString "rows"] :=
 ⟨_, [_], [_], _, _, _, rfl, by kernel_rfl, by kernel_rfl, fun _ => rfl⟩
end
section
open PySem PySem.W PySem.SeqAt
variable {κ κ' : OG}
theorem kr_lines : okLines (namesOf (stAt 97)) [Str.ofString "PLAIN"] (Str.ofString "NamedRow") 4 8 [] (defBody (stAt 97)) = true := by kernel_rfl
structure DefK (K : Frag) (a : Addr) (st : Stmt) (ps : List Str) : Prop where
 body : (fnAt K a).map (·.body) = some (.stmts (defBody st))
 names : (fnAt K a).map (·.scope.names) = some (namesOf st)
 hand : (fnAt K a).any (handB K ps) = true
section
variable {S : Fixed} {K : Frag} {a : Addr} {st : Stmt} {ps : List Str}
theorem def_of (X : K.In S.B0) (D : DefK K a st ps) : ∃ o fd, S.B0.get? a = some o ∧ o.data = .func fd ∧ fd.scope.names = namesOf st ∧ HandFn S ps (defBody st) fd := by
 refine o_xa (any_some D.hand) fun fd hfd hh => ?_
 have hb := D.body
 have hn := D.names
 rw [hfd] at hb hn
 refine o_xa (fnAt_get X hfd) fun o ho hd => ?_
 exact ⟨o, fd, ho, hd, Option.some.inj hn, handFn_of X (Option.some.inj hb) hh⟩
theorem kr_of {mg : Str → Option Value} (X : K.In S.B0) {fk : Addr} (hk : mg (Str.ofString "known_rows") = some (.ref fk)) (D : DefK K fk (stAt 97) []) {pl : Value} (hp : mg (Str.ofString "PLAIN") = some pl) : KrFacts S mg := by
 refine o_xxaaa (def_of X D) fun o fd h1 h2 h3 h4 => ?_
 refine ⟨fk, o, fd, _, 8, [Str.ofString "PLAIN"], hk, h1, h2, h4, fun y hy => ?_, by rw [h3]; exact kr_lines⟩
 rw [List.mem_singleton.mp hy]
 exact ⟨pl, hp⟩
theorem lookN {fd : FuncData} {st : Stmt} (h : fd.scope.names = namesOf st) {x : Str} {k : NameKind} (e : (namesOf st).lookup x = some k) : fd.scope.names.lookup x = some k := by rw [h]; exact e
theorem lawchk_of (X : K.In S.B0) {fl : Addr} (D : DefK K fl (stAt 104) []) : ∃ o fd, S.B0.get? fl = some o ∧ o.data = .func fd ∧ LawChk S fd := by
 refine o_xxaaa (def_of X D) fun o fd h1 h2 h3 h4 => ?_
 rw [law_chk_shape] at h4
 refine ⟨o, fd, h1, h2, h4, lookN h3 (by kernel_rfl), fun x hx => lookN h3 ?_⟩
 rcases List.mem_cons.mp hx with rfl | hx
 ·kernel_rfl
 rcases List.mem_cons.mp hx with rfl | hx
 ·kernel_rfl
 rcases List.mem_cons.mp hx with rfl | hx
 ·kernel_rfl
 rcases List.mem_cons.mp hx with rfl | hx
 ·kernel_rfl
 ·cases hx
theorem tried_of (X : K.In S.B0) {fl : Addr} (D : DefK K fl (stAt 103) [Str.ofString "call"]) : ∃ o fd, S.B0.get? fl = some o ∧ o.data = .func fd ∧ TriedFn S fd := by
 refine o_xxaaa (def_of X D) fun o fd h1 h2 h3 h4 => ?_
 rw [tried_shape] at h4
 exact ⟨o, fd, h1, h2, h4, lookN h3 (by kernel_rfl), lookN h3 (by kernel_rfl), lookN h3 (by kernel_rfl), lookN h3 (by kernel_rfl)⟩
theorem known_of (X : K.In S.B0) {fl : Addr} (D : DefK K fl (stAt 77) [Str.ofString "spot", Str.ofString "call"]) : ∃ o fd, S.B0.get? fl = some o ∧ o.data = .func fd ∧ KnownFn S fd := by
 refine o_xxaaa (def_of X D) fun o fd h1 h2 h3 h4 => ?_
 rw [known_shape] at h4
 exact ⟨o, fd, h1, h2, h4, lookN h3 (by kernel_rfl), lookN h3 (by kernel_rfl), lookN h3 (by kernel_rfl), lookN h3 (by kernel_rfl)⟩
theorem under_of (X : K.In S.B0) {fl : Addr} (D : DefK K fl (stAt 53) [Str.ofString "world", Str.ofString "T"]) : ∃ o fd, S.B0.get? fl = some o ∧ o.data = .func fd ∧ UnderFn S fd := by
 refine o_xxaaa (def_of X D) fun o fd h1 h2 h3 h4 => ?_
 rw [under_shape] at h4
 exact ⟨o, fd, h1, h2, h4, lookN h3 (by kernel_rfl), lookN h3 (by kernel_rfl)⟩
theorem base_of (X : K.In S.B0) {fl : Addr} (D : DefK K fl (methAt 98 1) [Str.ofString "self", Str.ofString "told"]) : ∃ o fd, S.B0.get? fl = some o ∧ o.data = .func fd ∧ BaseFn S fd := by
 refine o_xxaaa (def_of X D) fun o fd h1 h2 h3 h4 => ?_
 rw [base_shape] at h4
 exact ⟨o, fd, h1, h2, h4, lookN h3 (by kernel_rfl), lookN h3 (by kernel_rfl), lookN h3 (by kernel_rfl)⟩
end
end
section
open PySem PySem.W PySem.SeqAt
variable {κ κ' : OG}
structure MakeK (K : Frag) (mg : Str → Option Value) : Prop where
 row : InitK K 759 756 (methAt 96 0) (Str.ofString "self") [Str.ofString "path", Str.ofString "package", Str.ofString "underlying", Str.ofString "methods"] (Str.ofString "underlying") [] [Str.ofString "path", Str.ofString "package"] [Str.ofString "methods"]
 wld : InitK K 802 785 (methAt 98 0) (Str.ofString "self") [Str.ofString "packages"] (Str.ofString "named") [Str.ofString "base_of"] [Str.ofString "packages"] wldPost
 chk : InitK K 735 637 (methAt 93 0) (Str.ofString "self") chkPs (Str.ofString "world") [Str.ofString "coerce", Str.ofString "takes_type"] [] chkPost
 scp : InitK K 617 563 (methAt 90 0) (Str.ofString "self") [Str.ofString "outer", Str.ofString "owner"] (Str.ofString "owner") [] [Str.ofString "outer"] [Str.ofString "rows"]
 wd : (fnAt K 785).bind (dflVals K) = some [.none]
 cd : (fnAt K 637).bind (dflVals K) = some [.none]
 sd : (fnAt K 563).bind (dflVals K) = some [.none]
 keep : keepIn K (.ref 759) = true ∧ keepIn K (.ref 802) = true ∧ keepIn K (.ref 735) = true ∧ keepIn K (.ref 617) = true
 names : mg (Str.ofString "NamedRow") = some (.ref 759) ∧ mg (Str.ofString "World") = some (.ref 802) ∧ mg (Str.ofString "Checker") = some (.ref 735) ∧ mg (Str.ofString "Scope") = some (.ref 617)
section
variable {S : Fixed} {K : Frag} {mg : Str → Option Value}
theorem rowFacts_of (X : K.In S.B0) (M : MakeK K mg) : ∃ rd, RowFacts S K mg 759 756 rd := by
 obtain ⟨u1, hs⟩ := row_sh
 refine o_xaaa (init_of X M.row hs) fun fd h1 h2 h3 h4 => ?_
 exact ⟨fd, ⟨u1, h4⟩, lookN h2 (by kernel_rfl), fnAt_get X h1, M.names.1, M.keep.1⟩
theorem wldFacts_of (X : K.In S.B0) (M : MakeK K mg) : ∃ wd, WldFacts S K 802 785 wd := by
 refine o_xx wld_sh fun p1 p2 hs => ?_
 refine o_xaaa (init_of X M.wld hs) fun fd h1 h2 h3 h4 => ?_
 have hd := M.wd
 rw [h1] at hd
 exact ⟨fd, ⟨p1, p2, h4⟩, lookN h2 (by kernel_rfl), fnAt_get X h1, fun s x st => binds_of X h3 hd st (vs := [.ref x]) (by simp) (by simp)⟩
theorem chkFacts_of (X : K.In S.B0) (M : MakeK K mg) : ∃ cd sd, ChkFacts S K mg 735 637 617 563 cd sd := by
 refine via fun Gv kv => ?_
 obtain ⟨p1, hs⟩ := chk_sh
 obtain ⟨p2, hs2⟩ := scp_sh
 refine o_xaaa (init_of X M.chk hs) fun fd h1 h2 h3 h4 => ?_
 refine o_xaaa (init_of X M.scp hs2) fun gd g1 g2 g3 g4 => ?_
 refine kv ?_
 clear kv Gv
 have hd := M.cd
 have gd' := M.sd
 rw [h1] at hd
 rw [g1] at gd'
 exact ⟨fd, gd, ⟨p1, h4⟩, lookN h2 (by kernel_rfl), fnAt_get X h1, fun s x a b c d e f st => binds_of X h3 hd st (vs := [.ref x, a, b, c, d, e, f]) (by simp [chkPs]) (by simp [chkPs]), ⟨p2, g4⟩, lookN g2 (by kernel_rfl), fnAt_get X g1,
  fun s x a st => binds_of X g3 gd' st (vs := [.ref x, a]) (by simp) (by simp), ⟨M.names.2.2.1, M.names.2.2.2⟩, ⟨M.keep.2.2.1, M.keep.2.2.2⟩⟩
theorem isc_of (X : K.In S.B0) {fl : Addr} (D : DefK K fl (stAt 63) [Str.ofString "world", Str.ofString "T"]) : ∃ o fd, S.B0.get? fl = some o ∧ o.data = .func fd ∧ IscFn S fd := by
 refine o_xxaaa (def_of X D) fun o fd h1 h2 h3 h4 => ?_
 refine o_xx isc_shape fun b1 b2 hs => ?_
 rw [hs] at h4
 refine ⟨o, fd, h1, h2, ⟨b1, b2, h4⟩, by rw [h3]; exact isc_swap, ?_, ?_, ?_, ?_, ?_, ?_, ?_⟩ <;> exact lookN h3 (by kernel_rfl)
end
end
section
open PySem PySem.W PySem.SeqAt
variable {κ κ' : OG}
structure World0 (prog : Program) (w : World) (B : Heap) (chk wld : Addr) (mk mw mr : Str → Option Value) : Prop where
 chk : InstIs B (.ref chk) 735 mk
 world : mk (Str.ofString "world") = some (.ref wld)
 noM : ∀ y ∈ [Str.ofString "coerce", Str.ofString "takes_type"], mk y = none
 wld : InstIs B (.ref wld) 802 mw
 noB : mw (Str.ofString "base_of") = none
 named : ∃ N row T f, mw (Str.ofString "named") = some (.ref N) ∧ (N == sysModules) = false ∧ STab prog w B N f ∧ f (Str.ofString "main.K") = some row ∧ InstIs B row 759 mr ∧ mr (Str.ofString "underlying") = some T ∧ (∀ Ω, DatH Ω B T (.tup [.str (cS "int"), .str (cS "int8")]))
theorem dat_two {Ω Ω' : Nat → Value} {h h' : Heap} {v : Value} {a b : Nat} (D : DatH Ω h v (.tup [.str a, .str b])) (k : ∀ t items, h.IsTuple t items → h'.IsTuple t items) : DatH Ω' h' v (.tup [.str a, .str b]) := by
 refine o_xxaa D.it fun a vs q x r => ?_
 subst q
 refine o_xxaa r.i2 fun v w q d1 d2 => ?_
 subst q
 ···refine o_xxaa (datStr d1) fun x1 t1 q2' q3' o1 => ?_
    subst q2'
    subst q3'
    refine o_xxaa (datStr d2) fun x2 t2 q2' q3' o2 => ?_
    subst q2'
    subst q3'
    exact .tup (k _ _ x) (.cons (.str _ _ o1) (.cons (.str _ _ o2) .nil))
theorem world0_of {S : Fixed} {h1 h2 : Heap} {chk : Addr} (M : Made S 735 802 759 h1 h2 chk) {hs : List Addr} (old : ∀ a ∈ hs, h1.get? a ≠ none) (noT : ∀ a ∈ hs, ∀ items, ¬ h2.IsTuple a items) (hsys : h1.get? sysModules ≠ none) : ∃ wld mk mw mr, World0 S.prog S.w (hideAll h2 hs) chk wld mk mw mr := by
 refine via fun Gv kv => ?_
 obtain ⟨dC, wld, dW, N, row, dR, f, mC, mW, mR, T, g1, g2, g3, g4, g5, g6, g7, g8, g9, g10, g11, g12, g13, g14, n1, n2, n3, n4, n5, n6, n7⟩ := M
 refine kv ?_
 clear kv Gv
 have out : ∀ {a : Addr}, h1.get? a = none → a ∉ hs := fun {a} ha hm => old a hm ha
 have keep : ∀ {a : Addr} {o : Obj}, h1.get? a = none → h2.get? a = some o → (hideAll h2 hs).get? a = some o := fun {a o} ha e => hideAll_get _ e (out ha)
 have ns : ∀ {a : Addr} {m : Str → Option Value}, h1.get? a = none → h2.Ns a m → (hideAll h2 hs).Ns a m := fun {a m} ha ⟨o, es, ep, e, r⟩ => ⟨o, es, ep, keep ha e, r⟩
 refine ⟨wld, mC, mW, mR, ⟨chk, _, dC, rfl, keep n1 g1, rfl, rfl, rfl, ns n2 g2⟩, g3, g4, ⟨wld, _, dW, rfl, keep n3 g5, rfl, rfl, rfl, ns n4 g6⟩, g8, N, .ref row, T, f, g7, beq_eq_false_iff_ne.mpr fun q => hsys (q ▸ n5), ?_, g10, ⟨row, _, dR, rfl, keep n6 g11, rfl, rfl, rfl, ns n7 g12⟩, g13, fun Ω => ?_⟩
 ·refine o_xxxa g9 fun o es ep e r => ?_
  clear g9
  exact ⟨o, es, ep, keep n5 e, r⟩
 ·refine dat_two g14 fun t items ht => ?_
  refine o_xa (id ht) fun o ho r => ?_
  exact ⟨o, hideAll_get _ ho fun hm => noT t hm items ht, r⟩
end
section
open PySem PySem.W PySem.SeqAt
variable {κ κ' : OG}
noncomputable def FA : List Addr := [364,350,385,392,399,378,357,343,459,99,106,113,120,127,134,148,155,162,170,371,406,413,425,432,440,447,466,480,487,494,501,506,513,520,527,534,541,548,858,865,872,879,884,891,896,846]
noncomputable def FM : List Addr := [674, 681]
noncomputable def faF (k : Nat) : Addr := FA.getD k 0
noncomputable def fmF (k : Nat) : Addr := FM.getD k 0
noncomputable def allFns : List (Addr × Fn) := FA.zip fnsL ++ FM.zip methsL
noncomputable def namesK : List (Str × Addr) := [("NamedRow", 759), ("World", 802), ("Checker", 735), ("Scope", 617), ("ConstFault", 76), ("TypeFault", 64), ("known_rows", 770), ("_law_checker", 841), ("_law_tried", 834), ("known_const", 473), ("underlying_of", 350), ("is_comparable", 418),
 ("BITS", 91), ("UNTYPED_DEFAULTS", 306), ("_law_reel", 813), ("_law_wound", 820), ("_law_one", 827), ("_law_sorts", 851)].map fun q => (Str.ofString q.1, q.2)
noncomputable def absG : List Str := ["abs", "int", "max", "min", "len", "list", "bytes", "bool", "isinstance", "range", "Exception"].map Str.ofString
noncomputable def lamAt (i : Nat) : List (Str × NameKind) × Pos := lamList.getD i ([], ⟨0, 0, 0, 0⟩)
noncomputable def lamTabs : List (Addr × LamTab) := [(519, ⟨515, (lamAt 0).2, Str.ofString "folded.<locals>.<lambda>", (lamAt 0).1⟩), (902, ⟨898, (lamAt 1).2, Str.ofString "law.<locals>.<lambda>", (lamAt 1).1⟩)]
noncomputable def lamB (fd : FuncData) : Bool := lamTabs.all fun q => !(scEq q.2.sc fd.scope.names) || ((fd.code == .ref q.1) && Fast.sEq q.2.qual (fd.qualname ++ ".<locals>." ++ "<lambda>"))
noncomputable def fnGood (K : Frag) (a : Addr) (f : Fn) : Bool := (fnAt K a).any fun fd => lamB fd && (fnB K f fd false || (f.dflts.isEmpty && fnB K f fd true))
noncomputable def excB (K : Frag) (C : Addr) : Bool := excIn K C && (findIn K (.ref C) (Str.ofString "__init__") == some (some (.ref 36))) && excAttrIn K C && (findIn K (.ref C) (Str.ofString "message") == some none) && (findIn K (.ref C) (Str.ofString "spot") == some none) &&
 (takerIn K C (Str.ofString "message") == some none) && (takerIn K C (Str.ofString "spot") == some none) && (typeIn K (.ref C) == some (.type "type")) && keepIn K (.ref C)
structure TabFact (K : Frag) (w : World) (a : Addr) (names : List String) (vals : List Dat) : Prop where
 keys : (tabK K a).map (List.map fun p => p.1) = some (names.map Str.ofString)
 hash : (tabK K a).map (List.map fun p => p.2.2) = some (names.map fun x => hashStr w (Str.ofString x))
 vals : (tabK K a).map (List.map fun p => datK K 6 p.2.1) = some (vals.map some)
noncomputable def bitsN : List String := ["int", "int8", "int16", "int32", "int64", "uint", "uint8", "uint16", "uint32", "uint64"]
noncomputable def dfltN : List String := ["bool", "int", "rune", "string"]
structure KAll (K : Frag) (w : World) : Prop where
 make : ∀ mg : Str → Option Value, (∀ q ∈ namesK, mg q.1 = some (.ref q.2)) → MakeK K mg
 names : (namesK.map fun q => gl K q.1) = namesK.map fun q => some (some (.ref q.2))
 absent : (absG.all fun x => gl K x == some none) = true
 fnsB : (allFns.all fun q => fnGood K q.1 q.2) = true
 fnsBody : (allFns.map fun q => (fnAt K q.1).map (·.body)) = allFns.map fun q => some (.stmts (toSs q.2.body))
 fnsD : (allFns.map fun q => (fnAt K q.1).bind fun fd => (dflVals K fd).bind datVals) = allFns.map fun q => some q.2.dflts
 fnsN : (cx0.fns.map fun x => gl K x) = FA.map fun a => some (some (.ref a))
 consts : (cx0.consts.map fun x => ((gl K x).bind id).bind (datK K 6)) = constsL.map fun q => some q.2
 bits : TabFact K w 91 bitsN bitsVs
 dflt : TabFact K w 306 dfltN dfltVs
 exc : ([76, 64].all fun C => excB K C) = true
 excI : DefK K 36 (methAt 2 0) [Str.ofString "self", Str.ofString "message", Str.ofString "spot"]
 excD : ((fnAt K 36).bind fun fd => (dflVals K fd).bind datVals) = some [.int 0]
 fty : typeIn K (.ref 36) = some (.type "function")
 excC : findCls K (.type "Exception") (.type "type") (Str.ofString "__init__") = some (.val (.builtin "Exception.__init__"))
 hits : (exmOne K (.ref 76) (.ref 76) == some true && exmOne K (.ref 64) (.ref 76) == some false && exmOne K (.ref 64) (.ref 64) == some true) = true
 objs : (objIn K 735 && objIn K 802 && objIn K 759) = true
 meths : ((cx0.meths.zip FM).all fun q => findIn K (.ref 735) q.1 == some (some (.ref q.2)) && isFn K (.ref q.2)) = true
 world : findIn K (.ref 735) (Str.ofString "world") = some none
 base : findIn K (.ref 802) (Str.ofString "base_of") = some (some (.ref 792)) ∧ isFn K (.ref 792) = true
 named : findIn K (.ref 802) (Str.ofString "named") = some none
 under : findIn K (.ref 759) (Str.ofString "underlying") = some none
 dBase : DefK K 792 (methAt 98 1) [Str.ofString "self", Str.ofString "told"]
 dUnder : DefK K 350 (stAt 53) [Str.ofString "world", Str.ofString "T"]
 dIsc : DefK K 418 (stAt 63) [Str.ofString "world", Str.ofString "T"]
 dTried : DefK K 834 (stAt 103) [Str.ofString "call"]
 dKnown : DefK K 473 (stAt 77) [Str.ofString "spot", Str.ofString "call"]
 dRows : DefK K 770 (stAt 97) []
 dChk : DefK K 841 (stAt 104) []
 plain : (gl K (Str.ofString "PLAIN")).any (·.isSome) = true
end
section
open PySem PySem.W PySem.SeqAt
variable {κ κ' : OG}
theorem map_eq_get {α β γ : Type} {f : α → γ} {g : β → γ} {l : List α} {r : List β} (e : l.map f = r.map g) {i : Nat} {a : α} (ha : l[i]? = some a) : ∃ b, r[i]? = some b ∧ f a = g b := by
 have := congrArg (·[i]?) e
 simp only [List.getElem?_map, ha, Option.map_some] at this
 induction hb : r[i]? with
 | none => rw [hb] at this; cases this
 | some b => rw [hb] at this; exact ⟨b, rfl, Option.some.inj this⟩
theorem map_eq_mem {α γ : Type} {f g : α → γ} {l : List α} (e : l.map f = l.map g) {a : α} (ha : a ∈ l) : f a = g a := by
 obtain ⟨i, hi, rfl⟩ := List.mem_iff_getElem.mp ha
 have := congrArg (·[i]?) e
 simpa [List.getElem?_eq_getElem hi] using this
theorem nthF_get : ∀ (l : List Fn) (k : Nat), k < l.length → l[k]? = some (nthF l k)
 | [], k, h => absurd h (Nat.not_lt_zero _)
 | d :: r, 0, _ => rfl
 | d :: r, k + 1, h => by
  have : nthF (d :: r) (k + 1) = nthF r k := rfl
  rw [this, List.getElem?_cons_succ]
  exact nthF_get r k (Nat.lt_of_succ_lt_succ h)
theorem zip_mem {α β : Type} {l : List α} {r : List β} {k : Nat} {a : α} {b : β} (ha : l[k]? = some a) (hb : r[k]? = some b) : (a, b) ∈ l.zip r := by
 have : (l.zip r)[k]? = some (a, b) := by rw [List.getElem?_zip_eq_some]; exact ⟨ha, hb⟩
 exact List.mem_of_getElem? this
structure BaseF (K : Frag) (B : Heap) (mg mb : Str → Option Value) : Prop where
 frag : K.In B
 g : B.Ns mainGlobals mg
 b : B.Ns builtinsNs mb
 lim : B.NoLimit
 blt : ∀ x : Str, x ≠ "__name__" → mb x = bootBuiltins x
 none : ∀ l ∈ lamTabs, B.get? l.2.P = none
 code : ∀ l ∈ lamTabs, CodeHd B l.1 l.2.P
 bm : ∀ l ∈ lamTabs, B.BuiltinsAt mg l.2.P
 seer : B.NoSeer
section
variable {K : Frag} {B : Heap} {w : World} {mg mb : Str → Option Value}
theorem KAll.glob (KA : KAll K w) (X : BaseF K B mg mb) : ∀ q ∈ namesK, mg q.1 = some (.ref q.2) := fun q hq => gl_of X.frag X.g (map_eq_mem KA.names hq)
theorem KAll.abs (KA : KAll K w) (X : BaseF K B mg mb) {x : Str} (hx : x ∈ absG) : mg x = none := gl_of X.frag X.g (eq_of_beq (List.all_eq_true.mp KA.absent x hx))
theorem fns_at {k : Nat} (h : k < 46) : (faF k, tabs.fns k) ∈ allFns := by
 refine List.mem_append_left _ (zip_mem (k := k) ?_ (nthF_get fnsL k h))
 unfold faF
 rw [List.getD_eq_getElem?_getD, List.getElem?_eq_getElem (show k < FA.length from h)]
 rfl
theorem meths_at {k : Nat} (h : k < 2) : (fmF k, tabs.meths k) ∈ allFns := by
 refine List.mem_append_right _ (zip_mem (k := k) ?_ (nthF_get methsL k h))
 unfold fmF
 rw [List.getD_eq_getElem?_getD, List.getElem?_eq_getElem (show k < FM.length from h)]
 rfl
theorem fn_ok {S : Fixed} (KA : KAll K w) (X : BaseF K S.B0 mg mb) (hl : ∀ l ∈ S.lams, ∃ c, (c, l) ∈ lamTabs) {a : Addr} {f : Fn} (hm : (a, f) ∈ allFns) : ∃ o fd, S.B0.get? a = some o ∧ o.data = .func fd ∧ (FnOk S f fd ∨ FnOkC S f fd) := by
 refine o_xa (any_some (List.all_eq_true.mp KA.fnsB _ hm)) fun fd hfd hg => ?_
 have hb := map_eq_mem KA.fnsBody hm
 have hd := map_eq_mem KA.fnsD hm
 dsimp only at hb hd
 rw [hfd] at hb hd
 have hb' : fd.body = .stmts (toSs f.body) := Option.some.inj hb
 have hd' : (dflVals K fd).bind datVals = some f.dflts := hd
 refine o_xa (fnAt_get X.frag hfd) fun o ho hod => ?_
 refine b_Lnn hg fun g1 g2 => ?_
 have hlam : ∀ l ∈ S.lams, l.sc = fd.scope.names → ∃ c, fd.code = .ref c ∧ CodeHd S.B0 c l.P ∧ l.qual = fd.qualname ++ ".<locals>." ++ "<lambda>" := fun l hl' e => by
  obtain ⟨c, hc⟩ := hl l hl'
  have := List.all_eq_true.mp g1 _ hc
  simp only [Bool.or_eq_true, Bool.and_eq_true, Bool.not_eq_true', beq_iff_eq] at this
  rcases this with q | ⟨q1, q2⟩
  ·rw [scEq_iff.mpr e] at q; cases q
  ·exact ⟨c, q1, X.code _ hc, Fast.sEq_iff.mp q2⟩
 rcases Bool.or_eq_true_iff.mp g2 with q | q
 ·exact ⟨o, fd, ho, hod, .inl (fnOk_of X.frag hb' hd' q hlam)⟩
 ·refine b_Lnn q fun q1 q2 => ?_
  exact ⟨o, fd, ho, hod, .inr (fnOkC_of X.frag hb' (List.isEmpty_iff.mp q1) q2 hlam)⟩
theorem consts_at {S : Fixed} (KA : KAll K w) (X : BaseF K S.B0 mg mb) {i : Nat} {x : Str} (h : cx0.consts[i]? = some x) : ∃ v, mg x = some v ∧ DatH S.Ω S.B0 v (tabs.consts i) := by
 refine o_xa (map_eq_get KA.consts h) fun q hq e => ?_
 have hd : nth (constsL.map (·.2)) i = q.2 := by
  have : (constsL.map (·.2))[i]? = some q.2 := by rw [List.getElem?_map, hq]; rfl
  have key : ∀ (l : List Dat) (i : Nat) (d : Dat), l[i]? = some d → nth l i = d := fun l => by
   induction l with
   | nil => intro i d h; cases h
   | cons a r ih =>
    intro i d h
    induction i using Nat.casesAuxOn with
    | zero => exact Option.some.inj h
    | succ i => exact ih i d h
  exact key _ _ _ this
 induction hg : gl K x with
 | none => rw [hg] at e; cases e
 | some ov =>
  induction ov with
  | none => rw [hg] at e; cases e
  | some v =>
   rw [hg] at e
   refine ⟨v, gl_of X.frag X.g hg, ?_⟩
   show DatH S.Ω S.B0 v (nth (constsL.map (·.2)) i)
   rw [hd]
   exact datK_of X.frag 6 v q.2 e
theorem globs_of {S : Fixed} (KA : KAll K w) (X : BaseF K S.B0 mg mb) : Globs S tabs faF mg mb := by
 refine ⟨X.g, X.b, X.lim, fun k x hk => ?_, fun i x h => consts_at KA X h⟩
 refine o_xa (map_eq_get KA.fnsN hk) fun a ha e => ?_
 have hlt : k < 46 := (List.getElem?_eq_some_iff.mp ha).1
 have hf : faF k = a := by unfold faF; rw [List.getD_eq_getElem?_getD, ha]; rfl
 refine ⟨by rw [hf]; exact gl_of X.frag X.g e, ?_⟩
 refine o_xa (any_some (List.all_eq_true.mp KA.fnsB _ (fns_at hlt))) fun fd hfd _ => ?_
 exact let ⟨o, ho, hod⟩ := fnAt_get X.frag hfd; ⟨o, fd, ho, hod⟩
theorem blts_of (KA : KAll K w) (X : BaseF K B mg mb) : Blts mg mb := by
 refine ⟨fun f => ⟨KA.abs X ?_, ?_⟩, fun T => ⟨KA.abs X ?_, ?_⟩, KA.abs X ?_, ?_⟩
 ·induction f <;> decide +kernel
 ·induction f <;> (rw [X.blt _ (by decide)]; kernel_rfl)
 ·induction T <;> decide +kernel
 ·induction T <;> (rw [X.blt _ (by decide)]; kernel_rfl)
 ·decide +kernel
 ·rw [X.blt _ (by decide)]; kernel_rfl
end
end
section
open PySem PySem.W PySem.SeqAt
variable {κ κ' : OG}
theorem exc_shape : ∃ p1 p2 p3 p4 p5 p6 p7 p8 p9 p10 p11 p12 p13 p14 : Pos, defBody (methAt 2 0) = [.Expr (.Call (.Attribute (.Name (Str.ofString "Exception") p1) (Str.ofString "__init__") p2) [.Name (Str.ofString "self") p3, .Name (Str.ofString "message") p4] [] p5) p6,
   .Assign [.Attribute (.Name (Str.ofString "self") p7) (Str.ofString "message") p8] (.Name (Str.ofString "message") p9) p10,
   .Assign [.Attribute (.Name (Str.ofString "self") p11) (Str.ofString "spot") p12] (.Name (Str.ofString "spot") p13) p14] ∧ (p2.endLine == p5.line) = true :=
 ⟨_, _, _, _, _, _, _, _, _, _, _, _, _, _, rfl, by decide⟩
theorem hand_parts {K : Frag} {ps : List Str} {fd : FuncData} (h : handB K ps fd = true) : plainFd K fd = true := by
 unfold handB at h
 simp only [Bool.and_eq_true] at h
 exact h.1.1.1.1
section
variable {K : Frag} {w : World} {mg mb : Str → Option Value} {S : Fixed}
theorem initFn_of (KA : KAll K w) (X : BaseF K S.B0 mg mb) : ∃ oI fd, S.B0.get? 36 = some oI ∧ oI.data = .func fd ∧ InitFn S mg mb fd := by
 refine o_xa (any_some KA.excI.hand) fun fd hfd hh => ?_
 have hb := KA.excI.body
 have hn := KA.excI.names
 have hdf := KA.excD
 rw [hfd] at hb hn hdf
 have hb' : fd.body = .stmts (defBody (methAt 2 0)) := Option.some.inj hb
 have hn' : fd.scope.names = namesOf (methAt 2 0) := Option.some.inj hn
 have hdf' : (dflVals K fd).bind datVals = some [.int 0] := hdf
 refine o_xa (fnAt_get X.frag hfd) fun o ho hd => ?_
 have P := plainFd_of X.frag (hand_parts hh)
 have HFn := handFn_of (S := S) X.frag hb' hh
 refine o_xa (Option.bind_eq_some_iff.mp hdf') fun items hit hdv => ?_
 refine o_xxxxxxxxxxxxxxa exc_shape fun p1 p2 p3 p4 p5 p6 p7 p8 p9 p10 p11 p12 p13 p14 hs hl => ?_
 rw [hs] at hb'
 have hit2 : ∃ t, items = [.int 0 t] := by
  have D : DatsH S.Ω S.B0 items [.int 0] := datVals_of hdv
  obtain ⟨v, rfl, D1⟩ := D.i1
  obtain ⟨t, rfl⟩ := D1.ii
  exact ⟨t, rfl⟩
 obtain ⟨t0, rfl⟩ := hit2
 refine ⟨o, fd, ho, hd, ⟨p1, p2, p3, p4, p5, p6, p7, p8, p9, p10, p11, p12, p13, p14, hl, hb'⟩, P.kind, P.co, P.gen, HFn.no, lookN hn' (by kernel_rfl), lookN hn' (by kernel_rfl), lookN hn' (by kernel_rfl), lookN hn' (by kernel_rfl), P.code, P.glob, P.blt, P.clo, fun s e m st => ⟨t0, ?_⟩, fun s e m p st => ?_, KA.abs X (by decide +kernel), by rw [X.blt _ (by decide)]; kernel_rfl⟩
 ·exact binds_of X.frag hh hit st (vs := [e, m]) (by simp) (by simp)
 ·exact binds_of X.frag hh hit st (vs := [e, m, p]) (by simp) (by simp)
noncomputable def excOf (c : Nat) : Addr := match c with | 1 => 64 | _ => 76
theorem excOf_mem : ∀ c, excOf c ∈ [76, 64]
 | 0 => .head _
 | 1 => .tail _ (.head _)
 | _ + 2 => .head _
theorem excFacts_of (KA : KAll K w) (X : BaseF K S.B0 mg mb) (he : S.exc = excOf) (hX : S.X = XFly S) : ExcFacts S K 36 mg mb := by
 have key : ∀ c, excB K (S.exc c) = true := fun c => by rw [he]; exact List.all_eq_true.mp KA.exc _ (excOf_mem c)
 have key' : ∀ c, _ := fun c => by
  have := key c
  unfold excB at this
  simp only [Bool.and_eq_true, beq_iff_eq] at this
  exact this
 refine ⟨X.frag, X.g, X.b, X.lim, initFn_of KA X, KA.fty, fun c _ => ?_, KA.excC, fun c _ => ?_, fun c _ => ?_, fun k x hk => ?_, by rw [he]; rfl, fun c _ => (key' c).2, hX⟩
 ·obtain ⟨⟨⟨⟨⟨⟨⟨⟨a1, a2⟩, a3⟩, a4⟩, a5⟩, a6⟩, a7⟩, a8⟩, a9⟩ := key' c
  exact ⟨a1, a2, a3, a4, a5⟩
 ·obtain ⟨⟨⟨⟨⟨⟨⟨⟨a1, a2⟩, a3⟩, a4⟩, a5⟩, a6⟩, a7⟩, a8⟩, a9⟩ := key' c
  exact ⟨a6, a7⟩
 ·obtain ⟨⟨⟨⟨⟨⟨⟨⟨a1, a2⟩, a3⟩, a4⟩, a5⟩, a6⟩, a7⟩, a8⟩, a9⟩ := key' c
  exact a8
 ·match k, hk with
  | 0, hk =>
   cases (show some (Str.ofString "ConstFault") = some x from hk)
   refine ⟨by decide, ?_⟩
   rw [he]
   exact KA.glob X (Str.ofString "ConstFault", 76) (by decide +kernel)
  | 1, hk =>
   cases (show some (Str.ofString "TypeFault") = some x from hk)
   refine ⟨by decide, ?_⟩
   rw [he]
   exact KA.glob X (Str.ofString "TypeFault", 64) (by decide +kernel)
  | k + 2, hk => cases (show (none : Option Str) = some x from hk)
theorem catch_of (KA : KAll K w) (he : S.exc = excOf) : CatchFacts S K := by
 have := KA.hits
 simp only [Bool.and_eq_true, beq_iff_eq] at this
 obtain ⟨⟨h1, h2⟩, h3⟩ := this
 refine ⟨fun c hc => ?_, by rw [he]; exact h3⟩
 rw [he]
 match c, hc with
 | 0, _ => exact h1
 | 1, _ => exact h2
 | 2, _ => exact h1
theorem isc_facts (KA : KAll K w) (X : BaseF K S.B0 mg mb) : IscFacts S 792 mg :=
 ⟨base_of X.frag KA.dBase, let ⟨o, fd, h⟩ := under_of X.frag KA.dUnder; ⟨350, o, fd, KA.glob X (Str.ofString "underlying_of", 350) (by decide +kernel), h⟩,
  let ⟨o, fd, h⟩ := isc_of X.frag KA.dIsc; ⟨418, o, fd, KA.glob X (Str.ofString "is_comparable", 418) (by decide +kernel), h⟩⟩
theorem lam_facts (X : BaseF K S.B0 mg mb) (hl : S.lams = lamTabs.map (·.2)) : LamFacts S mg := by
 have mem : ∀ l ∈ S.lams, ∃ c, (c, l) ∈ lamTabs := fun l h => by
  rw [hl] at h
  refine o_xa (List.mem_map.mp h) fun q hq q2' => ?_
  subst q2'
  exact ⟨q.1, hq⟩
 refine ⟨X.g, X.lim, fun l h => ?_, fun q hq => ?_, fun l h l' h' e => ?_, fun l h => ?_, fun l h => ?_, fun l h => ?_⟩
 ·obtain ⟨c, hc⟩ := mem l h
  rcases List.mem_cons.mp hc with q | q
  ·cases q; exact ⟨lamAt 0, .head _, rfl⟩
  ·rcases List.mem_cons.mp q with q | q
   ·cases q; exact ⟨lamAt 1, .tail _ (.head _), rfl⟩
   ·cases q
 ·rw [hl]
  rcases List.mem_cons.mp hq with q | q
  ·subst q; exact ⟨_, .head _, rfl, rfl⟩
  ·rcases List.mem_cons.mp q with q | q
   ·subst q; exact ⟨_, .tail _ (.head _), rfl, rfl⟩
   ·cases q
 ·rw [hl] at h h'
  rcases List.mem_cons.mp h with rfl | h
  ·rcases List.mem_cons.mp h' with rfl | h'
   ·rfl
   ·rcases List.mem_cons.mp h' with rfl | h'
    ·exact absurd e (by decide)
    ·cases h'
  ·rcases List.mem_cons.mp h with rfl | h
   ·rcases List.mem_cons.mp h' with rfl | h'
    ·exact absurd e (by decide)
    ·rcases List.mem_cons.mp h' with rfl | h'
     ·rfl
     ·cases h'
   ·cases h
 ·obtain ⟨c, hc⟩ := mem l h; exact X.none _ hc
 ·obtain ⟨c, hc⟩ := mem l h
  rcases List.mem_cons.mp hc with q | q
  ·cases q; decide
  ·rcases List.mem_cons.mp q with q | q
   ·cases q; decide
   ·cases q
 ·obtain ⟨c, hc⟩ := mem l h; exact X.bm _ hc
end
end
section
open PySem PySem.W PySem.SeqAt
variable {κ κ' : OG}
theorem tri_eq {α β γ : Type} : ∀ {l : List (α × β × γ)} {g : β → Option Dat} {vals : List Dat}, (l.map fun p => g p.2.1) = vals.map some → ∀ {Ω : Nat → Value} {h : Heap} {f : β → Value}, (∀ b d, g b = some d → DatH Ω h (f b) d) → DatsH Ω h (l.map fun p => f p.2.1) vals
 | [], _, [], _, _, _, _, _ => .nil
 | [], _, _ :: _, e, _, _, _, _ => by injection e
 | _ :: _, _, [], e, _, _, _, _ => by injection e
 | p :: l, g, d :: vals, e, _, _, f, k => by
  rw [List.map_cons, List.map_cons, List.cons.injEq] at e
  exact .cons (k _ _ e.1) (tri_eq e.2 k)
section
variable {K : Frag} {w : World} {mg mb : Str → Option Value} {S : Fixed}
theorem tabIs_of (X : K.In S.B0) (hw : S.w = w) {a : Addr} {names : List String} {vals ks : List Dat} {x : Str} (T : TabFact K w a names vals) (hm : mg x = some (.ref a)) (hk : ks = names.map fun y => Dat.str (codeS (Str.ofString y))) (hok : (names.all fun y => okSB (Str.ofString y)) = true) : TabIs S mg x ks vals := by
 obtain ⟨t1, t2, t3⟩ := T
 refine o_xa (Option.map_eq_some_iff.mp t1) fun us hus t1 => ?_
 rw [hus] at t2 t3
 have t2' : us.map (fun p => p.2.2) = names.map fun x => hashStr w (Str.ofString x) := Option.some.inj t2
 have t3' : us.map (fun p => datK K 6 p.2.1) = vals.map some := Option.some.inj t3
 have hh : ∀ p ∈ us, p.2.2 = hashStr w p.1 := fun p hp => by
  obtain ⟨i, hi, rfl⟩ := List.mem_iff_getElem.mp hp
  have e1 := congrArg (·[i]?) t1
  have e2 := congrArg (·[i]?) t2'
  simp only [List.getElem?_map, List.getElem?_eq_getElem hi, Option.map_some] at e1 e2
  induction hn : names[i]? with
  | none => rw [hn] at e1; exact ns e1
  | some y =>
   rw [hn] at e1 e2
   rw [Option.some.inj e2, Option.some.inj e1]
 refine ⟨a, us.map fun p => (p.1, p.2.1), hm, tabK_of X hus (by rw [hw]; exact hh), fun p hp => ?_, ?_, ?_⟩
 ·refine o_xa (List.mem_map.mp hp) fun q hq q2' => ?_
  subst q2'
  have : q.1 ∈ us.map (fun p => p.1) := List.mem_map.mpr ⟨q, hq, rfl⟩
  rw [t1] at this
  refine o_xa (List.mem_map.mp this) fun y hy e => ?_
  show okS q.1
  rw [← e]
  exact okSB_eq (List.all_eq_true.mp hok y hy)
 ·rw [hk, List.map_map]
  have := congrArg (List.map fun y => Dat.str (codeS y)) t1
  rw [List.map_map, List.map_map] at this
  exact this.symm
 ·rw [List.map_map]
  exact tri_eq (f := id) t3' fun b d e => datK_of X 6 b d e
theorem world_of (KA : KAll K w) (X : BaseF K S.B0 mg mb) {chk wld : Addr} {mk mw mr : Str → Option Value} (W : World0 S.prog S.w S.B0 chk wld mk mw mr) (h0 : S.Ω 0 = .ref chk) (h1 : S.Ω 1 = .ref wld) : WorldFacts S K fmF 792 735 802 759 mk mw mr := by
 have ho := KA.objs
 refine via fun Gv kv => ?_
 refine b_LLnnn ho fun o1 o2 o3 => ?_
 clear ho
 have fnd : ∀ {a : Addr}, isFn K (.ref a) = true → True := fun _ => trivial
 have fn2 : ∀ j, j < 2 → ∃ o fd, S.B0.get? (fmF j) = some o ∧ o.data = .func fd := fun j hj => by
  refine o_xa (any_some (List.all_eq_true.mp KA.fnsB _ (meths_at hj))) fun fd hfd _ => ?_
  exact let ⟨o, ho, hod⟩ := fnAt_get X.frag hfd; ⟨o, fd, ho, hod⟩
 obtain ⟨N, row, T, f, n1, n2, n3, n4, n5, n6, n7⟩ := W.named
 obtain ⟨bo, bfd, b1, b2, _⟩ := def_of (S := S) X.frag KA.dBase
 refine kv ?_
 clear kv Gv
 refine ⟨X.frag, by rw [h0]; exact W.chk, o1, ⟨KA.world, by rw [h1]; exact W.world⟩, fun j x hx => ?_, by rw [h1]; exact W.wld, o2, ⟨KA.base.1, KA.base.2, W.noB, bo, bfd, b1, b2⟩, ⟨KA.named, N, row, T, f, n1, n2, n3, n4, n5, KA.under, n6, n7 S.Ω⟩, o3⟩
 have hj : j < 2 := (List.getElem?_eq_some_iff.mp hx).1
 have hm : (x, fmF j) ∈ cx0.meths.zip FM := zip_mem hx (by unfold fmF; rw [List.getD_eq_getElem?_getD, List.getElem?_eq_getElem (show j < FM.length from hj)]; rfl)
 have := List.all_eq_true.mp KA.meths _ hm
 simp only [Bool.and_eq_true, beq_iff_eq] at this
 have hxm : x ∈ [Str.ofString "coerce", Str.ofString "takes_type"] := (List.mem_of_getElem? hx : x ∈ cx0.meths)
 exact ⟨this.1, this.2, W.noM x hxm, fn2 j hj⟩
theorem allF_of (KA : KAll K w) (X : BaseF K S.B0 mg mb) {chk wld : Addr} {mk mw mr : Str → Option Value} (W : World0 S.prog S.w S.B0 chk wld mk mw mr) (h0 : S.Ω 0 = .ref chk) (h1 : S.Ω 1 = .ref wld) (hw : S.w = w) (he : S.exc = excOf) (hX : S.X = XFly S) (hl : S.lams = lamTabs.map (·.2)) (hr : OmRef S.Ω) :
  AllF S tabs faF fmF K 36 792 735 802 759 mg mb mk mw mr := by
 have mem : ∀ l ∈ S.lams, ∃ c, (c, l) ∈ lamTabs := fun l h => by
  rw [hl] at h
  refine o_xa (List.mem_map.mp h) fun q hq q2' => ?_
  subst q2'
  exact ⟨q.1, hq⟩
 refine ⟨globs_of KA X, blts_of KA X, ⟨KA.abs X (by decide +kernel), by rw [X.blt _ (by decide)]; kernel_rfl⟩, excFacts_of KA X he hX, catch_of KA he, world_of KA X W h0 h1, isc_facts KA X, lam_facts X hl, hr, ?_, ?_, ?_, ?_, fun k hk => fn_ok KA X mem (fns_at hk), fun k hk => fn_ok KA X mem (meths_at hk)⟩
 ·exact tabIs_of X.frag hw KA.bits (KA.glob X (Str.ofString "BITS", 91) (by decide +kernel)) rfl (by kernel_rfl)
 ·exact tabIs_of X.frag hw KA.dflt (KA.glob X (Str.ofString "UNTYPED_DEFAULTS", 306) (by decide +kernel)) rfl (by kernel_rfl)
 ·exact let ⟨o, fd, h1, h2, h3⟩ := tried_of X.frag KA.dTried; ⟨834, o, fd, KA.glob X (Str.ofString "_law_tried", 834) (by decide +kernel), h1, h2, h3⟩
 ·exact let ⟨o, fd, h1, h2, h3⟩ := known_of X.frag KA.dKnown; ⟨473, o, fd, KA.glob X (Str.ofString "known_const", 473) (by decide +kernel), h1, h2, h3⟩
end
end
section
open PySem PySem.W PySem.SeqAt
variable {κ κ' : OG}
noncomputable def woundP (i : Nat) : Pos := posAt [633, 7, 633, 11, 633, 12, 633, 13, 633, 7, 633, 14, 633, 17, 633, 18, 633, 7, 633, 18, 634, 8, 634, 13, 634, 16, 634, 20, 634, 21, 634, 22, 634, 16, 634, 23, 634, 26, 634, 30, 634, 16, 634, 30, 634, 8, 634, 30, 635, 8, 635, 12, 635, 13, 635, 14, 635, 8, 635, 15, 635, 18, 635, 22, 635, 23, 635, 24, 635, 18, 635, 25, 635, 29, 635, 33, 635, 18, 635, 33, 635, 8, 635, 33, 636, 15, 636, 20, 636, 8, 636, 20, 633, 4, 636, 20, 637, 4, 637, 8, 637, 9, 637, 10, 637, 4, 637, 11, 637, 15, 637, 19, 637, 20, 637, 21, 637, 15, 637, 22, 637, 25, 637, 30, 637, 15, 637, 30, 637, 33, 637, 34, 637, 15, 637, 34, 637, 38, 637, 48, 637, 14, 637, 48, 637, 4, 637, 48, 638, 11, 638, 15, 638, 16, 638, 17, 638, 11, 638, 18, 638, 21, 638, 25, 638, 26, 638, 27, 638, 21, 638, 28, 638, 11, 638, 28, 638, 31, 638, 41, 638, 11, 638, 41, 638, 45, 638, 47, 638, 11, 638, 47, 638, 50, 638, 54, 638, 11, 638, 54, 638, 4, 638, 54] i
noncomputable def woundT : List Stmt := [.If (.Compare (.Subscript (.Name (Str.ofString "reel") (woundP 0)) (.Constant (.int 0) 0 (woundP 1)) (woundP 2)) [.Gt] [(.Constant (.int 0) 0 (woundP 3))] (woundP 4)) [.Assign [(.Name (Str.ofString "found") (woundP 5))] (.BinOp (.Subscript (.Name (Str.ofString "reel") (woundP 6)) (.Constant (.int 0) 0 (woundP 7)) (woundP 8)) .Mod (.Name (Str.ofString "many") (woundP 9)) (woundP 10)) (woundP 11), .Assign [(.Subscript (.Name (Str.ofString "reel") (woundP 12)) (.Constant (.int 0) 0 (woundP 13)) (woundP 14))] (.BinOp (.Subscript (.Name (Str.ofString "reel") (woundP 15)) (.Constant (.int 0) 0 (woundP 16)) (woundP 17)) .FloorDiv (.Name (Str.ofString "many") (woundP 18)) (woundP 19)) (woundP 20), .Return (some (.Name (Str.ofString "found") (woundP 21))) (woundP 22)] [] (woundP 23), .Assign [(.Subscript (.Name (Str.ofString "reel") (woundP 24)) (.Constant (.int 1) 0 (woundP 25)) (woundP 26))] (.BinOp (.BinOp (.BinOp (.Subscript (.Name (Str.ofString "reel") (woundP 27)) (.Constant (.int 1) 0 (woundP 28)) (woundP 29)) .Mult (.Constant (.int 39373) 0 (woundP 30)) (woundP 31)) .Add (.Constant (.int 7) 0 (woundP 32)) (woundP 33)) .Mod (.Constant (.int 2147483647) 0 (woundP 34)) (woundP 35)) (woundP 36), .Return (some (.BinOp (.BinOp (.BinOp (.BinOp (.Subscript (.Name (Str.ofString "reel") (woundP 37)) (.Constant (.int 1) 0 (woundP 38)) (woundP 39)) .Mult (.Subscript (.Name (Str.ofString "reel") (woundP 40)) (.Constant (.int 1) 0 (woundP 41)) (woundP 42)) (woundP 43)) .Mod (.Constant (.int 2147483629) 0 (woundP 44)) (woundP 45)) .FloorDiv (.Constant (.int 32) 0 (woundP 46)) (woundP 47)) .Mod (.Name (Str.ofString "many") (woundP 48)) (woundP 49))) (woundP 50)]
noncomputable def oneP (i : Nat) : Pos := posAt [640, 11, 640, 15, 640, 16, 640, 26, 640, 27, 640, 31, 640, 33, 640, 36, 640, 37, 640, 41, 640, 33, 640, 42, 640, 16, 640, 43, 640, 11, 640, 44, 640, 4, 640, 44] i
noncomputable def oneT : List Stmt := [.Return (some (.Subscript (.Name (Str.ofString "some") (oneP 0)) (.Call (.Name (Str.ofString "_law_wound") (oneP 1)) [(.Name (Str.ofString "reel") (oneP 2)), (.Call (.Name (Str.ofString "len") (oneP 3)) [(.Name (Str.ofString "some") (oneP 4))] [] (oneP 5))] [] (oneP 6)) (oneP 7))) (oneP 8)]
noncomputable def reelP (i : Nat) : Pos := posAt [629, 4, 629, 8, 629, 24, 629, 27, 629, 28, 629, 34, 629, 24, 629, 35, 629, 38, 629, 39, 629, 24, 629, 39, 629, 11, 629, 17, 629, 18, 629, 19, 629, 11, 629, 20, 629, 45, 629, 46, 629, 11, 629, 46, 629, 4, 629, 46, 630, 4, 630, 8, 630, 11, 630, 14, 630, 15, 630, 19, 630, 22, 630, 23, 630, 21, 630, 23, 630, 26, 630, 30, 630, 21, 630, 30, 630, 11, 630, 31, 630, 4, 630, 31, 631, 20, 631, 24, 631, 28, 631, 30, 631, 34, 631, 36, 631, 28, 631, 36, 631, 20, 631, 36, 631, 12, 631, 16, 631, 42, 631, 43, 631, 12, 631, 43, 631, 46, 631, 50, 631, 53, 631, 63, 631, 46, 631, 63, 631, 66, 631, 68, 631, 46, 631, 68, 631, 72, 631, 77, 631, 45, 631, 77, 631, 80, 631, 90, 631, 45, 631, 90, 631, 11, 631, 91, 631, 4, 631, 91] i
noncomputable def reelT : List Stmt := [.Assign [(.Name (Str.ofString "told") (reelP 0))] (.IfExp (.Compare (.Call (.Name (Str.ofString "len") (reelP 1)) [(.Name (Str.ofString "script") (reelP 2))] [] (reelP 3)) [.Gt] [(.Constant (.int 0) 0 (reelP 4))] (reelP 5)) (.Subscript (.Name (Str.ofString "script") (reelP 6)) (.Constant (.int 0) 0 (reelP 7)) (reelP 8)) (.Constant (.int 0) 0 (reelP 9)) (reelP 10)) (reelP 11), .Assign [(.Name (Str.ofString "size") (reelP 12))] (.Call (.Name (Str.ofString "max") (reelP 13)) [(.Name (Str.ofString "told") (reelP 14)), (.BinOp (.UnaryOp .USub (.Constant (.int 1) 0 (reelP 15)) (reelP 16)) .Sub (.Name (Str.ofString "told") (reelP 17)) (reelP 18))] [] (reelP 19)) (reelP 20), .Return (some (.List [(.IfExp (.Compare (.Name (Str.ofString "size") (reelP 21)) [.GtE] [(.BinOp (.Constant (.int 10) 0 (reelP 22)) .Pow (.Constant (.int 18) 0 (reelP 23)) (reelP 24))] (reelP 25)) (.Name (Str.ofString "size") (reelP 26)) (.Constant (.int 0) 0 (reelP 27)) (reelP 28)), (.BinOp (.BinOp (.BinOp (.BinOp (.Name (Str.ofString "size") (reelP 29)) .Mod (.Constant (.int 2147483629) 0 (reelP 30)) (reelP 31)) .Add (.Constant (.int 17) 0 (reelP 32)) (reelP 33)) .Mult (.Constant (.int 48271) 0 (reelP 34)) (reelP 35)) .Mod (.Constant (.int 2147483647) 0 (reelP 36)) (reelP 37))] (reelP 38))) (reelP 39)]
theorem wound_eq : defBody (stAt 101) = woundT := by kernel_rfl
theorem one_eq : defBody (stAt 102) = oneT := by kernel_rfl
theorem reel_eq : defBody (stAt 100) = reelT := by kernel_rfl
structure Reel (R : Addr) (h : Heap) : Prop where
 ex : ∃ (a b : Int) (t u : Tok), h.IsList R #[.int a t, .int b u] ∧ 0 ≤ b ∧ b < 2147483647
section
variable {S : Fixed} {A : Around} {env : Env} {h0 h h' : Heap} {outer : List Env} {m : Str → Option Value} {R : Addr}
theorem hide_all (h : Heap) (R : Addr) : All (h.hide R) h := fun _ _ e => Heap.of_hide e
theorem up_over (hR : h0.get? R = none) (u : Up h0 h) (v : Up (h.hide R) h') : Up h0 h' := by
 have ne : ∀ b o, h0.get? b = some o → b ≠ R := fun b o e q => by rw [q, hR] at e; exact nn e
 refine ⟨fun b o e hn => ?_, fun b o e hi => ?_⟩
 ·obtain ⟨sl, e1⟩ := u.slots b o e hn
  obtain ⟨sl2, e2⟩ := v.slots b _ ((Heap.hide_ne h (ne b o e)).trans e1) hn
  exact ⟨sl2, e2⟩
 ·exact v.iters b o ((Heap.hide_ne h (ne b o e)).trans (u.iters b o e hi)) hi
theorem stays_hide (st : S.B0.StaysIn h) (hR : S.B0.get? R = none) : S.B0.StaysIn (h.hide R) := fun b o e => (Heap.hide_ne h fun q => by rw [q, hR] at e; exact nn e).trans (st b o e)
theorem frames_hide {l : List Env} (x : h.FunFrames S.B0 l) (hne : ∀ e ∈ l, e.frame ≠ some R) : (h.hide R).FunFrames S.B0 l :=
 funFrames_hideAll (as := [R]) x fun e he a ha q => hne e he (by rw [q, List.mem_singleton.mp ha])
theorem ns_list {a : Addr} {m : Str → Option Value} {items : Array Value} (x : h.Ns a m) (y : h.IsList R items) : a ≠ R := fun q => by
 refine o_xxxaa x fun o es ep ho hd _ => ?_
 clear x
 refine o_xaax y fun o' ho' _ n hd' => ?_
 clear y
 rw [q, ho'] at ho
 cases ho
 rw [hd'] at hd
 injection hd
theorem HF.over (F : HF S A env h0 outer m h κ) (hR : h0.get? R = none) (hne : env.locals ≠ R) (u : Up (h.hide R) h') (st : Stays S h' κ') : HF S A env h0 outer m h' κ' := by
 refine ⟨?_, F.ent, F.fr, up_over hR F.up u, st, F.noC, F.glob, F.blt⟩
 refine o_xxxa F.ns fun o es ep ho r => ?_
 exact u.slots.ns ⟨o, es, ep, (Heap.hide_ne h hne).trans ho, r⟩
end
end
section
open PySem PySem.W PySem.SeqAt
open PyProof.Rows (Subscript_ mod_int' floordiv_int)
noncomputable def reelS : Str := Str.ofString "reel"
noncomputable def manyS : Str := Str.ofString "many"
section
variable {S : Fixed} {A : Around} {env : Env} {h0 : Heap} {outer : List Env} {m : Str → Option Value} {R : Addr} {s : Shared} {E : Value → Shared → Prop}
theorem HF.loadT (F : HF S A env h0 outer m s.heap (og s)) {x : Str} {v : Value} {p : Pos} {tk : Nat} {Q : Value → Shared → Prop} (hl : env.kindOf x = some .local) (hm : m x = some v) (hd : (x == ("__debug__" : Str)) = false) (h : Q v { s with toks := tk }) :
  wpAny S.M A (eval (.Name x p) env) Q E { s with toks := tk } := HF.load (s := { s with toks := tk }) F hl hm hd h
theorem reel_at (F : HF S A env h0 outer m s.heap (og s)) (hl : env.kindOf reelS = some .local) (hm : m reelS = some (.ref R)) {items : Array Value} (hL : s.heap.IsList R items) {i : Nat} (hi : i < 2) {v : Value} (hv : items[i]? = some v) {p1 p2 p3 : Pos} {Q : Value → Shared → Prop}
  {tk : Nat} (h : Q v { s with toks := tk + 1 }) : wpAny S.M A (eval (.Subscript (.Name reelS p1) (.Constant (.int (i : Nat)) 0 p2) p3) env) Q E { s with toks := tk } :=
 Subscript_ (F.loadT hl hm (by decide) (wpAny_Constant_int (sub_tail hL.typeIs slot_list_getitem.lookup (wpAny_getItem_list hL (by (simp_all +arith)) (by lia) (by simpa using hv) h))))
theorem reel_lam {items : Array Value} {h : Heap} (hL : h.IsList R items) : ∀ o, h.get? R = some o → ¬ LamLike o := fun o e ⟨vs, hd, _⟩ => by
 refine o_xaax hL fun o' ho' _ n hd' => ?_
 clear hL
 rw [e] at ho'
 cases ho'
 rw [hd] at hd'
 injection hd'
theorem reel_put (F : HF S A env h0 outer m s.heap (og s)) (hR : h0.get? R = none) (hB : S.B0.get? R = none) (hl : env.kindOf reelS = some .local) (hm : m reelS = some (.ref R)) {items : Array Value} (hL : s.heap.IsList R items) {i : Nat} (hi : i < items.size) (hi2 : i < 2) {v : Value} {p1 p2 : Pos} {tk₀ : Nat} {Q : Unit → Shared → Prop}
  (h : ∀ h' tk, HF S A env h0 outer m h' (og s) → h'.IsList R (items.setIfInBounds i v) → Q () { s with heap := h', toks := tk }) :
  wpAny S.M A (eval (.Name reelS p1) env) (fun ov s₂ => wpAny S.M A (eval (.Constant (.int (i : Nat)) 0 p2) env) (fun iv s₃ => wpAny S.M A (setItem ov iv v) Q E s₃) E s₂) E { s with toks := tk₀ } := by
 refine F.loadT hl hm (by decide) (wpAny_Constant_int ?_)
 refine wpAny_setItem_list (s := { s with toks := tk₀ + 1 }) hL (by (simp_all +arith)) (by lia) (by (simp +arith at *; assumption)) fun h' hL' hs' => ?_
 have k : ∀ x o, x ≠ R → s.heap.get? x = some o → h'.get? x = some o := fun x o hx e => (hs'.2 x hx).trans e
 refine h h' _ (F.over hR (ns_list F.ns hL) (Up.of_all fun b o e => ?_) (stays_but F.stays k hB (reel_lam hL))) (by simpa using hL')
 exact k b o (fun q => by rw [q, Heap.hide_self] at e; exact nn e) (Heap.of_hide e)
end
section
variable {S : Fixed} {A : Around} {R : Addr} {s : Shared} {E Q : Value → Shared → Prop} {outer : List Env}
theorem wound_call (hlim : S.B0.NoLimit) {fl : Addr} {ol : Obj} {ld : FuncData} (hol : S.B0.get? fl = some ol) (hld : ol.data = .func ld) (HFn : HandFn S [reelS, manyS] woundT ld) (hf : ld.scope.names.lookup (Str.ofString "found") = some .local)
  (hout : A.frames = some outer) (hff : s.heap.FunFrames S.B0 outer) (hne : ∀ e ∈ outer, e.frame ≠ some R) (st : Stays S s.heap (og s)) (hB : S.B0.get? R = none) (Rl : Reel R s.heap) (room : A.depth < recursionLimit) {k : Int} (hk : 0 < k) (hk2 : k < 4096) {tk : Tok}
  (fin : ∀ r t s', 0 ≤ r → r < k → Reel R s'.heap → Up (s.heap.hide R) s'.heap → Stays S s'.heap (og s') → Q (.int r t) s') :
  codeAny S.M A (.call (.ref fl) ⟨[.ref R, .int k tk], []⟩) (fun r s' => match r with | .ok (.ret v) => Q v s' | .ok _ => False | .error e => E e s') s := by
 refine o_xxxxaa Rl.ex fun a b t u hL hb1 hb2 => ?_
 refine call_hand2 (vs' := [.ref R, .int k tk]) hlim hol hld HFn (HFn.bind s _ st.base rfl) room hout (b := s.heap.hide R) (hide_all _ _) (stays_hide st.base hB) (frames_hide hff hne) st fun env s₁ Q' E' hQ hsc F a1 fresh => ?_
 have kind : ∀ y, env.kindOf y = ld.scope.names.lookup y := fun y => by show env.scope.names.lookup y = _; rw [hsc]
 have lr : env.kindOf reelS = some .local := by rw [kind]; exact HFn.loc _ (.head _)
 have lm : env.kindOf manyS = some .local := by rw [kind]; exact HFn.loc _ (.tail _ (.head _))
 have lf : env.kindOf (Str.ofString "found") = some .local := by rw [kind]; exact hf
 have hL1 : s₁.heap.IsList R #[.int a t, .int b u] := up_isList (Up.of_all a1) hL
 have hRb : (s.heap.hide R).get? R = none := Heap.hide_self _ _
 generalize hm0 : (fun x => ([reelS, manyS].zip [Value.ref R, Value.int k tk]).reverse.lookup x) = m0 at F
 have vr : m0 reelS = some (.ref R) := by rw [← hm0]; rfl
 have vm : m0 manyS = some (.int k tk) := by rw [← hm0]; rfl
 have k0 : k ≠ 0 := by lia
 refine wpAny_execs_cons (wpAny_If (wpAny_isTrue_Compare1 (reel_at (i := 0) F lr vr hL1 (by decide) rfl (wpAny_Constant_int (PySem.P.gt_int (wpAny_truthy_bool ?_)))) rfl))
 by_cases ha : a > 0
 ·rw [decide_eq_true ha]
  refine wpAny_execs_cons (wpAny_Assign_Name (hs := rfl) (wpAny_BinOp (reel_at (i := 0) F lr vr hL1 (by decide) rfl (F.loadT lm vm (by decide) (mod_int' k0 ?_)))))
  refine HF.store (s := { s₁ with toks := s₁.toks + 1 + 1 + 1 + 1 }) F lf fun h2 F2 sf2 sb2 => ?_
  have hL2 : h2.IsList R #[.int a t, .int b u] := sf2.lst hL1
  refine wpAny_execs_cons (wpAny_Assign_Subscript (hs := rfl) (wpAny_BinOp (reel_at (i := 0) (s := { s₁ with heap := h2 }) F2 lr (by rw [if_neg (by decide)]; exact vr) hL2 (by decide) rfl (HF.loadT (s := { s₁ with heap := h2 }) F2 lm (by rw [if_neg (by decide)]; exact vm) (by decide) (floordiv_int k0 ?_ (hp := .inl (PyProof.noPylong_small (by lia))))))))
  refine reel_put (i := 0) (s := { s₁ with heap := h2 }) F2 hRb hB lr (by rw [if_neg (by decide)]; exact vr) hL2 (by simp) (by decide) fun h3 tk3 F3 hL3 => ?_
  refine wpAny_execs_cons (wpAny_Return_some (HF.loadT (s := { s₁ with heap := h3 }) F3 lf (if_pos rfl) (by decide) ?_))
  exact hQ (.ret _) _ (fin _ _ _ (Int.fmod_nonneg_of_pos _ hk) (Int.fmod_lt_of_pos _ hk) ⟨_, _, _, _, hL3, hb1, hb2⟩ F3.up F3.stays)
 ·rw [decide_eq_false ha]
  refine wpAny_execs_nil ?_
  refine wpAny_execs_cons (wpAny_Assign_Subscript (hs := rfl) (wpAny_BinOp (wpAny_BinOp (wpAny_BinOp (reel_at (i := 1) F lr vr hL1 (by decide) rfl (wpAny_Constant_int (PySem.P.mul_int (wpAny_Constant_int (PySem.P.add_int (wpAny_Constant_int (mod_int' (by decide) ?_)))) (hm := IntMulOk.of_left (intBits_le_64 (by lia) (by lia))))))))))
  refine reel_put (i := 1) F hRb hB lr vr hL1 (by simp) (by decide) fun h2 tk2 F2 hL2 => ?_
  have hb' := Int.fmod_nonneg_of_pos (b * 39373 + 7) (b := 2147483647) (by decide)
  have hb'' := Int.fmod_lt_of_pos (b * 39373 + 7) (b := 2147483647) (by decide)
  generalize (b * 39373 + 7).fmod 2147483647 = c at hL2 hb' hb''
  refine wpAny_execs_cons (wpAny_Return_some (wpAny_BinOp (wpAny_BinOp (wpAny_BinOp (wpAny_BinOp (reel_at (i := 1) (s := { s₁ with heap := h2 }) F2 lr vr hL2 (by decide) rfl (reel_at (i := 1) (s := { s₁ with heap := h2 }) F2 lr vr hL2 (by decide) rfl (PySem.P.mul_int (wpAny_Constant_int (mod_int' (by decide) (wpAny_Constant_int (floordiv_int (by decide) (HF.loadT (s := { s₁ with heap := h2 }) F2 lm vm (by decide) (mod_int' k0 ?_)) (hp := .inl (PyProof.noPylong_small (by decide))))))) (hm := IntMulOk.of_left (intBits_le_64 (by lia) (by lia)))))))))))
  exact hQ (.ret _) _ (fin _ _ _ (Int.fmod_nonneg_of_pos _ hk) (Int.fmod_lt_of_pos _ hk) ⟨_, _, _, _, hL2, hb', hb''⟩ F2.up F2.stays)
end
end
section
open PySem PySem.W PySem.SeqAt
open PyProof.Rows (Subscript_)
noncomputable def goodD (d : Dat) : Bool := noList d && (match d with | .int _ => false | .obj _ => false | _ => true)
noncomputable def someS : Str := Str.ofString "some"
section
variable {S : Fixed} {A : Around} {env : Env} {h0 : Heap} {outer : List Env} {m : Str → Option Value} {R : Addr} {s : Shared} {E : Value → Shared → Prop}
theorem HF.built (F : HF S A env h0 outer m s.heap (og s)) {mg mb : Str → Option Value} (hg : S.B0.Ns mainGlobals mg) (hb : S.B0.Ns builtinsNs mb) {x : Str} {v : Value} {p : Pos} {tk : Nat} {Q : Value → Shared → Prop} (hl : env.kindOf x = some .globalImplicit) (e : mg x = none) (e' : mb x = some v) (hd : (x == ("__debug__" : Str)) = false)
  (h : Q v { s with toks := tk }) : wpAny S.M A (eval (.Name x p) env) Q E { s with toks := tk } :=
 Calls.Name_function_global F.ent.kind hl (Calls.loadGlobal_builtin (by rw [F.glob]; exact hg.keeps F.stays.base) e (by rw [F.blt]; exact hb.keeps F.stays.base) e' h) hd
theorem tsoft_hide {items : Array Value} {h : Heap} (hL : h.IsList R items) : TSoft h (h.hide R) := fun b o its n e hc _ => ⟨o.slots, (Heap.hide_ne h fun q => by
 refine o_xaa hL fun o' ho' hc' _ => ?_
 clear hL
 rw [q, ho'] at e
 obtain rfl := si e
 rw [hc'] at hc
 exact absurd hc (by decide)).trans e⟩
theorem not_reel {Ω : Nat → Value} {h : Heap} {a : Addr} {vs : List Value} {ds : List Dat} (Rl : Reel R h) (hL : h.IsList a vs.toArray) (D : DatsH Ω h vs ds) (hg : ds.all goodD = true) (hn : 0 < ds.length) : a ≠ R := fun q => by
 subst q
 refine o_xxxxa Rl.ex fun x y t u hL2 _ => ?_
 refine o_xaax hL fun o ho _ n hd => ?_
 clear hL
 refine o_xaax hL2 fun o' ho' _ n' hd' => ?_
 clear hL2
 rw [ho] at ho'
 obtain rfl := si ho'
 rw [hd] at hd'
 have e : vs.toArray = #[.int x t, .int y u] := by cases hd'; rfl
 have e2 : vs = [.int x t, .int y u] := congrArg Array.toList e
 subst e2
 cases D with
 | cons D1 Dr =>
  cases D1 with
  | int i t => simp [goodD] at hg
  | obj k e => simp [goodD] at hg
end
section
variable {S : Fixed} {A : Around} {R : Addr} {s : Shared} {E Q : Value → Shared → Prop} {outer : List Env} {mg mb : Str → Option Value}
theorem one_call (hlim : S.B0.NoLimit) (hg : S.B0.Ns mainGlobals mg) (hb : S.B0.Ns builtinsNs mb) (e1 : mg (Str.ofString "len") = none) (e2 : mb (Str.ofString "len") = some (.builtin "len"))
  {fw : Addr} {ow : Obj} {wd : FuncData} (hmw : mg (Str.ofString "_law_wound") = some (.ref fw)) (how : S.B0.get? fw = some ow) (hwd : ow.data = .func wd) (HW : HandFn S [reelS, manyS] woundT wd) (hf : wd.scope.names.lookup (Str.ofString "found") = some .local)
  {fo : Addr} {oo : Obj} {od : FuncData} (hoo : S.B0.get? fo = some oo) (hod : oo.data = .func od) (HO : HandFn S [reelS, someS] oneT od) (hl1 : od.scope.names.lookup (Str.ofString "_law_wound") = some .globalImplicit) (hl2 : od.scope.names.lookup (Str.ofString "len") = some .globalImplicit)
  (hout : A.frames = some outer) (hff : s.heap.FunFrames S.B0 outer) (hne : ∀ e ∈ outer, e.frame ≠ some R) (st : Stays S s.heap (og s)) (hB : S.B0.get? R = none) (Rl : Reel R s.heap) (room : A.depth + 1 < recursionLimit)
  {v : Value} {ds : List Dat} (D : DatH S.Ω s.heap v (.list ds)) (hds : ds.all goodD = true) (h0 : 0 < ds.length) (h1 : ds.length < 4096)
  (fin : ∀ d r s', d ∈ ds → DatH S.Ω s'.heap r d → Reel R s'.heap → Up (s.heap.hide R) s'.heap → Stays S s'.heap (og s') → Q r s') :
  codeAny S.M A (.call (.ref fo) ⟨[.ref R, v], []⟩) (fun r s' => match r with | .ok (.ret v) => Q v s' | .ok _ => False | .error e => E e s') s := by
 refine o_xxaa D.il fun a vs q hL r => ?_
 subst q
 ·have hlen := r.length
  have ane := not_reel Rl hL r hds h0
  refine call_hand2 (vs' := [.ref R, .ref a]) hlim hoo hod HO (HO.bind s _ st.base rfl) (by (exact Nat.le_of_lt ‹_›)) hout (b := s.heap.hide R) (hide_all _ _) (stays_hide st.base hB) (frames_hide hff hne) st fun env s₁ Q' E' hQ hsc F a1 fresh => ?_
  have kind : ∀ y, env.kindOf y = od.scope.names.lookup y := fun y => by show env.scope.names.lookup y = _; rw [hsc]
  have lr : env.kindOf reelS = some .local := by rw [kind]; exact HO.loc _ (.head _)
  have ls : env.kindOf someS = some .local := by rw [kind]; exact HO.loc _ (.tail _ (.head _))
  have hRb : (s.heap.hide R).get? R = none := Heap.hide_self _ _
  generalize hm0 : (fun x => ([reelS, someS].zip [Value.ref R, Value.ref a]).reverse.lookup x) = m0 at F
  have vr : m0 reelS = some (.ref R) := by rw [← hm0]; rfl
  have vm : m0 someS = some (.ref a) := by rw [← hm0]; rfl
  have Rl1 : Reel R s₁.heap := by obtain ⟨x, y, t, u, q, r⟩ := Rl.ex; exact ⟨x, y, t, u, up_isList (Up.of_all a1) q, r⟩
  have hL1 : s₁.heap.IsList a vs.toArray := up_isList (Up.of_all a1) hL
  have r1 := r.up (Up.of_all a1)
  have nel : env.locals ≠ R := by obtain ⟨_, _, _, _, q, _⟩ := Rl1.ex; exact ns_list F.ns q
  refine wpAny_execs_cons (wpAny_Return_some (Subscript_ (F.load ls vm (by decide) (wpAny_Call_ofName (F.top hg (by rw [kind]; exact hl1) hmw (by decide) (Calls.callWith_function (o := ow) (fd := wd) ?_))))))
  refine Calls.evalArgs_plain (Calls.spliced_cons (F.load lr vr (by decide) (Calls.spliced_cons (wpAny_Call_ofName (F.built hg hb (tk := s₁.toks) (by rw [kind]; exact hl2) e1 e2 (by decide) (Calls.callWith_builtin rfl (Calls.evalArgs_plain (Calls.spliced_cons (F.loadT ls vm (by decide) (Calls.spliced_nil ?_))))))))))
  refine Calls.call_len_list hL1 (by simp; lia) (Calls.spliced_nil ⟨⟨F.stays.base _ _ how, hwd⟩, wpAny_call ?_⟩)
  refine wound_call (s := { s₁ with toks := s₁.toks + 1 + 1 }) (R := R) hlim how hwd HW hf F.fr F.frames (fun e he q => ?_) F.stays hB Rl1 (by show A.depth + 1 < recursionLimit; exact room) (by simp; (simp +arith only [*])) (by simp; lia) fun i t s2 i0 ik Rl2 u2 st2 => ?_
  ·rcases List.mem_cons.mp he with rfl | he
   ·rw [F.ent.hf] at q; exact nel (Option.some.inj q)
   ·exact hne e he q
  ·have hik : i.toNat < vs.length := by
    have : i < (vs.length : Int) := by simpa using ik
    lia
   have F2 := F.over hRb nel u2 st2
   have hL2 : s2.heap.IsList a vs.toArray := up_isList u2 (by obtain ⟨o, q, r⟩ := hL1; exact ⟨o, (Heap.hide_ne _ ane).trans q, r⟩)
   refine o_xxxxa Rl1.ex fun _ _ _ _ hLR _ => ?_
   have r2 : DatsH S.Ω s2.heap vs ds := (r1.tsoft (tsoft_hide hLR) (by
    rw [List.all_eq_true] at hds ⊢
    intro d hd
    exact (ba (hds d hd)).1)).up u2
   have hd : ds[i.toNat]? = some (ds[i.toNat]'(by lia)) := List.getElem?_eq_getElem _
   refine o_xa (r2.get hd) fun y hy Dy => ?_
   refine sub_tail hL2.typeIs slot_list_getitem.lookup (wpAny_getItem_list hL2 i0 (by lia) (by simpa using hy) ?_)
   exact hQ (.ret _) _ (fin _ _ _ (List.getElem_mem _) Dy Rl2 F2.up st2)
end
end
section
open PySem PySem.W PySem.SeqAt
open PyProof.Rows (Subscript_ mod_int' sub_int' List_ pow_int_small)
noncomputable def scriptS : Str := Str.ofString "script"
noncomputable def toldS : Str := Str.ofString "told"
noncomputable def sizeS : Str := Str.ofString "size"
section
variable {S : Fixed} {A : Around} {s : Shared} {E Q : Value → Shared → Prop} {outer : List Env} {mg mb : Str → Option Value}
theorem reel_call (hlim : S.B0.NoLimit) (hg : S.B0.Ns mainGlobals mg) (hb : S.B0.Ns builtinsNs mb) (e1 : mg (Str.ofString "len") = none) (e2 : mb (Str.ofString "len") = some (.builtin "len")) (e3 : mg (Str.ofString "max") = none) (e4 : mb (Str.ofString "max") = some (.builtin "max"))
  {fo : Addr} {oo : Obj} {od : FuncData} (hoo : S.B0.get? fo = some oo) (hod : oo.data = .func od) (HO : HandFn S [scriptS] reelT od) (hl1 : od.scope.names.lookup (Str.ofString "max") = some .globalImplicit) (hl2 : od.scope.names.lookup (Str.ofString "len") = some .globalImplicit) (hl3 : od.scope.names.lookup toldS = some .local) (hl4 : od.scope.names.lookup sizeS = some .local)
  (hout : A.frames = some outer) (hff : s.heap.FunFrames S.B0 outer) (hh : A.handled = none) (st : Stays S s.heap (og s)) (room : A.depth < recursionLimit)
  {a : Addr} {vs : List Value} (hL : s.heap.IsList a vs.toArray) (hz : vs.length < 4096) (hi : ∀ v, vs[0]? = some v → ∃ x t, v = .int x t)
  (fin : ∀ L s', All s.heap s'.heap → s.heap.get? L = none → Reel L s'.heap → Stays S s'.heap (og s') → Q (.ref L) s') :
  codeAny S.M A (.call (.ref fo) ⟨[.ref a], []⟩) (fun r s' => match r with | .ok (.ret v) => Q v s' | .ok _ => False | .error e => E e s') s := by
 refine call_hand2 (vs' := [.ref a]) hlim hoo hod HO (HO.bind s _ st.base rfl) room hout (b := s.heap) (fun _ _ e => e) st.base hff st fun env s₁ Q' E' hQ hsc F a1 fresh => ?_
 have kind : ∀ y, env.kindOf y = od.scope.names.lookup y := fun y => by show env.scope.names.lookup y = _; rw [hsc]
 have lsc : env.kindOf scriptS = some .local := by rw [kind]; exact HO.loc _ (.head _)
 have lt : env.kindOf toldS = some .local := by rw [kind]; exact hl3
 have lz : env.kindOf sizeS = some .local := by rw [kind]; exact hl4
 generalize hm0 : (fun x => ([scriptS].zip [Value.ref a]).reverse.lookup x) = m0 at F
 have vs0 : m0 scriptS = some (.ref a) := by rw [← hm0]; rfl
 have hL1 : s₁.heap.IsList a vs.toArray := up_isList (Up.of_all a1) hL
 have told : ∀ R : Value → Shared → Prop, (∀ x t tk, R (.int x t) { s₁ with toks := tk }) → wpAny S.M (A.deeper env) (eval (.IfExp (.Compare (.Call (.Name (Str.ofString "len") (reelP 1)) [(.Name scriptS (reelP 2))] [] (reelP 3)) [.Gt] [(.Constant (.int 0) 0 (reelP 4))] (reelP 5)) (.Subscript (.Name scriptS (reelP 6)) (.Constant (.int 0) 0 (reelP 7)) (reelP 8)) (.Constant (.int 0) 0 (reelP 9)) (reelP 10)) env) R
   E' s₁ := fun R q => by
  refine wpAny_IfExp (wpAny_isTrue_Compare1 (wpAny_Call_ofName (F.built hg hb (tk := s₁.toks) (by rw [kind]; exact hl2) e1 e2 (by decide) (Calls.callWith_builtin rfl (Calls.evalArgs_plain (Calls.spliced_cons (F.loadT lsc vs0 (by decide) (Calls.spliced_nil (Calls.call_len_list hL1 (by simp; lia) (wpAny_Constant_int (PySem.P.gt_int (wpAny_truthy_bool ?_)))))))))) ) rfl)
  by_cases h0 : 0 < vs.length
  ·rw [decide_eq_true (by simpa using h0)]
   refine o_xx (hi vs[0] (List.getElem?_eq_getElem h0)) fun x t e => ?_
   exact Subscript_ (F.loadT lsc vs0 (by decide) (wpAny_Constant_int (sub_tail hL1.typeIs slot_list_getitem.lookup (wpAny_getItem_list hL1 (by decide) (by decide) (x := .int x t) (by rw [← e]; simpa using List.getElem?_eq_getElem h0) (q x t _)))))
  ·rw [decide_eq_false (by simpa using h0)]
   exact wpAny_Constant_int (q 0 _ _)
 refine wpAny_execs_cons (wpAny_Assign_Name (hs := rfl) (told _ fun x t tk => ?_))
 refine HF.store (s := { s₁ with toks := tk }) F lt fun h2 F2 sf2 sb2 => ?_
 refine wpAny_execs_cons (wpAny_Assign_Name (hs := rfl) (wpAny_Call_ofName (HF.built (s := { s₁ with heap := h2 }) F2 hg hb (by rw [kind]; exact hl1) e3 e4 (by decide) (Calls.callWith_builtin rfl (Calls.evalArgs_plain (Calls.spliced_cons (HF.loadT (s := { s₁ with heap := h2 }) F2 lt (if_pos rfl) (by decide) (Calls.spliced_cons (wpAny_BinOp (wpAny_UnaryOp (wpAny_Constant_int (PySem.P.neg_int (HF.loadT (s := { s₁ with heap := h2 }) F2 lt (if_pos rfl) (by decide) (sub_int' (Calls.spliced_nil ?_)))))))))))))))
 refine bi_sound (f := .max) (Ω := S.Ω) (.inr (.inr (.inl rfl))) hh (.cons (.int x t) (.cons (.int _ _) .nil)) rfl fun r h3 tk3 D3 k3 => ?_
 obtain ⟨z, tz, rfl⟩ : ∃ z t, r = .int z t := ⟨_, D3.ii⟩
 have F3 := F2.all k3
 refine HF.store (s := { s₁ with heap := h3, toks := tk3 }) F3 lz fun h4 F4 sf4 sb4 => ?_
 have mz : (fun y => if y = sizeS then some (Value.int z tz) else (fun y => if y = toldS then some (Value.int x t) else m0 y) y) sizeS = some (.int z tz) := if_pos rfl
 have k04 : All s.heap h4 := fun b o e => by
  have ne : b ≠ env.locals := fun q => by rw [q, fresh] at e; exact nn e
  exact (sb4.2 b ne).trans (k3 _ _ ((sb2.2 b ne).trans (a1 _ _ e)))
 generalize hs4 : ({ s₁ with heap := h4 } : Shared) = s4
 replace k04 : All s.heap s4.heap := by rw [← hs4]; exact k04
 have F4' : HF S (A.deeper env) env s.heap outer (fun y => if y = sizeS then some (Value.int z tz) else (fun y => if y = toldS then some (Value.int x t) else m0 y) y) s4.heap (og s4) := by rw [← hs4]; exact F4
 have first : ∀ (R E' : Value → Shared → Prop) (tk0 : Nat), (∀ x t tk, R (.int x t) { s4 with toks := tk }) → wpAny S.M (A.deeper env) (eval (.IfExp (.Compare (.Name sizeS (reelP 21)) [.GtE] [(.BinOp (.Constant (.int 10) 0 (reelP 22)) .Pow (.Constant (.int 18) 0 (reelP 23)) (reelP 24))] (reelP 25)) (.Name sizeS (reelP 26)) (.Constant (.int 0) 0 (reelP 27)) (reelP 28)) env) R E' { s4 with toks := tk0 } := fun R E' tk0 q => by
  refine wpAny_IfExp (wpAny_isTrue_Compare1 (F4'.loadT lz mz (by decide) (wpAny_BinOp (wpAny_Constant_int (wpAny_Constant_int (pow_int_small (by decide) (by decide) (by decide) (PySem.P.ge_int (wpAny_truthy_bool ?_))))))) rfl)
  by_cases h0 : z ≥ 10 ^ (18 : Int).toNat
  ·rw [decide_eq_true h0]
   exact F4'.loadT lz mz (by decide) (q _ _ _)
  ·rw [decide_eq_false h0]
   exact wpAny_Constant_int (q _ _ _)
 have b1 := Int.fmod_nonneg_of_pos z (b := 2147483629) (by decide)
 have b2 := Int.fmod_lt_of_pos z (b := 2147483629) (by decide)
 have b3 := Int.fmod_nonneg_of_pos ((z.fmod 2147483629 + 17) * 48271) (b := 2147483647) (by decide)
 have b4 := Int.fmod_lt_of_pos ((z.fmod 2147483629 + 17) * 48271) (b := 2147483647) (by decide)
 have goal : ∀ tk0 : Nat, wpAny S.M (A.deeper env) (execs [.Return (some (.List [(.IfExp (.Compare (.Name sizeS (reelP 21)) [.GtE] [(.BinOp (.Constant (.int 10) 0 (reelP 22)) .Pow (.Constant (.int 18) 0 (reelP 23)) (reelP 24))] (reelP 25)) (.Name sizeS (reelP 26)) (.Constant (.int 0) 0 (reelP 27)) (reelP 28)), (.BinOp (.BinOp (.BinOp (.BinOp (.Name sizeS (reelP 29)) .Mod (.Constant (.int 2147483629) 0 (reelP 30)) (reelP 31)) .Add (.Constant (.int 17) 0 (reelP 32)) (reelP 33)) .Mult (.Constant (.int 48271) 0 (reelP 34)) (reelP 35)) .Mod (.Constant (.int 2147483647) 0 (reelP 36)) (reelP 37))] (reelP 38))) (reelP 39)] env)
   Q' E' { s4 with toks := tk0 } := fun tk0 => by
  refine wpAny_execs_cons (wpAny_Return_some (List_ (Calls.spliced_cons (first _ _ _ fun x1 t1 tk1 => ?_))))
  refine Calls.spliced_cons (wpAny_BinOp (wpAny_BinOp (wpAny_BinOp (wpAny_BinOp (F4'.loadT lz mz (by decide) ?_)))))
  refine wpAny_Constant_int (mod_int' (by decide) (wpAny_Constant_int (PySem.P.add_int (wpAny_Constant_int (PySem.P.mul_int ?_ (hm := IntMulOk.of_left (intBits_le_64 (by lia) (by lia))))))))
  refine wpAny_Constant_int (mod_int' (by decide) (Calls.spliced_nil ?_))
  refine new_list (S := S) (by simp) fun h5 L k5 n5 l5 => ?_
  have F5 := F4'.all k5
  refine hQ (.ret _) _ (fin L _ (fun b o e => ?_) ?_ ⟨_, _, _, _, ⟨_, l5, rfl, 0, rfl⟩, b3, b4⟩ F5.stays)
  ·exact k5 _ _ (k04 _ _ e)
  ·induction q : s.heap.get? L with
   | none => rfl
   | some o =>
    have q2 := k04 _ _ q
    rw [show s4.heap.get? L = none from n5] at q2
    exact nn q2
 rw [← hs4] at goal
 exact goal _
end
end
section
set_option backward.match.sparseCases false
open PySem PySem.W PySem.SeqAt
@[irreducible] def sortsFn : Fn := match stAt 106 with
 | .FunctionDef name args body _ _ _ scope _ _ _ => ⟨name, args.args.length, localsOf scope.names, compSs { cx0 with slots := localsOf scope.names } body.dropLast, [], holes ((localsOf scope.names).length - args.args.length)⟩
 | _ => ⟨⟨#[]⟩, 0, [], .nil, [], []⟩
noncomputable def sortsP (i : Nat) : Pos := posAt [664, 12, 664, 20, 664, 31, 664, 38, 664, 48, 664, 54, 664, 63, 664, 68, 664, 22, 664, 29, 664, 40, 664, 46, 664, 56, 664, 61, 664, 70, 664, 75, 664, 11, 664, 76, 664, 4, 664, 76] i
@[irreducible] def sortsA : M := .cons (.lit (.str (Str.ofString "number")) 0 (sortsP 0)) (.cons (.lit (.str (Str.ofString "truth")) 0 (sortsP 1)) (.cons (.lit (.str (Str.ofString "text")) 0 (sortsP 2)) (.cons (.lit (.str (Str.ofString "ptr")) 0 (sortsP 3)) .nil)))
@[irreducible] def sortsB : M := .cons (.var 4 (Str.ofString "numbers") (sortsP 4)) (.cons (.var 5 (Str.ofString "truths") (sortsP 5)) (.cons (.var 6 (Str.ofString "texts") (sortsP 6)) (.cons (.var 7 (Str.ofString "leads") (sortsP 7)) .nil)))
theorem sorts_eq : defBody (stAt 106) = toSs sortsFn.body ++ [.Return (some (.Dict ((toEs sortsA).map some) (toEs sortsB) (sortsP 8))) (sortsP 9)] := by kernel_rfl
noncomputable def sortsKs : List Dat := [S "number", S "truth", S "text", S "ptr"]
noncomputable def sortsVs (p : Int) : List Dat := [.list (numbers p), .list (truths p), .list (textsM p), .list (leads p)]
noncomputable def sortsRun (p : Int) : Option (List Dat) := match bindD sortsFn [.int p] with
 | some ρ => match runT tabs 40 (.sts sortsFn.body) ρ with
  | some (.flow ρ' .next) => match runT tabs 40 (.exs sortsB) ρ' with
   | some (.vals vs) => some vs
   | _ => none
  | _ => none
 | none => none
theorem sorts_run1 : sortsRun 1 = some (sortsVs 1) := by kernel_rfl
theorem sorts_run2 : sortsRun 2 = some (sortsVs 2) := by kernel_rfl
end
section
open PySem PySem.W PySem.SeqAt
variable {κ κ' : OG}
noncomputable def LU (env : Env) (R : Addr) (h h' : Heap) : Prop := Up ((bare env h).hide R) h'
noncomputable def goodR (ρ : List Dat) : Bool := ρ.all fun d => isHole d || noList d
section
variable {env : Env} {R : Addr} {h h' h'' : Heap}
theorem lu_get {b : Addr} {o : Obj} (e : ((bare env h).hide R).get? b = some o) : h.get? b = some o ∧ b ≠ R ∧ b ∉ env.locals :: ownCells env := by
 have ne : b ≠ R := fun q => by rw [q, Heap.hide_self] at e; exact nn e
 have e2 := Heap.of_hide e
 refine ⟨of_hideAll _ e2, ne, fun q => ?_⟩
 rw [show (bare env h).get? b = none from hideAll_none _ q] at e2
 exact nn e2
theorem lu_put {b : Addr} {o : Obj} (e : h.get? b = some o) (h1 : b ≠ R) (h2 : b ∉ env.locals :: ownCells env) : ((bare env h).hide R).get? b = some o := (Heap.hide_ne _ h1).trans (hideAll_get _ e h2)
theorem LU.of_bare (u : Up (bare env h) h') : LU env R h h' := (Up.of_all (hide_all _ _)).trans u
theorem LU.of_hide (u : Up (h.hide R) h') : LU env R h h' := (Up.of_all fun b o e => let ⟨a, c, _⟩ := lu_get e; (Heap.hide_ne h c).trans a).trans u
theorem LU.of_up (u : Up h h') : LU env R h h' := LU.of_hide ((Up.of_all (hide_all _ _)).trans u)
theorem LU.trans (u : LU env R h h') (v : LU env R h' h'') : LU env R h h'' := by
 refine ⟨fun b o e hn => ?_, fun b o e hi => ?_⟩
 ·refine o_aa (lu_get e) fun _ h1 h2 => ?_
  obtain ⟨sl, e1⟩ := u.slots b o e hn
  obtain ⟨sl2, e2⟩ := v.slots b _ (lu_put e1 h1 h2) hn
  exact ⟨sl2, e2⟩
 ·refine o_aa (lu_get e) fun _ h1 h2 => ?_
  exact v.iters b o (lu_put (u.iters b o e hi) h1 h2) hi
theorem up_bare_own (o : Own env h h') : Up (bare env h) h' := Up.of_all fun b ob e => by
 have e2 := of_hideAll _ e
 refine o b ob e2 (fun q => ?_) fun y hy q => ?_
 ·rw [q, show (bare env h).get? env.locals = none from hideAll_none _ (.head _)] at e; exact nn e
 ·rw [show (bare env h).get? b = none from hideAll_none _ (.tail _ (mem_ownCells hy q))] at e; exact nn e
end
section
variable {S : Fixed} {n : Nat} {A : Around} {env : Env} {xs : List Str} {ρ ρ' : List Dat} {R : Addr} {s s' : Shared}
structure LawAt (S : Fixed) (R : Addr) (n : Nat) (A : Around) (env : Env) (xs : List Str) (ρ : List Dat) (s : Shared) : Prop where
 at_ : At S n A env xs ρ S.B0 [] s.heap (og s)
 reel : Reel R s.heap
theorem Reel.lst {h : Heap} (Rl : Reel R h) : ∃ items, h.IsList R items := let ⟨_, _, _, _, q, _⟩ := Rl.ex; ⟨_, q⟩
theorem Reel.get {h h' : Heap} (Rl : Reel R h) (u : ∀ items, h.IsList R items → h'.IsList R items) : Reel R h' := let ⟨_, _, _, _, q, r⟩ := Rl.ex; ⟨_, _, _, _, u _ q, r⟩
theorem reel_own {Ω : Nat → Value} {h : Heap} (F : Frm Ω env xs ρ h) {items : Array Value} (hL : h.IsList R items) : R ≠ env.locals ∧ ∀ y, env.cells.lookup y ≠ some R := by
 refine ⟨fun q => ?_, fun y q => ?_⟩
 ·obtain ⟨⟨m, hn, _⟩, _⟩ := F
  exact ns_list hn hL q.symm
 ·refine o_xxa (F.cells y R q) fun o o' ho hd => ?_
  refine o_xaax hL fun o2 ho2 _ k hd2 => ?_
  clear hL
  rw [ho2] at ho
  obtain rfl := si ho
  rw [hd2] at hd
  injection hd
theorem LawAt.step (X : LawAt S R n A env xs ρ s) (F : Frm S.Ω env xs ρ' s'.heap) (u : Up (bare env s.heap) s'.heap) (st : Stays S s'.heap (og s')) : LawAt S R n A env xs ρ' s' :=
 ⟨X.at_.next F (Up.of_all st.base) st, X.reel.get fun items hL => up_isList u (by
  obtain ⟨a, b⟩ := reel_own X.at_.cond.frm hL
  refine o_xa hL fun o ho r => ?_
  clear hL
  exact ⟨o, bare_get ho a fun y _ => b y, r⟩)⟩
theorem LawAt.keep (X : LawAt S R n A env xs ρ s) (k : Keep S s.heap s'.heap (og s')) : LawAt S R n A env xs ρ s' := ⟨X.at_.keep k, X.reel.get fun _ hL => up_isList k.up hL⟩
theorem LawAt.less {m : Nat} (X : LawAt S R n A env xs ρ s) (h : m ≤ n) : LawAt S R m A env xs ρ s := ⟨X.at_.less h, X.reel⟩
theorem Frm.over {Ω : Nat → Value} {h h' : Heap} (F : Frm Ω env xs ρ h) (hg : goodR ρ = true) {items : Array Value} (hL : h.IsList R items) (u : Up (h.hide R) h') : Frm Ω env xs ρ h' := by
 obtain ⟨ne, nc⟩ := reel_own F hL
 refine Frm.up u ?_
 refine via fun Gv kv => ?_
 obtain ⟨⟨m, hn, hv⟩, hc, hh, h1, hln⟩ := F
 refine kv ?_
 clear kv Gv
 have cellk : ∀ y c v, env.cells.lookup y = some c → h.IsCell c v → (h.hide R).IsCell c v := fun y c v hy ⟨o, ho, hd⟩ => ⟨o, (Heap.hide_ne h fun (q : c = R) => nc y (q ▸ hy)).trans ho, hd⟩
 have datk : ∀ (i : Nat) (d : Dat) (v : Value), ρ[i]? = some d → d ≠ .hole → DatH Ω h v d → DatH Ω (h.hide R) v d := fun i d v hi hne D => by
  refine D.tsoft (tsoft_hide hL) ?_
  have := List.all_eq_true.mp hg d (List.mem_of_getElem? hi)
  rcases Bool.or_eq_true_iff.mp this with q | q
  ·exact absurd (isHole_eq q) hne
  ·exact q
 refine ⟨⟨m, ?_, fun i x d hx hd => ?_⟩, fun x c e => let ⟨o, q⟩ := hc x c e; ⟨o, cellk x c _ e q⟩, hh, h1, hln⟩
 ·refine o_xxxa hn fun o es ep ho r => ?_
  clear hn
  exact ⟨o, es, ep, (Heap.hide_ne h (Ne.symm ne)).trans ho, r⟩
 ·rcases hv i x d hx hd with e | ⟨a, b⟩
  ·exact .inl e
  ·by_cases hd0 : d = .hole
   ·exact .inl hd0
   ·exact .inr ⟨fun e => let ⟨v, e1, e2⟩ := a e; ⟨v, e1, datk i d v hd hd0 e2⟩, fun e => let ⟨c, v, e1, e2, e3⟩ := b e; ⟨c, v, e1, cellk x c _ e1 e2, datk i d v hd hd0 e3⟩⟩
theorem LawAt.over (X : LawAt S R n A env xs ρ s) (hg : goodR ρ = true) (u : Up (s.heap.hide R) s'.heap) (st : Stays S s'.heap (og s')) (Rl : Reel R s'.heap) : LawAt S R n A env xs ρ s' := by
 obtain ⟨items, hL⟩ := X.reel.lst
 exact ⟨X.at_.next (X.at_.cond.frm.over hg hL u) (Up.of_all st.base) st, Rl⟩
theorem LU.dat {Ω : Nat → Value} {h h' : Heap} (F : Frm Ω env xs ρ h) {items : Array Value} (hL : h.IsList R items) (u : LU env R h h') {v : Value} {d : Dat} (D : DatH Ω h v d) (hd : noList d = true) : DatH Ω h' v d := by
 refine D.tsoft (fun b o its k e hc hdd => ?_) hd
 refine u.slots b o (lu_put e (fun q => ?_) fun hm => ?_) fun vs q => by rw [hdd] at q; injection q
 ·refine o_xaa hL fun o' ho' hc' _ => ?_
  clear hL
  rw [q, ho'] at e
  obtain rfl := si e
  rw [hc'] at hc
  exact absurd hc (by decide)
 ·rcases List.mem_cons.mp hm with q | q
  ·obtain ⟨⟨m, ⟨o', es, ep, ho', hd', _⟩, _⟩, _⟩ := F
   rw [← q, e] at ho'
   obtain rfl := si ho'
   rw [hdd] at hd'
   injection hd'
  ·refine o_xa (ownCells_mem q) fun y _ hy => ?_
   refine o_xxa (F.cells y b hy) fun c o' ho' hd' => ?_
   rw [e] at ho'
   obtain rfl := si ho'
   rw [hdd] at hd'
   injection hd'
end
end
section
open PySem PySem.W PySem.SeqAt
open PyProof.Rows (Subscript_)
variable {κ κ' : OG}
structure LawF (S : Fixed) (K : Frag) (mg mb : Str → Option Value) : Prop where
 all : ∃ mk mw mr, AllF S tabs faF fmF K 36 792 735 802 759 mg mb mk mw mr
 wound : ∃ fw ow wd, mg (Str.ofString "_law_wound") = some (.ref fw) ∧ S.B0.get? fw = some ow ∧ ow.data = .func wd ∧ HandFn S [reelS, manyS] woundT wd ∧ wd.scope.names.lookup (Str.ofString "found") = some .local
 one : ∃ fo oo od, mg (Str.ofString "_law_one") = some (.ref fo) ∧ S.B0.get? fo = some oo ∧ oo.data = .func od ∧ HandFn S [reelS, someS] oneT od ∧ od.scope.names.lookup (Str.ofString "_law_wound") = some .globalImplicit ∧ od.scope.names.lookup (Str.ofString "len") = some .globalImplicit
 sorts : ∃ fs os sd, mg (Str.ofString "_law_sorts") = some (.ref fs) ∧ S.B0.get? fs = some os ∧ os.data = .func sd ∧ sd.body = .stmts (toSs sortsFn.body ++ [.Return (some (.Dict ((toEs sortsA).map some) (toEs sortsB) (sortsP 8))) (sortsP 9)]) ∧ FnC S sortsFn sd ∧
  okSt sd.scope.names sortsFn.slots sortsFn.body = true ∧ okM sd.scope.names sortsFn.slots sortsB = true
theorem sortsRun_inv {p : Int} {vs : List Dat} (h : sortsRun p = some vs) : ∃ ρ ρ', bindD sortsFn [.int p] = some ρ ∧ runT tabs 40 (.sts sortsFn.body) ρ = some (.flow ρ' .next) ∧ runT tabs 40 (.exs sortsB) ρ' = some (.vals vs) := by
 unfold sortsRun at h
 induction h1 : bindD sortsFn [.int p] with
 | none => rw [h1] at h; exact nn h
 | some ρ =>
  rw [h1] at h
  dsimp only at h
  induction h2 : runT tabs 40 (.sts sortsFn.body) ρ with
  | none => rw [h2] at h; exact nn h
  | some o =>
   rw [h2] at h
   induction o with
   | flow ρ' fl =>
    induction fl with
    | next =>
     dsimp only at h
     induction h3 : runT tabs 40 (.exs sortsB) ρ' with
     | none => rw [h3] at h; exact nn h
     | some o =>
      rw [h3] at h
      induction o with
      | vals ds => obtain rfl := si h; exact ⟨ρ, ρ', rfl, h2, h3⟩
      | _ => exact nn h
    | ret d => exact nn h
   | _ => exact nn h
theorem sorts_keys (ρ : List Dat) : runT tabs 40 (.exs sortsA) ρ = some (.vals sortsKs) := by kernel_rfl
theorem sorts_disp : okDisp sortsA sortsB = true := by kernel_rfl
section
variable {S : Fixed} {K : Frag} {mg mb : Str → Option Value} {n : Nat} {A : Around} {env : Env} {xs : List Str} {ρ : List Dat} {R : Addr} {s : Shared} {E Q : Value → Shared → Prop}
theorem sorts_call (L : LawF S K mg mb) {fs : Addr} {os : Obj} {sd : FuncData} (s2 : S.B0.get? fs = some os) (s3 : os.data = .func sd) (s4 : sd.body = .stmts (toSs sortsFn.body ++ [.Return (some (.Dict ((toEs sortsA).map some) (toEs sortsB) (sortsP 8))) (sortsP 9)])) (s5 : FnC S sortsFn sd)
  (s6 : okSt sd.scope.names sortsFn.slots sortsFn.body = true) (s7 : okM sd.scope.names sortsFn.slots sortsB = true) (C : CondC S 41 A s.heap (og s)) {p : Int} {tk : Tok} {vs : List Dat} (hp : sortsRun p = some vs)
  (fin : ∀ T (us : List (Str × Value)) s', STab S.prog S.w s'.heap T (fun k => us.lookup k) → sortsKs = (us.map fun p => Dat.str (codeS p.1)) → (∀ p ∈ us, okS p.1) → DatsH S.Ω s'.heap (us.map (·.2)) vs → Keep S s.heap s'.heap (og s') → Q (.ref T) s') :
  codeAny S.M A (.call (.ref fs) ⟨[.int p tk], []⟩) (fun r s' => match r with | .ok (.ret v) => Q v s' | .ok _ => False | .error e => E e s') s := by
 refine o_xxx L.all fun mk mw mr F => ?_
 refine o_xxaa (sortsRun_inv hp) fun ρ ρ' h1 h2 h3 => ?_
 refine o_aaa (sound F 40) fun I J _ _ => ?_
 refine enter_cells (n := 40) F.G.lim s2 s3 s5 s4 (.cons (.int p tk) .nil) C h1 fun env s₁ l hsc hfr hf T => ?_
 refine execs_append _ _ env ((J 40 (Nat.le_refl _)).sts _ ρ _ h2 _ env _ s₁ _ _ _ _ (by rw [hsc]; exact s6) T fun fl s2 F1 F2 U1 S1 => ?_)
 cases F1
 have T2 := T.next F2 U1 S1
 refine wpAny_execs_cons (wpAny_Return_some (disp_at (t := tabs) I (sorts_keys ρ') h3 sorts_disp (by rw [hsc]; exact s7) T2.cond fun Tb us s3 z1 z2 z3 z4 K1 _ _ _ => ?_))
 exact fin Tb us s3 z1 z2 z3 z4 ⟨T2.up.trans K1.up, K1.stays⟩
theorem sorts_at (L : LawF S K mg mb) (C : Cond S n A env xs ρ s.heap (og s)) (hn : 41 ≤ n) (ok : okGlob env.scope.names (Str.ofString "_law_sorts") = true) {p : Int} (hp : sortsRun p = some (sortsVs p)) {j : Nat} {y : Str} (hx : xs[j]? = some y) {c : Nat} (hr : ρ[j]? = some (.str c)) (hl : env.kindOf y = some .local)
  (hd1 : (y == ("__debug__" : Str)) = false) (hd2 : (y == ("__classdict__" : Str)) = false) {d : Dat} (hlook : dictGet (.str c) sortsKs (sortsVs p) = some (some d)) {np cp pp yp sp : Pos} (nxt : ∀ v s', DatH S.Ω s'.heap v d → Keep S s.heap s'.heap (og s') → Q v s') :
  wpAny S.M A (eval (.Subscript (.Call (.Name (Str.ofString "_law_sorts") np) [.Constant (.int p) 0 cp] [] pp) (.Name y yp) sp) env) Q E s := by
 refine o_xxx L.all fun mk mw mr F => ?_
 refine o_xxxaaaaaa L.sorts fun fs os sd s1 s2 s3 s4 s5 s6 s7 => ?_
 refine Subscript_ (wpAny_Call_ofName (name_top F.G C ok s1 (Calls.callWith_function (o := os) (fd := sd) (Calls.evalArgs_plain (Calls.spliced_cons (wpAny_Constant_int (k := 0) (pos := cp) (Calls.spliced_nil ⟨⟨C.stays.base _ _ s2, s3⟩, wpAny_call ?_⟩)))))))
 refine sorts_call (s := { s with toks := s.toks + 1 }) L s2 s3 s4 s5 s6 s7 (C.less hn).call hp fun T us s' z1 z2 z3 z4 K1 => ?_
 refine wp_load (C.keep K1).frm hx hr (by intro q; injection q) C.kind (.inl hl) hd1 hd2 fun v Dv => ?_
 refine o_xxaa (datStr Dv) fun x tx q2' q3' ox => ?_
 subst q2'
 subst q3'
 rw [z2] at hlook
 refine o_xa (look_sound ox us _ z3 z4 hlook) fun u hu Du => ?_
 exact sub_tail z1.typeIs slot_dict_getitem.lookup (stab_getItem z1 hu (nxt u _ Du K1))
theorem draw_at (L : LawF S K mg mb) (hΩ : S.Ω 2 = .ref R) (hB : S.B0.get? R = none) {i : Nat} (X : LawAt S R n A env xs ρ s) (hg : goodR ρ = true) (hx : xs[i]? = some reelS) (hr : ρ[i]? = some (.obj 2)) (hlr : env.kindOf reelS = some .local) (ok : okGlob env.scope.names (Str.ofString "_law_one") = true)
  {e2 : Expr} (hst : starEach [e2] env = [(false, eval e2 env)]) {ds : List Dat} (hds : ds.all goodD = true) (h0 : 0 < ds.length) (h1 : ds.length < 4096) {np rp pp : Pos}
  (ev : ∀ R' : Value → Shared → Prop, (∀ v s', DatH S.Ω s'.heap v (.list ds) → Keep S s.heap s'.heap (og s') → R' v s') → wpAny S.M A (eval e2 env) R' E s)
  (nxt : ∀ d r s', d ∈ ds → DatH S.Ω s'.heap r d → LawAt S R n A env xs ρ s' → LU env R s.heap s'.heap → Q r s') :
  wpAny S.M A (eval (.Call (.Name (Str.ofString "_law_one") np) [.Name reelS rp, e2] [] pp) env) Q E s := by
 refine o_xxx L.all fun mk mw mr F => ?_
 refine o_xxxaaaa L.wound fun fw ow wd w1 w2 w3 w4 w5 => ?_
 refine o_xxxaaaaa L.one fun fo oo od o1 o2 o3 o4 o5 o6 => ?_
 have hs : starEach [.Name reelS rp, e2] env = [(false, eval (.Name reelS rp) env), (false, eval e2 env)] := by show (false, _) :: starEach [e2] env = _; rw [hst]
 refine wpAny_Call_ofName (name_top F.G X.at_.cond ok o1 (Calls.callWith_function (o := oo) (fd := od) ?_))
 rw [hs]
 refine Calls.evalArgs_plain (Calls.spliced_cons (wp_load X.at_.cond.frm hx hr (by intro q; injection q) X.at_.cond.kind (.inl hlr) (by decide) (by decide) fun v Dv => ?_))
 have hv : v = .ref R := Dv.io.trans hΩ
 subst hv
 refine Calls.spliced_cons (ev _ fun v2 s1 D2 K1 => Calls.spliced_nil ⟨⟨K1.stays.base _ _ o2, o3⟩, wpAny_call ?_⟩)
 have X1 := X.keep K1
 obtain ⟨items, hLR⟩ := X1.reel.lst
 have room := X.at_.cond.room
 refine one_call F.G.lim F.G.g F.G.b (F.B.bi .len).1 (F.B.bi .len).2 w1 w2 w3 w4 w5 o2 o3 o4 o5 o6 X1.at_.fr X1.at_.frames (fun e he q => ?_) X1.at_.cond.stays hB X1.reel (by lia) D2 hds h0 h1 fun d r s2 hd Dr Rl2 u2 st2 => ?_
 ·rw [List.mem_singleton.mp he, X1.at_.ent.hf] at q
  exact (reel_own X1.at_.cond.frm hLR).1 (Option.some.inj q).symm
 ·exact nxt d r s2 hd Dr (X1.over hg u2 st2 Rl2) ((LU.of_up K1.up).trans (LU.of_hide u2))
end
end
section
open PySem PySem.W PySem.SeqAt
open PyProof.Rows (Tuple_)
noncomputable def turnP (i : Nat) : Pos := posAt [732, 8, 732, 12, 732, 15, 732, 23, 732, 24, 732, 28, 732, 31, 732, 39, 732, 41, 732, 48, 732, 50, 732, 56, 732, 58, 732, 63, 732, 65, 732, 73, 732, 75, 732, 82, 732, 30, 732, 83, 732, 15, 732, 84, 732, 8, 732, 84, 733, 8, 733, 18, 733, 21, 733, 29, 733, 30, 733, 34, 733, 37, 733, 41, 733, 43, 733, 47, 733, 49, 733, 53, 733, 55, 733, 59, 733, 61, 733, 69, 733, 71, 733, 77, 733, 36, 733, 78, 733, 21, 733, 79, 733, 8, 733, 79, 734, 8, 734, 12, 734, 14, 734, 19, 734, 8, 734, 19, 734, 23, 734, 31, 734, 32, 734, 36, 734, 38, 734, 48, 734, 49, 734, 50, 734, 38, 734, 51, 734, 52, 734, 56, 734, 38, 734, 57, 734, 23, 734, 58, 734, 60, 734, 68, 734, 69, 734, 73, 734, 75, 734, 85, 734, 86, 734, 87, 734, 75, 734, 88, 734, 89, 734, 99, 734, 75, 734, 100, 734, 60, 734, 101, 734, 22, 734, 102, 734, 8, 734, 102, 735, 8, 735, 10, 735, 13, 735, 21, 735, 22, 735, 26, 735, 29, 735, 33, 735, 35, 735, 39, 735, 41, 735, 44, 735, 46, 735, 50, 735, 52, 735, 55, 735, 57, 735, 60, 735, 62, 735, 65, 735, 67, 735, 70, 735, 72, 735, 76, 735, 78, 735, 82, 735, 84, 735, 88, 735, 28, 735, 89, 735, 13, 735, 90, 735, 8, 735, 90] i
noncomputable def litM (i : Nat) (x : String) : M := .lit (.str (Str.ofString x)) 0 (turnP i)
noncomputable def sortV (i : Nat) : M := .var 6 (Str.ofString "sort") (turnP i)
@[irreducible] def mSort : M := .u (.lst (turnP 9)) (consM [litM 3 "number", litM 4 "truth", litM 5 "text", litM 6 "ptr", litM 7 "number", litM 8 "truth"])
@[irreducible] def mOther : M := .u (.lst (turnP 21)) (consM [sortV 15, sortV 16, sortV 17, sortV 18, litM 19 "number", litM 20 "text"])
@[irreducible] def mOps : M := .u (.lst (turnP 59)) (consM [litM 48 "==", litM 49 "!=", litM 50 "<", litM 51 ">=", litM 52 "+", litM 53 "-", litM 54 "/", litM 55 "%", litM 56 "&^", litM 57 "&&", litM 58 "||"])
noncomputable def oneE (i j k : Nat) (e : Expr) : Expr := .Call (.Name (Str.ofString "_law_one") (turnP i)) [.Name reelS (turnP j), e] [] (turnP k)
noncomputable def pickE (p : Int) (a b c : Nat) (y : Str) (d e : Nat) : Expr := .Subscript (.Call (.Name (Str.ofString "_law_sorts") (turnP a)) [.Constant (.int p) 0 (turnP b)] [] (turnP c)) (.Name y (turnP d)) (turnP e)
noncomputable def pairA : M := .cons (.var 10 (Str.ofString "left") (turnP 24)) (.cons (.var 12 (Str.ofString "right") (turnP 25)) .nil)
noncomputable def pairE : List Expr := [oneE 27 28 34 (pickE 1 29 30 31 (Str.ofString "sort") 32 33), oneE 35 36 42 (pickE 2 37 38 39 (Str.ofString "other_sort") 40 41)]
noncomputable def stSort : Stmt := .Assign [.Name (Str.ofString "sort") (turnP 0)] (oneE 1 2 10 (toE mSort)) (turnP 11)
noncomputable def stOther : Stmt := .Assign [.Name (Str.ofString "other_sort") (turnP 12)] (oneE 13 14 22 (toE mOther)) (turnP 23)
noncomputable def stPair : Stmt := .Assign [.Tuple (toEs pairA) 0 (turnP 26)] (.Tuple pairE 0 (turnP 43)) (turnP 44)
noncomputable def stOp : Stmt := .Assign [.Name (Str.ofString "op") (turnP 45)] (oneE 46 47 60 (toE mOps)) (turnP 61)
theorem star_sort (env : Env) : starEach [toE mSort] env = [(false, eval (toE mSort) env)] := by kernel_rfl
theorem star_other (env : Env) : starEach [toE mOther] env = [(false, eval (toE mOther) env)] := by kernel_rfl
theorem star_ops (env : Env) : starEach [toE mOps] env = [(false, eval (toE mOps) env)] := by kernel_rfl
theorem turn_eq : turnBody = [stSort, stOther, stPair, stOp] ++ toSs region := by kernel_rfl
noncomputable def lawSc : Sc := namesOf (stAt 114)
noncomputable def lawV (a b l r op : Dat) : List Dat := [.hole, T2 "untyped" "bool", T1 "bool", .hole, .obj 2, .hole, a, b, .hole, .obj 0, l, op, r]
theorem law_names : lawNames = ["script", "truth", "plain", "due", "reel", "turn", "sort", "other_sort", "told", "checker", "left", "op", "right"].map Str.ofString := by kernel_rfl
noncomputable def sorts6 : List Dat := [S "number", S "truth", S "text", S "ptr", S "number", S "truth"]
noncomputable def sorts6' (a : Dat) : List Dat := [a, a, a, a, S "number", S "text"]
section
variable {S : Fixed} {K : Frag} {mg mb : Str → Option Value} {n : Nat} {A : Around} {env : Env} {xs : List Str} {ρ : List Dat} {R : Addr} {s : Shared} {E : Value → Shared → Prop}
theorem law_store (X : LawAt S R n A env xs ρ s) {i : Nat} {x : Str} (hx : xs[i]? = some x) (hl : env.kindOf x = some .local ∨ env.kindOf x = some .cell) {v : Value} {d : Dat} (D : DatH S.Ω s.heap v d) {Q : Unit → Shared → Prop}
  (h : ∀ s', LawAt S R n A env xs (putN d i ρ) s' → LU env R s.heap s'.heap → Q () s') : wpAny S.M A (storeName env x v) Q E s :=
 wp_store X.at_.cond.frm X.at_.nd hx X.at_.cond.kind hl D fun h' tk F O => h { s with heap := h', toks := tk } (X.step F (up_bare_own O) (own_stays X.at_.ent X.at_.cond.frm X.at_.cond.stays O)) (LU.of_bare (up_bare_own O))
theorem draw_stmt (L : LawF S K mg mb) (hΩ : S.Ω 2 = .ref R) (hB : S.B0.get? R = none) {i : Nat} (X : LawAt S R n A env xs ρ s) (hg : goodR ρ = true) (hx : xs[i]? = some reelS) (hr : ρ[i]? = some (.obj 2)) (hlr : env.kindOf reelS = some .local) (ok : okGlob env.scope.names (Str.ofString "_law_one") = true)
  {e2 : Expr} (hst : starEach [e2] env = [(false, eval e2 env)]) {ds : List Dat} (hds : ds.all goodD = true) (h0 : 0 < ds.length) (h1 : ds.length < 4096) {a b c : Nat} {xp p : Pos}
  (ev : ∀ R' : Value → Shared → Prop, (∀ v s', DatH S.Ω s'.heap v (.list ds) → Keep S s.heap s'.heap (og s') → R' v s') → wpAny S.M A (eval e2 env) R' E s)
  {j : Nat} {x : Str} (hj : xs[j]? = some x) (hl : env.kindOf x = some .local ∨ env.kindOf x = some .cell) {Q : Flow → Shared → Prop}
  (nxt : ∀ d s', d ∈ ds → LawAt S R n A env xs (putN d j ρ) s' → LU env R s.heap s'.heap → Q .next s') :
  wpAny S.M A (exec (.Assign [.Name x xp] (oneE a b c e2) p) env) Q E s :=
 wpAny_Assign_Name (hs := rfl) (draw_at L hΩ hB X hg hx hr hlr ok hst hds h0 h1 ev fun d r s1 hd Dr X1 u1 => law_store X1 hj hl Dr fun s2 X2 u2 => nxt d s2 hd X2 (u1.trans u2))
theorem ex_list (L : LawF S K mg mb) (C : Cond S n A env xs ρ s.heap (og s)) (hn : 40 ≤ n) {m : M} {d : Dat} (h : runT tabs 40 (.ex m) ρ = some (.val d)) (ok : okM env.scope.names xs m = true) {R' : Value → Shared → Prop}
  (q : ∀ v s', DatH S.Ω s'.heap v d → Keep S s.heap s'.heap (og s') → R' v s') : wpAny S.M A (eval (toE m) env) R' E s := by
 refine o_xxx L.all fun mk mw mr F => ?_
 exact ((sound F 40).1 40 (Nat.le_refl _)).ex m ρ _ h A env xs s R' E ok (C.less hn) q
end
end
section
open PySem PySem.W PySem.SeqAt
open PyProof.Rows (Tuple_ Assign_Tuple)
section
variable {S : Fixed} {K : Frag} {mg mb : Str → Option Value} {n : Nat} {A : Around} {env : Env} {ρ : List Dat} {R : Addr} {s : Shared} {E : Value → Shared → Prop}
theorem law_kind (hsc : env.scope.names = lawSc) {x : Str} {k : NameKind} (h : lawSc.lookup x = some k) : env.kindOf x = some k := by show env.scope.names.lookup x = _; rw [hsc]; exact h
theorem law_glob (hsc : env.scope.names = lawSc) {x : Str} (h : okGlob lawSc x = true) : okGlob env.scope.names x = true := by rw [hsc]; exact h
theorem good_no {l : List Dat} (h : l.all goodD = true) {d : Dat} (hd : d ∈ l) : noList d = true := (ba (List.all_eq_true.mp h d hd)).1
theorem law_pair (L : LawF S K mg mb) (hΩ : S.Ω 2 = .ref R) (hB : S.B0.get? R = none) (hsc : env.scope.names = lawSc) (X : LawAt S R n A env lawNames ρ s) (hn : 41 ≤ n) (hg : goodR ρ = true) {ca cb : Nat} (h4 : ρ[4]? = some (.obj 2)) (h6 : ρ[6]? = some (.str ca)) (h7 : ρ[7]? = some (.str cb))
  {l1 l2 : List Dat} (k1 : dictGet (.str ca) sortsKs (sortsVs 1) = some (some (.list l1))) (k2 : dictGet (.str cb) sortsKs (sortsVs 2) = some (some (.list l2))) (g1 : l1.all goodD = true) (g2 : l2.all goodD = true) (z1 : 0 < l1.length ∧ l1.length < 4096) (z2 : 0 < l2.length ∧ l2.length < 4096) {Q : Flow → Shared → Prop}
  (fin : ∀ dl dr s', dl ∈ l1 → dr ∈ l2 → LawAt S R n A env lawNames (putN dr 12 (putN dl 10 ρ)) s' → LU env R s.heap s'.heap → Q .next s') : wpAny S.M A (exec stPair env) Q E s := by
 have lr : env.kindOf reelS = some .local := law_kind hsc (by kernel_rfl)
 have g0 : okGlob env.scope.names (Str.ofString "_law_one") = true := law_glob hsc (by kernel_rfl)
 have gs : okGlob env.scope.names (Str.ofString "_law_sorts") = true := law_glob hsc (by kernel_rfl)
 have hx4 : lawNames[4]? = some reelS := by rw [law_names]; rfl
 refine unp_plain (a := pairA) (n := n) (xs := lawNames) (outer := []) rfl (swap_none (by rw [hsc]; kernel_rfl)) (by rw [hsc]; kernel_rfl) ?_
 refine Tuple_ (Calls.spliced_cons (draw_at L hΩ hB X hg hx4 h4 lr g0 rfl g1 z1.1 z1.2 (fun R' q => sorts_at L X.at_.cond hn gs sorts_run1 (j := 6) (by rw [law_names]; rfl) h6 (law_kind hsc (by kernel_rfl)) (by decide) (by decide) k1 q) fun dl vl s1 hdl Dl X1 u1 => ?_))
 refine Calls.spliced_cons (draw_at L hΩ hB X1 hg hx4 h4 lr g0 rfl g2 z2.1 z2.2 (fun R' q => sorts_at L X1.at_.cond hn gs sorts_run2 (j := 7) (by rw [law_names]; rfl) h7 (law_kind hsc (by kernel_rfl)) (by decide) (by decide) k2 q) fun dr vr s2 hdr Dr X2 u2 => Calls.spliced_nil ?_)
 obtain ⟨items, hLR⟩ := X1.reel.lst
 have Dl2 := LU.dat X1.at_.cond.frm hLR u2 Dl (good_no g1 hdl)
 have kp := All.push s2.heap { cls := .type "tuple", data := .seq [vl, vr].toArray }
 refine wpAny_newTuple ?_ (hsz := by show (2 : Nat) ≤ 2 ^ 24; (simp_all +arith))
 have X3 : LawAt S R n A env lawNames ρ { s2 with heap := s2.heap.push { cls := .type "tuple", data := .seq [vl, vr].toArray } } := X2.keep (X2.at_.cond.all kp)
 refine ⟨S, ρ, [dl, dr], _, [vl, vr], bare env (s2.heap.push { cls := .type "tuple", data := .seq [vl, vr].toArray }), rfl, rfl, rfl, push_tuple rfl rfl, (.cons (Dl2.up (Up.of_all kp)) (.cons (Dr.up (Up.of_all kp)) .nil)), rfl, X3.at_.bare, fun s' T3 => ?_⟩
 exact fin dl dr s' hdl hdr (X3.step T3.cond.frm T3.up T3.cond.stays) (((u1.trans u2).trans (LU.of_up (Up.of_all kp))).trans (LU.of_bare T3.up))
end
end
section
set_option backward.match.sparseCases false
open PySem PySem.W PySem.SeqAt
noncomputable def sameStrs : List Dat → List Dat → Bool
 | [], b => b.isEmpty
 | x :: r, b => match b with
  | [] => false
  | y :: t => match x with
   | .str c => match y with
    | .str d => Nat.beq c d && sameStrs r t
    | _ => false
   | _ => false
noncomputable def sameD (a b : Dat) : Bool := match a with
 | .obj i => match b with
  | .obj j => Nat.beq i j
  | _ => false
 | .tup l => match b with
  | .tup l' => sameStrs l l'
  | _ => false
 | _ => false
theorem sameStrs_eq : ∀ {a b : List Dat}, sameStrs a b = true → a = b
 | [], b, h => (List.isEmpty_iff.mp h).symm
 | x :: r, [], h => by exact ft h
 | x :: r, y :: t, h => by
  induction x using Dat.casesOn with
  | str c => induction y using Dat.casesOn with
   | str d =>
    refine b_Lnn (show (Nat.beq c d && sameStrs r t) = true from h) fun h1 h2 => ?_
    rw [Nat.eq_of_beq_eq_true h1, sameStrs_eq h2]
   | _ => exact ft h
  | _ => exact ft h
theorem sameD_eq {a b : Dat} (h : sameD a b = true) : a = b ∧ a ≠ .hole := by
 induction a using Dat.casesOn with
 | obj i => induction b using Dat.casesOn with
  | obj j => exact ⟨by rw [Nat.eq_of_beq_eq_true (show Nat.beq i j = true from h)], fun q => by cases q⟩
  | _ => exact ft h
 | tup l => induction b using Dat.casesOn with
  | tup l' => exact ⟨by rw [sameStrs_eq (show sameStrs l l' = true from h)], fun q => by cases q⟩
  | _ => exact ft h
 | _ => exact ft h
noncomputable def keepB (ρ : List Dat) : Bool := sameD (nth ρ 1) (T2 "untyped" "bool") && sameD (nth ρ 2) (T1 "bool") && sameD (nth ρ 4) (.obj 2) && sameD (nth ρ 9) (.obj 0)
noncomputable def turnOk (n : Nat) (a b l r op : Dat) : Bool := match runT tabs n (.sts region) (lawV a b l r op) with
 | some o => match o with
  | .flow ρ' f => match f with
   | .next => keepB ρ'
   | _ => false
  | _ => false
 | none => false
theorem turnOk_inv {n : Nat} {a b l r op : Dat} (h : turnOk n a b l r op = true) : ∃ ρ', runT tabs n (.sts region) (lawV a b l r op) = some (.flow ρ' .next) ∧ keepB ρ' = true := by
 unfold turnOk at h
 induction h1 : runT tabs n (.sts region) (lawV a b l r op) with
 | none => rw [h1] at h; exact ft h
 | some o =>
  rw [h1] at h
  induction o with
  | flow ρ' f => induction f with
   | next => exact ⟨ρ', rfl, h⟩
   | ret d => exact ft h
  | _ => exact ft h
noncomputable def lawL : List Dat := lawV .hole .hole .hole .hole .hole
theorem lawL_get {ρ : List Dat} (h : keepB ρ = true) : ∀ (i : Nat) (d : Dat), lawL[i]? = some d → d = .hole ∨ ρ[i]? = some d := by
 unfold keepB at h
 refine b_LLLnnnn h fun h1 h2 h3 h4 => ?_
 clear h
 have key : ∀ {i : Nat} {t : Dat}, sameD (nth ρ i) t = true → ρ[i]? = some t := fun {i t} e => by
  obtain ⟨e1, e2⟩ := sameD_eq e
  rw [← e1]
  exact nth_get e2
 intro i d e
 match i, e with
 | 0, e => exact .inl (Option.some.inj e).symm
 | 1, e => rw [← Option.some.inj e]; exact .inr (key h1)
 | 2, e => rw [← Option.some.inj e]; exact .inr (key h2)
 | 3, e => exact .inl (Option.some.inj e).symm
 | 4, e => rw [← Option.some.inj e]; exact .inr (key h3)
 | 5, e => exact .inl (Option.some.inj e).symm
 | 6, e => exact .inl (Option.some.inj e).symm
 | 7, e => exact .inl (Option.some.inj e).symm
 | 8, e => exact .inl (Option.some.inj e).symm
 | 9, e => rw [← Option.some.inj e]; exact .inr (key h4)
 | 10, e => exact .inl (Option.some.inj e).symm
 | 11, e => exact .inl (Option.some.inj e).symm
 | 12, e => exact .inl (Option.some.inj e).symm
 | i + 13, e => exact nn e
section
variable {S : Fixed} {K : Frag} {mg mb : Str → Option Value} {n : Nat} {A : Around} {env : Env} {xs : List Str} {ρ ρ' : List Dat} {R : Addr} {s : Shared} {E : Value → Shared → Prop}
theorem Frm.weak {Ω : Nat → Value} {h : Heap} (F : Frm Ω env xs ρ h) (hl : ρ'.length = xs.length) (w : ∀ (i : Nat) (d : Dat), ρ'[i]? = some d → d = .hole ∨ ρ[i]? = some d) : Frm Ω env xs ρ' h := by
 refine via fun Gv kv => ?_
 obtain ⟨⟨m, hn, hv⟩, hc, hh, h1, _⟩ := F
 refine kv ?_
 clear kv Gv
 refine ⟨⟨m, hn, fun i x d hx hd => ?_⟩, hc, hh, h1, hl⟩
 rcases w i d hd with e | e
 ·exact .inl e
 ·exact hv i x d hx e
theorem LawAt.weak (X : LawAt S R n A env xs ρ s) (hl : ρ'.length = xs.length) (w : ∀ (i : Nat) (d : Dat), ρ'[i]? = some d → d = .hole ∨ ρ[i]? = some d) : LawAt S R n A env xs ρ' s :=
 ⟨X.at_.next (X.at_.cond.frm.weak hl w) X.at_.up X.at_.cond.stays, X.reel⟩
theorem law_len : lawL.length = lawNames.length := by rw [law_names]; rfl
theorem law_region (L : LawF S K mg mb) (hsc : env.scope.names = lawSc) {a b l r op : Dat} (h : turnOk 90 a b l r op = true) (X : LawAt S R 95 A env lawNames (lawV a b l r op) s) {Q : Flow → Shared → Prop}
  (fin : ∀ s', LawAt S R 95 A env lawNames lawL s' → LU env R s.heap s'.heap → Q .next s') : wpAny S.M A (execs (toSs region) env) Q E s := by
 refine o_xxx L.all fun mk mw mr F => ?_
 refine o_xa (turnOk_inv h) fun ρ' hrun hk => ?_
 refine ((sound F 90).2.1 90 (Nat.le_refl _)).sts region _ _ hrun A env lawNames s (bare env s.heap) [] Q E (by rw [hsc]; kernel_rfl) (X.less (by decide)).at_.bare fun fl s' F1 F2 U S1 => ?_
 cases F1
 exact fin s' ((X.step F2 U S1).weak law_len (lawL_get hk)) (LU.of_bare U)
end
end
section
set_option backward.match.sparseCases false
open PySem PySem.W PySem.SeqAt
noncomputable def lstOf (p : Int) (a : Dat) : List Dat := match dictGet a sortsKs (sortsVs p) with
 | some (some (.list l)) => l
 | _ => []
noncomputable def AllOk : Prop := ∀ a ∈ sorts6, ∀ b ∈ sorts6' a, ∀ l ∈ lstOf 1 a, ∀ r ∈ lstOf 2 b, ∀ op ∈ opsD, turnOk 90 a b l r op = true
structure SortOk (a : Dat) : Prop where
 str : ∃ c, a = .str c
 get : ∀ p, p = 1 ∨ p = 2 → dictGet a sortsKs (sortsVs p) = some (some (.list (lstOf p a))) ∧ (lstOf p a).all goodD = true ∧ 0 < (lstOf p a).length ∧ (lstOf p a).length < 4096
theorem sort_ok : ∀ a ∈ sortsKs, SortOk a := by
 intro a ha
 rcases List.mem_cons.mp ha with rfl | ha
 ·exact ⟨⟨_, rfl⟩, fun p hp => by rcases hp with rfl | rfl <;> exact ⟨by kernel_rfl, by kernel_rfl, by decide +kernel, by decide +kernel⟩⟩
 rcases List.mem_cons.mp ha with rfl | ha
 ·exact ⟨⟨_, rfl⟩, fun p hp => by rcases hp with rfl | rfl <;> exact ⟨by kernel_rfl, by kernel_rfl, by decide +kernel, by decide +kernel⟩⟩
 rcases List.mem_cons.mp ha with rfl | ha
 ·exact ⟨⟨_, rfl⟩, fun p hp => by rcases hp with rfl | rfl <;> exact ⟨by kernel_rfl, by kernel_rfl, by decide +kernel, by decide +kernel⟩⟩
 rcases List.mem_cons.mp ha with rfl | ha
 ·exact ⟨⟨_, rfl⟩, fun p hp => by rcases hp with rfl | rfl <;> exact ⟨by kernel_rfl, by kernel_rfl, by decide +kernel, by decide +kernel⟩⟩
 ·cases ha
theorem sorts6_mem {a : Dat} (h : a ∈ sorts6) : a ∈ sortsKs := by
 simp only [sorts6, List.mem_cons, List.not_mem_nil, or_false] at h
 simp only [sortsKs, List.mem_cons, List.not_mem_nil, or_false]
 rcases h with h | h | h | h | h | h <;> simp [h]
theorem sorts6'_mem {a b : Dat} (ha : a ∈ sortsKs) (h : b ∈ sorts6' a) : b ∈ sortsKs := by
 simp only [sorts6', List.mem_cons, List.not_mem_nil, or_false] at h
 rcases h with h | h | h | h | h | h
 ·rw [h]; exact ha
 ·rw [h]; exact ha
 ·rw [h]; exact ha
 ·rw [h]; exact ha
 ·rw [h]; simp [sortsKs]
 ·rw [h]; simp [sortsKs]
theorem good_turn {ca cb : Nat} {l r : Dat} (h1 : noList l = true) (h2 : noList r = true) : goodR (lawV (.str ca) (.str cb) l r .hole) = true := by
 show (true && (true && (true && (true && (true && (true && (true && (true && (true && (true && ((isHole l || noList l) && (true && ((isHole r || noList r) && true))))))))))))) = true
 rw [h1, h2]
 simp
section
variable {S : Fixed} {K : Frag} {mg mb : Str → Option Value} {A : Around} {env : Env} {R : Addr} {s : Shared} {E : Value → Shared → Prop}
theorem ex_sort (ρ : List Dat) : runT tabs 40 (.ex mSort) ρ = some (.val (.list sorts6)) := by kernel_rfl
theorem ex_other (c : Nat) : runT tabs 40 (.ex mOther) (putN (.str c) 6 lawL) = some (.val (.list (sorts6' (.str c)))) := by kernel_rfl
theorem ex_ops (ρ : List Dat) : runT tabs 40 (.ex mOps) ρ = some (.val (.list opsD)) := by kernel_rfl
theorem ok_sort : okM lawSc lawNames mSort = true := by kernel_rfl
theorem ok_other : okM lawSc lawNames mOther = true := by kernel_rfl
theorem ok_ops : okM lawSc lawNames mOps = true := by kernel_rfl
theorem law_turn (L : LawF S K mg mb) (hΩ : S.Ω 2 = .ref R) (hB : S.B0.get? R = none) (hsc : env.scope.names = lawSc) (all : AllOk) (X : LawAt S R 95 A env lawNames lawL s) {Q : Flow → Shared → Prop}
  (fin : ∀ s', LawAt S R 95 A env lawNames lawL s' → LU env R s.heap s'.heap → Q .next s') : wpAny S.M A (execs turnBody env) Q E s := by
 have lr : env.kindOf reelS = some .local := law_kind hsc (by kernel_rfl)
 have g0 : okGlob env.scope.names (Str.ofString "_law_one") = true := law_glob hsc (by kernel_rfl)
 have hx4 : lawNames[4]? = some reelS := by rw [law_names]; rfl
 rw [turn_eq]
 refine wpAny_execs_cons (draw_stmt L hΩ hB X rfl hx4 rfl lr g0 (star_sort env) (ds := sorts6) rfl (by decide) (by decide) (fun R' q => ex_list L X.at_.cond (by decide) (m := mSort) (ex_sort _) (by rw [hsc]; exact ok_sort) q) (j := 6) (by rw [law_names]; rfl) (.inl (law_kind hsc (by kernel_rfl))) fun a s1 ha X1 u1 => ?_)
 have ka := sort_ok a (sorts6_mem ha)
 obtain ⟨ca, rfl⟩ := ka.str
 refine wpAny_execs_cons (draw_stmt L hΩ hB X1 rfl hx4 rfl lr g0 (star_other env) (ds := sorts6' (.str ca)) rfl (by simp [sorts6']) (by simp [sorts6']) (fun R' q => ex_list L X1.at_.cond (by decide) (m := mOther) (ex_other ca) (by rw [hsc]; exact ok_other) q) (j := 7) (by rw [law_names]; rfl) (.inl (law_kind hsc (by kernel_rfl))) fun b s2 hb X2 u2 => ?_)
 have kb := sort_ok b (sorts6'_mem (sorts6_mem ha) hb)
 obtain ⟨cb, rfl⟩ := kb.str
 refine o_aa (ka.get 1 (.inl rfl)) fun a1 a2 a3 => ?_
 refine o_aa (kb.get 2 (.inr rfl)) fun b1 b2 b3 => ?_
 refine wpAny_execs_cons (law_pair L hΩ hB hsc X2 (by decide) rfl rfl rfl rfl a1 b1 a2 b2 a3 b3 fun dl dr s3 hdl hdr X3 u3 => ?_)
 have X3' : LawAt S R 95 A env lawNames (lawV (.str ca) (.str cb) dl dr .hole) s3 := X3
 refine wpAny_execs_cons (draw_stmt L hΩ hB X3' (good_turn (good_no a2 hdl) (good_no b2 hdr)) hx4 rfl lr g0 (star_ops env) (ds := opsD) (by kernel_rfl) (by decide) (by decide) (fun R' q => ex_list L X3'.at_.cond (by decide) (m := mOps) (ex_ops _) (by rw [hsc]; exact ok_ops) q) (j := 11) (by rw [law_names]; rfl) (.inr (law_kind hsc (by kernel_rfl))) fun op s4 hop X4 u4 => ?_)
 have X4' : LawAt S R 95 A env lawNames (lawV (.str ca) (.str cb) dl dr op) s4 := X4
 exact law_region L hsc (all _ ha _ hb dl hdl dr hdr op hop) X4' fun s5 X5 u5 => fin s5 X5 ((((u1.trans u2).trans u3).trans u4).trans u5)
end
end
section
open PySem PySem.W PySem.SeqAt
section
variable {S : Fixed} {K : Frag} {mg mb : Str → Option Value} {n : Nat} {A : Around} {env : Env} {xs : List Str} {ρ : List Dat} {R : Addr} {s : Shared} {E : Value → Shared → Prop}
theorem LU.skip {h h' h'' : Heap} {it : Addr} (u : LU env R h h') (hn : h.get? it = none) (k : ∀ b o, b ≠ it → h'.get? b = some o → h''.get? b = some o) : LU env R h h'' := by
 have ne : ∀ b o, ((bare env h).hide R).get? b = some o → b ≠ it := fun b o e q => by
  have := (lu_get e).1
  rw [q, hn] at this
  cases this
 exact ⟨fun b o e hl => let ⟨sl, q⟩ := u.slots b o e hl; ⟨sl, k b _ (ne b o e) q⟩, fun b o e hi => k b o (ne b o e) (u.iters b o e hi)⟩
theorem law_loop (L : LawF S K mg mb) (hΩ : S.Ω 2 = .ref R) (hB : S.B0.get? R = none) (hsc : env.scope.names = lawSc) (all : AllOk) (X : LawAt S R 95 A env lawNames lawL s) {Q : Flow → Shared → Prop} {xp rp cp np p : Pos}
  (fin : ∀ s', LawAt S R 95 A env lawNames lawL s' → LU env R s.heap s'.heap → Q .next s') : wpAny S.M A (exec (.For (.Name (Str.ofString "turn") xp) (.Call (.Name (Str.ofString "range") rp) [.Constant (.int 3) 0 cp] [] np) turnBody [] p) env) Q E s := by
 refine o_xxx L.all fun mk mw mr F => ?_
 have T := X.at_
 refine wpAny_For (hs := fun _ => rfl) (wpAny_Call_ofName (name_builtin F.G T.cond (law_glob hsc (by kernel_rfl)) F.rng.1 F.rng.2 (callWith_excType rfl ?_)))
 refine Calls.evalArgs_plain (Calls.spliced_cons (wpAny_Constant_int (k := 0) (pos := cp) (Calls.spliced_nil ?_)))
 refine call_range_1 ?_
 let s₁ : Shared := { s with heap := s.heap.push { cls := .type "range", data := .fields #[.int 0 (s.toks + 1), .int 3 s.toks, .int 1 (s.toks + 1 + 1)] }, toks := s.toks + 1 + 1 + 1 }
 show wpAny S.M A (pyIter (.ref s.heap.objs.size)) _ E s₁
 have hrange : Builtin.Range.rangeSize 0 3 1 = (3 : Int) := by rw [rangeSize_one]; rfl
 refine wpAny_pyIter_range (s := s₁) (IsRange.new _ _ _ _ _ _ _) (small_one (by decide) (by decide) (by decide) (by decide)) ?_
 rw [hrange]
 have k1 : All s.heap s₁.heap := All.push _ _
 have kp := All.push s₁.heap { cls := .type "range_iterator", data := .fields #[rawInt 0, rawInt 3, rawInt 1] }
 have k2 : All s.heap (s₁.heap.push { cls := .type "range_iterator", data := .fields #[rawInt 0, rawInt 3, rawInt 1] }) := fun b o e => kp _ _ (k1 _ _ e)
 have X2 : LawAt S R 95 A env lawNames lawL { s₁ with heap := s₁.heap.push { cls := .type "range_iterator", data := .fields #[rawInt 0, rawInt 3, rawInt 1] } } := X.keep (s' := { s₁ with heap := s₁.heap.push { cls := .type "range_iterator", data := .fields #[rawInt 0, rawInt 3, rawInt 1] } }) (X.at_.cond.all k2)
 have itN : s.heap.get? s₁.heap.objs.size = none := by
  induction q : s.heap.get? s₁.heap.objs.size with
  | none => rfl
  | some o => exact absurd (Heap.lt_size (k1 _ _ q)) (Nat.lt_irrefl _)
 have itB : S.B0.get? s₁.heap.objs.size = none := by
  induction q : S.B0.get? s₁.heap.objs.size with
  | none => rfl
  | some o => have := T.cond.stays.base _ _ q; rw [itN] at this; cases this
 refine codeAny_forLoop (it := .ref s₁.heap.objs.size) (fun k s' => ∃ j : Nat, j ≤ 3 ∧ k = 3 - j ∧ IsRangeIter s'.heap s₁.heap.objs.size (j : Int) ((3 : Int) - (j : Int)) 1 ∧ LawAt S R 95 A env lawNames lawL s' ∧ LU env R s.heap s'.heap) ?_ 3 ⟨0, by decide, rfl, Heap.get?_push_size _ rfl, X2, LU.of_up (Up.of_all k2)⟩
 intro k s' inv
 refine o_xaaaa inv fun j hj hkj hit XX uu => ?_
 clear inv
 subst hkj
 have RX : R ≠ s₁.heap.objs.size := fun q => by
  refine o_xxaa XX.reel.lst fun items o ho hc _ => ?_
  rw [q, show s'.heap.get? _ = _ from hit] at ho
  cases ho
  exact absurd (show Value.type "range_iterator" = .type "list" from hc) (by decide)
 have moved : ∀ {h' : Heap} {tk : Nat}, (∀ b o, b ≠ s₁.heap.objs.size → s'.heap.get? b = some o → h'.get? b = some o) → LawAt S R 95 A env lawNames lawL { s' with heap := h', toks := tk } := fun {h' tk} kk =>
  ⟨XX.at_.moves hit rfl (not_lam rfl rfl) itB kk, XX.reel.get fun items ⟨o, ho, r⟩ => ⟨o, kk _ _ RX ho, r⟩⟩
 by_cases hlt : j < 3
 ·refine wpAny_pyNext_range_item hit (by lia) fun h' hit' hs' => ?_
  have kk : ∀ b o, b ≠ s₁.heap.objs.size → s'.heap.get? b = some o → h'.get? b = some o := fun b o hb e => (hs'.2 b hb).trans e
  have X3 : LawAt S R 95 A env lawNames lawL { s' with heap := h', toks := s'.toks + 1 } := moved kk
  refine wpAny_assign_Name (law_store (d := .int (.ofNat j)) X3 (i := 5) (x := Str.ofString "turn") (by rw [law_names]; rfl) (.inl (law_kind hsc (by kernel_rfl))) (.int _ _) fun s4 X4 u4 => ?_)
  have X4' : LawAt S R 95 A env lawNames lawL s4 := X4.weak law_len fun i d e => by
   by_cases h5 : i = 5
   ·subst h5; exact .inl (Option.some.inj e).symm
   ·refine .inr ?_
    rw [putN_get, if_neg (fun q => h5 q.1)]
    exact e
  refine law_turn L hΩ hB hsc all X4' fun s5 X5 u5 => ?_
  have u45 : LU env R h' s5.heap := u4.trans u5
  obtain ⟨nl, nc⟩ := X3.at_.cond.frm.alien hit' rfl
  have hit5 := u45.iters _ _ (lu_put hit' (Ne.symm RX) fun hm => by
   rcases List.mem_cons.mp hm with q | q
   ·exact nl q
   ·refine o_xa (ownCells_mem q) fun y _ hy => ?_
    exact nc y hy) ⟨rfl, _, rfl⟩
  refine ⟨3 - (j + 1), by lia, j + 1, by assumption, rfl, ?_, X5, (uu.skip itN kk).trans u45⟩
  have e1 : ((j + 1 : Nat) : Int) = (j : Int) + 1 := by rfl
  have e2 : (3 : Int) - ((j + 1 : Nat) : Int) = (3 : Int) - (j : Int) - 1 := by (simp_all +arith)
  rw [e2, e1]
  exact hit5
 ·refine wpAny_pyNext_range_end T.cond.handled hit (by lia) fun h' he => ?_
  have X3 : LawAt S R 95 A env lawNames lawL { s' with heap := h' } := moved he
  exact wpAny_execs_nil (fin _ X3 (uu.skip itN he))
end
end
section
open PySem PySem.W PySem.SeqAt
noncomputable def lawP (i : Nat) : Pos := posAt [726, 4, 726, 11, 726, 13, 726, 18, 726, 20, 726, 25, 726, 4, 726, 25, 726, 29, 726, 41, 726, 29, 726, 43, 726, 46, 726, 55, 726, 57, 726, 63, 726, 45, 726, 64, 726, 67, 726, 73, 726, 66, 726, 75, 726, 28, 726, 76, 726, 4, 726, 76] i
noncomputable def lawRP (i : Nat) : Pos := posAt [730, 4, 730, 8, 730, 11, 730, 20, 730, 21, 730, 27, 730, 11, 730, 28, 730, 4, 730, 28, 731, 8, 731, 12, 731, 16, 731, 21, 731, 22, 731, 23, 731, 16, 731, 24, 731, 4, 742, 24, 743, 11, 743, 15, 743, 4, 743, 15] i
noncomputable def headA : M := .cons (.var 9 (Str.ofString "checker") (lawP 0)) (.cons (.var 1 (Str.ofString "truth") (lawP 1)) (.cons (.var 2 (Str.ofString "plain") (lawP 2)) .nil))
noncomputable def strE (i : Nat) (x : String) : Expr := .Constant (.str (Str.ofString x)) 0 (lawP i)
noncomputable def headE : List Expr := [.Call (.Name (Str.ofString "_law_checker") (lawP 4)) [] [] (lawP 5), .Tuple [strE 6 "untyped", strE 7 "bool"] 0 (lawP 8), .Tuple [strE 9 "bool"] 0 (lawP 10)]
noncomputable def stHead : Stmt := .Assign [.Tuple (toEs headA) 0 (lawP 3)] (.Tuple headE 0 (lawP 11)) (lawP 12)
noncomputable def stReel : Stmt := .Assign [.Name reelS (lawRP 0)] (.Call (.Name (Str.ofString "_law_reel") (lawRP 1)) [.Name scriptS (lawRP 2)] [] (lawRP 3)) (lawRP 4)
noncomputable def stLoop : Stmt := .For (.Name (Str.ofString "turn") (lawRP 5)) (.Call (.Name (Str.ofString "range") (lawRP 6)) [.Constant (.int 3) 0 (lawRP 7)] [] (lawRP 8)) turnBody [] (lawRP 9)
noncomputable def stEnd : Stmt := .Return (some (.Constant (.bool true) 0 (lawRP 10))) (lawRP 11)
@[irreducible] def regionD : M := compSs { cx0 with slots := lawNames } ((lawS.drop 1).take 2)
theorem law_eq : lawS = stHead :: (toSs regionD ++ [stReel, stLoop, stEnd]) := by kernel_rfl
structure KLaw (K : Frag) : Prop where
 names : (gl K (Str.ofString "_law_checker")) = some (some (.ref 841))
 dReel : DefK K 813 (stAt 100) [scriptS]
 dWound : DefK K 820 (stAt 101) [reelS, manyS]
 dOne : DefK K 827 (stAt 102) [reelS, someS]
 sorts : ((fnAt K 851).any fun fd => lamB fd && (fnB K sortsFn fd true && okM fd.scope.names sortsFn.slots sortsB)) = true
 sortsBody : (fnAt K 851).map (·.body) = some (.stmts (defBody (stAt 106)))
noncomputable def OmL (chk wld R sc : Addr) (k : Nat) : Value := match k with
 | 0 => .ref chk
 | 1 => .ref wld
 | 2 => .ref R
 | _ => .ref sc
theorem omL_ref (chk wld R sc : Addr) : OmRef (OmL chk wld R sc)
 | 0 => ⟨_, rfl⟩
 | 1 => ⟨_, rfl⟩
 | 2 => ⟨_, rfl⟩
 | _ + 3 => ⟨_, rfl⟩
noncomputable def SL (prog : Program) (w : World) (B : Heap) (Ω : Nat → Value) (g : OG) : Fixed := mkFixed prog w B Ω tabs.consts (lamTabs.map (·.2)) excOf g
section
variable {S : Fixed} {K : Frag} {w : World} {mg mb : Str → Option Value}
theorem sorts_dflts : sortsFn.dflts = [] := by kernel_rfl
theorem lawF_of (KA : KAll K w) (KL : KLaw K) (X : BaseF K S.B0 mg mb) (hl : S.lams = lamTabs.map (·.2)) {mk mw mr : Str → Option Value} (F : AllF S tabs faF fmF K 36 792 735 802 759 mg mb mk mw mr) : LawF S K mg mb := by
 refine ⟨⟨mk, mw, mr, F⟩, ?_, ?_, ?_⟩
 ·refine o_xxaaa (def_of (S := S) X.frag KL.dWound) fun o fd h1 h2 h3 h4 => ?_
  rw [wound_eq] at h4
  exact ⟨820, o, fd, KA.glob X (Str.ofString "_law_wound", 820) (by decide +kernel), h1, h2, h4, lookN h3 (by kernel_rfl)⟩
 ·refine o_xxaaa (def_of (S := S) X.frag KL.dOne) fun o fd h1 h2 h3 h4 => ?_
  rw [one_eq] at h4
  exact ⟨827, o, fd, KA.glob X (Str.ofString "_law_one", 827) (by decide +kernel), h1, h2, h4, lookN h3 (by kernel_rfl), lookN h3 (by kernel_rfl)⟩
 ·refine o_xa (any_some KL.sorts) fun fd hfd hh => ?_
  have hb := KL.sortsBody
  rw [hfd] at hb
  have hb' : fd.body = .stmts (defBody (stAt 106)) := Option.some.inj hb
  rw [sorts_eq] at hb'
  refine via fun Gv kv => ?_
  refine o_xa (fnAt_get X.frag hfd) fun o ho hd => ?_
  refine b_Lnn hh fun q1 q => ?_
  refine b_Lnn q fun q2 q3 => ?_
  refine kv ?_
  clear kv Gv
  refine ⟨851, o, fd, KA.glob X (Str.ofString "_law_sorts", 851) (by decide +kernel), ho, hd, hb', fnC_of X.frag sorts_dflts q2 fun l hl' e => ?_, fnB_ok q2, q3⟩
  rw [hl] at hl'
  refine o_xa (List.mem_map.mp hl') fun p hp q2' => ?_
  subst q2'
  have := List.all_eq_true.mp q1 _ hp
  simp only [Bool.or_eq_true, Bool.and_eq_true, Bool.not_eq_true', beq_iff_eq] at this
  rcases this with z | ⟨z1, z2⟩
  ·rw [scEq_iff.mpr e] at z; exact tf z
  ·exact ⟨p.1, z1, X.code _ hp, Fast.sEq_iff.mp z2⟩
end
end
section
open PySem PySem.W PySem.SeqAt
open PyProof.Rows (Tuple_)
theorem dat_one {Ω Ω' : Nat → Value} {h h' : Heap} {v : Value} {a : Nat} (D : DatH Ω h v (.tup [.str a])) (k : ∀ t items, h.IsTuple t items → h'.IsTuple t items) : DatH Ω' h' v (.tup [.str a]) := by
 refine o_xxaa D.it fun a' vs q x r => ?_
 subst q
 refine o_xa r.i1 fun v q d1 => ?_
 subst q
 ··refine o_xxaa (datStr d1) fun x1 t1 q2' q3' o1 => ?_
   subst q2'
   subst q3'
   exact .tup (k _ _ x) (.cons (.str _ _ o1) .nil)
structure Start (K : Frag) (w : World) (H0 : Heap) (mg mb : Str → Option Value) (A : Around) (env : Env) (s : Shared) (a : Addr) : Prop where
 base : BaseF K H0 mg mb
 keep : All H0 s.heap
 sc : env.scope.names = lawSc
 kind : env.scope.kind = .function
 glob : env.globals = mainGlobals
 blt : env.builtins = builtinsNs
 frame : env.frame = some env.locals
 code : env.code = .ref 902
 qual : env.qual = Str.ofString "law" ++ ".<locals>."
 ns : ∃ m, s.heap.Ns env.locals m ∧ m scriptS = some (.ref a)
 script : ∃ vs : List Value, H0.IsList a vs.toArray ∧ vs.length < 4096 ∧ ∀ v, vs[0]? = some v → ∃ x t, v = .int x t
 fresh : H0.get? env.locals = none
 cells : ∀ x c, env.cells.lookup x = some c → (∃ o, s.heap.IsCell c o) ∧ H0.get? c = none
 has : ∀ x, env.kindOf x = some .cell → ∃ c, env.cells.lookup x = some c
 one : ∀ x y c, env.cells.lookup x = some c → env.cells.lookup y = some c → x = y
 tabs : ∀ l ∈ lamTabs, s.heap.get? l.2.P = some (tabO #[])
 fr : A.frames = some [env]
 depth : A.depth ≤ 310
 units : A.units ≤ 20
 handled : A.handled = none
noncomputable def lawHs (env : Env) : List Addr := env.locals :: ownCells env ++ [515, 898]
noncomputable def lawB (env : Env) (h : Heap) : Heap := hideAll h (lawHs env)
noncomputable def rho0 : List Dat := .obj 3 :: List.replicate 12 .hole
section
variable {K : Frag} {prog : Program} {w : World} {H0 : Heap} {mg mb : Str → Option Value} {A : Around} {env : Env} {s : Shared} {sc : Addr}
theorem lamTabs_P {l : Addr × LamTab} (h : l ∈ lamTabs) : l.2.P = 515 ∨ l.2.P = 898 := by
 rcases List.mem_cons.mp h with q | q
 ·rw [q]; exact .inl rfl
 ·rcases List.mem_cons.mp q with q | q
  ·rw [q]; exact .inr rfl
  ·cases q
theorem lamTabs_has {P : Addr} (h : P = 515 ∨ P = 898) : ∃ l ∈ lamTabs, l.2.P = P := by
 rcases h with rfl | rfl
 ·exact ⟨_, .head _, rfl⟩
 ·exact ⟨_, .tail _ (.head _), rfl⟩
theorem Start.hidden (Z : Start K w H0 mg mb A env s sc) {a : Addr} (h : a ∈ lawHs env) : H0.get? a = none ∧ s.heap.get? a ≠ none ∧ ∀ h2, All s.heap h2 → ∀ items, ¬ h2.IsTuple a items := by
 have go : ∀ {o : Obj}, s.heap.get? a = some o → (∀ items n, o.data ≠ .seq items n) → s.heap.get? a ≠ none ∧ ∀ h2, All s.heap h2 → ∀ items, ¬ h2.IsTuple a items := fun {o} e hd => by
  refine ⟨by rw [e]; simp, fun h2 k items ⟨o', ho', _, n, hd'⟩ => ?_⟩
  rw [k _ _ e] at ho'
  obtain rfl := si ho'
  exact hd _ _ hd'
 rcases List.mem_append.mp h with h | h
 ·rcases List.mem_cons.mp h with rfl | h
  ·refine o_xa Z.ns fun m r1' _ => ?_
   obtain ⟨o, es, ep, ho, hd, _⟩ := r1'
   exact ⟨Z.fresh, go ho fun items n q => by rw [hd] at q; cases q⟩
  ·refine o_xa (ownCells_mem h) fun y _ hy => ?_
   refine via fun Gv kv => ?_
   obtain ⟨⟨v, o, ho, hd⟩, hn⟩ := Z.cells y a hy
   refine kv ?_
   clear kv Gv
   exact ⟨hn, go ho fun items n q => by rw [hd] at q; cases q⟩
 ·have hP : a = 515 ∨ a = 898 := by simpa using h
  refine o_xa (lamTabs_has hP) fun l hl q2' => ?_
  subst q2'
  exact ⟨Z.base.none l hl, go (Z.tabs l hl) fun items n q => by cases q⟩
theorem Start.sub (Z : Start K w H0 mg mb A env s sc) {h2 : Heap} (k : All s.heap h2) : All H0 (lawB env h2) := fun b o e => hideAll_get _ (k _ _ (Z.keep _ _ e)) fun hm => by
 have := (Z.hidden hm).1
 rw [e] at this
 injection this
theorem Start.baseB (Z : Start K w H0 mg mb A env s sc) {h2 : Heap} (k : All s.heap h2) : BaseF K (lawB env h2) mg mb := by
 have kk := Z.sub k
 have X := Z.base
 refine ⟨X.frag.keeps kk, X.g.keeps kk, X.b.keeps kk, X.lim.keeps kk, X.blt, fun l hl => hideAll_none _ (List.mem_append_right _ ?_), fun l hl => (X.code l hl).keeps kk, fun l hl => (X.bm l hl).keeps kk, X.seer.keeps kk⟩
 rcases lamTabs_P hl with q | q <;> rw [q] <;> simp
theorem law_nodup : lawNames.Nodup := by rw [law_names]; decide +kernel
theorem lam_other : ∀ l ∈ lamTabs, l.2.sc = lawSc → l = (902, l.2) ∧ l.2.qual = Str.ofString "law" ++ ".<locals>." ++ "<lambda>" := by
 intro l hl e
 rcases List.mem_cons.mp hl with q | q
 ·exfalso
  have : scEq l.2.sc lawSc = true := scEq_iff.mpr e
  rw [q] at this
  exact absurd this (by decide +kernel)
 ·rcases List.mem_cons.mp q with q | q
  ·subst q; exact ⟨rfl, by decide +kernel⟩
  ·cases q
theorem Start.at (Z : Start K w H0 mg mb A env s sc) {h2 : Heap} (k : All s.heap h2) {Ω : Nat → Value} (h3 : Ω 3 = .ref sc) {s' : Shared} (k2 : All h2 s'.heap) (hog : og s' = og s) : At (SL prog w (lawB env h2) Ω (og s)) 95 A env lawNames rho0 (lawB env h2) [] s'.heap (og s') := by
 have kk : All s.heap s'.heap := fun b o e => k2 _ _ (k _ _ e)
 have sub : All (lawB env h2) s'.heap := fun b o e => k2 _ _ (of_hideAll _ e)
 refine o_xa Z.ns fun m hns hm => ?_
 have d1 := Z.depth
 have u1 := Z.units
 have N : Ent (SL prog w (lawB env h2) Ω (og s)) env (lawB env h2) [] := ⟨fun _ _ e => e, hideAll_none _ (List.mem_append_left _ (.head _)), fun y c hk hl => hideAll_none _ (List.mem_append_left _ (.tail _ (mem_ownCells hk hl))), trivial, Z.frame, Z.kind⟩
 have hns' : s'.heap.Ns env.locals m := by obtain ⟨o, es, ep, e, r⟩ := hns; exact ⟨o, es, ep, kk _ _ e, r⟩
 have F : Frm (SL prog w (lawB env h2) Ω (og s)).Ω env lawNames rho0 s'.heap := by
  refine ⟨⟨m, hns', fun i x d hx hd => ?_⟩, fun x c e => let ⟨⟨o, o', ho, hd⟩, _⟩ := Z.cells x c e; ⟨o, o', kk _ _ ho, hd⟩, Z.has, Z.one, by rw [law_names]; rfl⟩
  induction i using Nat.casesAuxOn with
  | zero =>
   have e : scriptS = x := by rw [law_names] at hx; exact Option.some.inj hx
   subst e
   cases (show some (Dat.obj 3) = some d from hd)
   refine .inr ⟨fun _ => ⟨_, hm, .obj 3 h3.symm⟩, fun q => ?_⟩
   have : env.kindOf scriptS = some .local := law_kind Z.sc (by kernel_rfl)
   rw [this] at q
   rcases q with q | q <;> cases q
  | succ i =>
   have hd' : (List.replicate 12 Dat.hole)[i]? = some d := hd
   rw [List.getElem?_replicate] at hd'
   split at hd'
   ·exact .inl (Option.some.inj hd').symm
   ·exact nn hd'
 refine ⟨⟨by rw [show recursionLimit = 1000 from rfl]; lia, by rw [show cLine = 9900 from rfl]; lia, Z.handled, ⟨[env], Z.fr, frames_of N F (Up.of_all sub)⟩, ⟨sub, fun l hl => ?_, hog⟩, F, Z.kind, Z.glob, Z.blt, fun l hl e => ?_⟩, N, Z.fr, Up.of_all sub, law_nodup⟩
 ·refine o_xa (List.mem_map.mp hl) fun p hp q2' => ?_
  subst q2'
  exact ⟨#[], kk _ _ (Z.tabs p hp), .inl rfl⟩
 ·refine o_xa (List.mem_map.mp hl) fun p hp q2' => ?_
  subst q2'
  obtain ⟨q1, q2⟩ := lam_other p hp (e.trans Z.sc)
  refine ⟨902, Z.code, ?_, by rw [Z.qual]; exact q2⟩
  have := (Z.baseB k).code p hp
  rw [q1] at this
  exact this
end
end
section
set_option backward.match.sparseCases false
open PySem PySem.W PySem.SeqAt
open PyProof.Rows (Tuple_)
noncomputable def rho1 : List Dat := [.obj 3, T2 "untyped" "bool", T1 "bool", .hole, .hole, .hole, .hole, .hole, .hole, .obj 0, .hole, .hole, .hole]
noncomputable def keep0 (ρ : List Dat) : Bool := sameD (nth ρ 0) (.obj 3) && sameD (nth ρ 1) (T2 "untyped" "bool") && sameD (nth ρ 2) (T1 "bool") && sameD (nth ρ 9) (.obj 0)
noncomputable def dueOk : Bool := match runT tabs 90 (.sts regionD) rho1 with
 | some o => match o with
  | .flow ρ' f => match f with
   | .next => keep0 ρ'
   | _ => false
  | _ => false
 | none => false
theorem due_ok : dueOk = true := by kernel_rfl
theorem due_run : ∃ ρ', runT tabs 90 (.sts regionD) rho1 = some (.flow ρ' .next) ∧ keep0 ρ' = true := by
 have h := due_ok
 unfold dueOk at h
 induction h1 : runT tabs 90 (.sts regionD) rho1 with
 | none => rw [h1] at h; exact ft h
 | some o =>
  rw [h1] at h
  induction o with
  | flow ρ' f => induction f with
   | next => exact ⟨ρ', rfl, h⟩
   | ret d => exact ft h
  | _ => exact ft h
theorem due_okSt : okSt lawSc lawNames regionD = true := by kernel_rfl
noncomputable def rho3 : List Dat := [.hole, T2 "untyped" "bool", T1 "bool", .hole, .hole, .hole, .hole, .hole, .hole, .obj 0, .hole, .hole, .hole]
theorem rho3_get {ρ : List Dat} (h : keep0 ρ = true) : ρ[0]? = some (.obj 3) ∧ ∀ (i : Nat) (d : Dat), rho3[i]? = some d → d = .hole ∨ (ρ[i]? = some d ∧ (d = T2 "untyped" "bool" ∨ d = T1 "bool" ∨ d = .obj 0)) := by
 unfold keep0 at h
 refine b_LLLnnnn h fun h0 h1 h2 h3 => ?_
 clear h
 have key : ∀ {i : Nat} {t : Dat}, sameD (nth ρ i) t = true → ρ[i]? = some t := fun {i t} e => by
  obtain ⟨e1, e2⟩ := sameD_eq e
  rw [← e1]
  exact nth_get e2
 refine ⟨key h0, fun i d e => ?_⟩
 match i, e with
 | 0, e => exact .inl (Option.some.inj e).symm
 | 1, e => rw [← Option.some.inj e]; exact .inr ⟨key h1, .inl rfl⟩
 | 2, e => rw [← Option.some.inj e]; exact .inr ⟨key h2, .inr (.inl rfl)⟩
 | 3, e => exact .inl (Option.some.inj e).symm
 | 4, e => exact .inl (Option.some.inj e).symm
 | 5, e => exact .inl (Option.some.inj e).symm
 | 6, e => exact .inl (Option.some.inj e).symm
 | 7, e => exact .inl (Option.some.inj e).symm
 | 8, e => exact .inl (Option.some.inj e).symm
 | 9, e => rw [← Option.some.inj e]; exact .inr ⟨key h3, .inr (.inr rfl)⟩
 | 10, e => exact .inl (Option.some.inj e).symm
 | 11, e => exact .inl (Option.some.inj e).symm
 | 12, e => exact .inl (Option.some.inj e).symm
 | i + 13, e => exact nn e
theorem Frm.conv {Ω Ω' : Nat → Value} {env : Env} {xs : List Str} {ρ ρ' : List Dat} {h : Heap} (F : Frm Ω env xs ρ h) (hl : ρ'.length = xs.length) (w : ∀ (i : Nat) (d : Dat), ρ'[i]? = some d → d = .hole ∨ (ρ[i]? = some d ∧ ∀ v, DatH Ω h v d → DatH Ω' h v d)) : Frm Ω' env xs ρ' h := by
 refine via fun Gv kv => ?_
 obtain ⟨⟨m, hn, hv⟩, hc, hh, h1, _⟩ := F
 refine kv ?_
 clear kv Gv
 refine ⟨⟨m, hn, fun i x d hx hd => ?_⟩, hc, hh, h1, hl⟩
 rcases w i d hd with e | ⟨e, k⟩
 ·exact .inl e
 ·rcases hv i x d hx e with e | ⟨a, b⟩
  ·exact .inl e
  ·exact .inr ⟨fun e => let ⟨v, e1, e2⟩ := a e; ⟨v, e1, k v e2⟩, fun e => let ⟨c, v, e1, e2, e3⟩ := b e; ⟨c, v, e1, e2, k v e3⟩⟩
theorem At.conv {prog : Program} {w : World} {B : Heap} {Ω Ω' : Nat → Value} {g κ : OG} {n : Nat} {A : Around} {env : Env} {xs : List Str} {ρ ρ' : List Dat} {h0 : Heap} {outer : List Env} {h : Heap} (T : At (SL prog w B Ω g) n A env xs ρ h0 outer h κ) (F : Frm Ω' env xs ρ' h) : At (SL prog w B Ω' g) n A env xs ρ' h0 outer h κ :=
 ⟨⟨T.cond.room, T.cond.units, T.cond.handled, T.cond.frames, ⟨T.cond.stays.base, T.cond.stays.lam, T.cond.stays.og⟩, F, T.cond.kind, T.cond.glob, T.cond.blt, T.cond.lamc⟩, ⟨T.ent.st0, T.ent.fresh, T.ent.cellF, T.ent.fr0, T.ent.hf, T.ent.kind⟩, T.fr, T.up, T.nd⟩
section
variable {K : Frag} {prog : Program} {w : World} {H0 : Heap} {mg mb : Str → Option Value} {A : Around} {env : Env} {s : Shared} {sc : Addr} {E : Value → Shared → Prop}
theorem plain_named (KA : KAll K w) (X : BaseF K H0 mg mb) : ∃ pl, mg (Str.ofString "PLAIN") = some pl := by
 refine o_xa (any_some KA.plain) fun v hv h => ?_
 obtain ⟨pl, rfl⟩ := Option.isSome_iff_exists.mp h
 exact ⟨pl, gl_of X.frag X.g hv⟩
theorem head_call (KA : KAll K w) (KL : KLaw K) (Z : Start K w H0 mg mb A env s sc) {Q : Value → Shared → Prop}
  (fin : ∀ chk s2 wld mk mw mr, All s.heap s2.heap → og s2 = og s → World0 prog w (lawB env s2.heap) chk wld mk mw mr → Q (.ref chk) s2) : wpAny (model prog w) A (eval (.Call (.Name (Str.ofString "_law_checker") (lawP 4)) [] [] (lawP 5)) env) Q E s := by
 have X := Z.base
 let S1 : Fixed := mkFixed prog w H0 (fun _ => .ref 0) tabs.consts [] excOf (og s)
 have KM := KA.make mg (KA.glob X)
 refine via fun Gv kv => ?_
 obtain ⟨rd, R⟩ := rowFacts_of (S := S1) X.frag KM
 obtain ⟨wd, WF⟩ := wldFacts_of (S := S1) X.frag KM
 refine o_xx (chkFacts_of (S := S1) X.frag KM) fun cd sd CF => ?_
 obtain ⟨pl, hpl⟩ := plain_named KA X
 have KF := kr_of (S := S1) X.frag (KA.glob X (Str.ofString "known_rows", 770) (by decide +kernel)) KA.dRows hpl
 refine o_xxaa (lawchk_of (S := S1) X.frag KA.dChk) fun ol ld hol hld LF => ?_
 have ho := KA.objs
 simp only [Bool.and_eq_true] at ho
 refine o_xa Z.ns fun m hns _ => ?_
 refine kv ?_
 clear kv Gv
 have hff : s.heap.FunFrames H0 [env] := Heap.FunFrames.cons (by rw [Z.kind]; decide) Z.frame hns Z.fresh trivial
 have d1 := Z.depth
 have u1 := Z.units
 have hsys : s.heap.get? sysModules ≠ none := by
  refine via fun Gv kv => ?_
  refine o_xa X.seer.mods fun mm r1' _ => ?_
  obtain ⟨o, es, ep, e, _⟩ := r1'
  refine kv ?_
  clear kv Gv
  rw [Z.keep _ _ e]
  simp
 refine wpAny_Call_ofName (Calls.Name_function_global Z.kind (law_kind Z.sc (by kernel_rfl)) (Calls.loadGlobal_global (by rw [Z.glob]; exact X.g.keeps Z.keep) (KA.glob X (Str.ofString "_law_checker", 841) (by decide +kernel)) ?_) (by decide))
 refine Calls.callWith_function (o := ol) (fd := ld) (evalArgs_none ⟨⟨Z.keep _ _ hol, hld⟩, wpAny_call ?_⟩)
 refine law_checker_call (S := S1) X.lim (fun _ => ⟨0, rfl⟩) X.frag X.g R KF WF ⟨KM.names.2.1, KM.keep.2.1⟩ ⟨ho.1.2, KA.named⟩ CF hol hld LF Z.fr hff ⟨Z.keep, fun l hl => (by cases hl), rfl⟩ (by rw [show recursionLimit = 1000 from rfl]; lia) (by rw [show cLine = 9900 from rfl]; lia) fun chk s2 k2 Md st2 => ?_
 refine o_xxxx (world0_of Md (hs := lawHs env) (fun a ha => (Z.hidden ha).2.1) (fun a ha => (Z.hidden ha).2.2 _ k2) hsys) fun wld mk mw mr W0 => ?_
 exact fin chk s2 wld mk mw mr k2 st2.og W0
end
end
section
open PySem PySem.W PySem.SeqAt
open PyProof.Rows (Tuple_)
section
variable {K : Frag} {prog : Program} {w : World} {H0 : Heap} {mg mb : Str → Option Value} {A : Around} {env : Env} {s : Shared} {sc : Addr} {E : Value → Shared → Prop}
structure Mid (K : Frag) (prog : Program) (w : World) (B : Heap) (mg mb : Str → Option Value) (chk wld sc : Addr) (g : OG) : Prop where
 law : ∀ R, LawF (SL prog w B (OmL chk wld R sc) g) K mg mb
 script : ∃ vs : List Value, B.IsList sc vs.toArray ∧ vs.length < 4096 ∧ ∀ v, vs[0]? = some v → ∃ x t, v = .int x t
 reel : ∃ o fd, B.get? 813 = some o ∧ o.data = .func fd ∧ mg (Str.ofString "_law_reel") = some (.ref 813) ∧ fd.scope.names = namesOf (stAt 100) ∧ ∀ R, HandFn (SL prog w B (OmL chk wld R sc) g) [scriptS] reelT fd
theorem mid_of (KA : KAll K w) (KL : KLaw K) (Z : Start K w H0 mg mb A env s sc) {chk wld : Addr} {h2 : Heap} {mk mw mr : Str → Option Value} (k : All s.heap h2) (W : World0 prog w (lawB env h2) chk wld mk mw mr) (g : OG) : Mid K prog w (lawB env h2) mg mb chk wld sc g := by
 have X := Z.baseB k
 have fd : ∀ R, _ := fun R => def_of (S := SL prog w (lawB env h2) (OmL chk wld R sc) g) X.frag KL.dReel
 refine ⟨fun R => ?_, ?_, ?_⟩
 ·exact lawF_of (S := SL prog w (lawB env h2) (OmL chk wld R sc) g) KA KL X rfl (allF_of (S := SL prog w (lawB env h2) (OmL chk wld R sc) g) KA X W rfl rfl rfl rfl mkFixed_isX rfl (omL_ref chk wld R sc))
 ·refine o_xa Z.script fun vs q1 q2 => ?_
  refine o_xa q1 fun o ho r => ?_
  clear q1
  exact ⟨vs, ⟨o, Z.sub k _ _ ho, r⟩, q2⟩
 ·refine o_xxaaa (fd 0) fun o fd0 h1 h2' h3 _ => ?_
  refine ⟨o, fd0, h1, h2', KA.glob X (Str.ofString "_law_reel", 813) (by decide +kernel), h3, fun R => ?_⟩
  refine o_xxaaa (fd R) fun o' fd1 g1 g2 g3 g4 => ?_
  have e1 : (lawB env h2).get? 813 = some o' := g1
  rw [show (lawB env h2).get? 813 = some o from h1] at e1
  cases e1
  rw [h2'] at g2
  cases g2
  rw [reel_eq] at g4
  exact g4
theorem law_head (KA : KAll K w) (KL : KLaw K) (Z : Start K w H0 mg mb A env s sc) {Q : Flow → Shared → Prop}
  (fin : ∀ (h2 : Heap) (chk wld : Addr) s', All H0 (lawB env h2) → Mid K prog w (lawB env h2) mg mb chk wld sc (og s) → At (SL prog w (lawB env h2) (OmL chk wld 0 sc) (og s)) 95 A env lawNames rho1 (lawB env h2) [] s'.heap (og s') → Q .next s') : wpAny (model prog w) A (exec stHead env) Q E s := by
 refine unp_plain (M := model prog w) (a := headA) (n := 95) (xs := lawNames) (outer := []) rfl (swap_none (by rw [Z.sc]; kernel_rfl)) (by rw [Z.sc]; kernel_rfl) ?_
 refine Tuple_ (Calls.spliced_cons (head_call KA KL Z fun chk s2 wld mk mw mr k2 o2 W => ?_))
 let S2 : Fixed := SL prog w (lawB env s2.heap) (OmL chk wld 0 sc) (og s)
 refine Calls.spliced_cons (lit_eval (S := S2) 3 _ (T2 "untyped" "bool") _ _ (by rfl) fun v1 s3 D1 a1 => ?_)
 refine Calls.spliced_cons (lit_eval (S := S2) 3 _ (T1 "bool") _ _ (by rfl) fun v2 s4 D2 a2 => Calls.spliced_nil ?_)
 have kp := All.push s4.heap { cls := .type "tuple", data := .seq [Value.ref chk, v1, v2].toArray }
 refine wpAny_newTuple ?_ (hsz := by show (3 : Nat) ≤ 2 ^ 24; (simp_all +arith))
 have k25 : All s2.heap (s4.heap.push { cls := .type "tuple", data := .seq [Value.ref chk, v1, v2].toArray }) := fun b o e => kp _ _ (a2.all _ _ (a1.all _ _ e))
 have T5 := Z.at (prog := prog) k2 (Ω := OmL chk wld 0 sc) rfl (s' := { s4 with heap := s4.heap.push { cls := .type "tuple", data := .seq [Value.ref chk, v1, v2].toArray } }) k25 ((a2.og.trans a1.og).trans o2)
 refine ⟨S2, rho0, [.obj 0, T2 "untyped" "bool", T1 "bool"], _, [.ref chk, v1, v2], lawB env s2.heap, rfl, rfl, rfl, push_tuple rfl rfl, .cons (.obj 0 rfl) (.cons ((D1.up (Up.of_all a2.all)).up (Up.of_all kp)) (.cons (D2.up (Up.of_all kp)) .nil)), rfl, T5, fun s6 T6 => ?_⟩
 exact fin s2.heap chk wld s6 (Z.sub k2) (mid_of KA KL Z k2 W (og s)) T6
theorem law_reel {B : Heap} {chk wld : Addr} {g : OG} (Md : Mid K prog w B mg mb chk wld sc g) (hsc : env.scope.names = lawSc) {ρ : List Dat} (hk : keep0 ρ = true) (T : At (SL prog w B (OmL chk wld 0 sc) g) 95 A env lawNames ρ B [] s.heap (og s)) {Q : Flow → Shared → Prop}
  (fin : ∀ R s', B.get? R = none → LawAt (SL prog w B (OmL chk wld R sc) g) R 95 A env lawNames lawL s' → Q .next s') : wpAny (model prog w) A (exec stReel env) Q E s := by
 refine o_xxx ((Md.law 0).all) fun mk mw mr F => ?_
 refine o_xxaaaa Md.reel fun o fd h1 h2 h3 h4 h5 => ?_
 refine o_xaa Md.script fun vs q1 q2 q3 => ?_
 obtain ⟨r0, r1⟩ := rho3_get hk
 have room := T.cond.room
 refine wpAny_Assign_Name (hs := rfl) (wpAny_Call_ofName (name_top F.G T.cond (law_glob hsc (by kernel_rfl)) h3 (Calls.callWith_function (o := o) (fd := fd) ?_)))
 refine Calls.evalArgs_plain (Calls.spliced_cons (wp_load T.cond.frm (i := 0) (x := scriptS) (by rw [law_names]; rfl) r0 (by intro q; injection q) T.cond.kind (.inl (law_kind hsc (by kernel_rfl))) (by decide) (by decide) fun v Dv => Calls.spliced_nil ⟨⟨T.cond.stays.base _ _ h1, h2⟩, wpAny_call ?_⟩))
 have hv : v = .ref sc := Dv.io
 subst hv
 refine reel_call (S := SL prog w B (OmL chk wld 0 sc) g) F.G.lim F.G.g F.G.b (F.B.bi .len).1 (F.B.bi .len).2 (F.B.bi .max).1 (F.B.bi .max).2 h1 h2 (h5 0) (lookN h4 (by kernel_rfl)) (lookN h4 (by kernel_rfl)) (lookN h4 (by kernel_rfl)) (lookN h4 (by kernel_rfl)) T.fr T.frames T.cond.handled T.cond.stays (by lia)
  (up_isList (Up.of_all T.cond.stays.base) q1) q2 q3 fun R s1 k1 nR Rl st1 => ?_
 have hB : B.get? R = none := by
  induction q : B.get? R with
  | none => rfl
  | some o => have := T.cond.stays.base _ _ q; rw [nR] at this; exact nn this
 have T1 := T.keep (κ' := og s1) ⟨Up.of_all k1, st1⟩
 have F3 : Frm (OmL chk wld R sc) env lawNames rho3 s1.heap := T1.cond.frm.conv (by rw [law_names]; rfl) fun i d e => by
  rcases r1 i d e with q | ⟨q, z⟩
  ·exact .inl q
  ·refine .inr ⟨q, fun v D => ?_⟩
   rcases z with rfl | rfl | rfl
   ·exact dat_two D fun _ _ x => x
   ·exact dat_one D fun _ _ x => x
   ·exact .obj 0 D.io
 have X1 : LawAt (SL prog w B (OmL chk wld R sc) g) R 95 A env lawNames rho3 s1 := ⟨T1.conv F3, Rl⟩
 refine law_store (S := SL prog w B (OmL chk wld R sc) g) X1 (i := 4) (x := reelS) (d := .obj 2) (by rw [law_names]; rfl) (.inl (law_kind hsc (by kernel_rfl))) (.obj 2 rfl) fun s2 X2 _ => ?_
 exact fin R s2 hB X2
theorem law_body (KA : KAll K w) (KL : KLaw K) (Z : Start K w H0 mg mb A env s sc) (all : AllOk) {Q : Flow → Shared → Prop}
  (fin : ∀ s', All H0 s'.heap → og s' = og s → (∀ l ∈ lamTabs, ∃ ps, s'.heap.get? l.2.P = some (tabO ps)) → Q (.ret (.bool true)) s') : wpAny (model prog w) A (execs lawS env) Q E s := by
 rw [law_eq]
 refine wpAny_execs_cons (law_head KA KL Z fun h2 chk wld s1 sub Md T1 => ?_)
 refine o_xxx ((Md.law 0).all) fun mk mw mr F => ?_
 refine o_xa due_run fun ρ' hrun hk => ?_
 refine execs_append _ _ env (((sound F 90).2.1 90 (Nat.le_refl _)).sts regionD _ _ hrun A env lawNames s1 (lawB env h2) [] _ _ (by rw [Z.sc]; exact due_okSt) (T1.less (by decide)) fun fl s2 F1 F2 U2 S2 => ?_)
 cases F1
 have T2 := T1.next F2 U2 S2
 refine wpAny_execs_cons (law_reel Md Z.sc hk T2 fun R s3 hB X3 => ?_)
 refine wpAny_execs_cons (law_loop (Md.law R) rfl hB Z.sc all X3 fun s4 X4 _ => ?_)
 refine wpAny_execs_cons (wpAny_Return_some (wpAny_Constant_bool ?_))
 have st := X4.at_.cond.stays
 refine fin s4 (fun b o e => st.base _ _ (sub _ _ e)) st.og fun l hl => ?_
 refine o_xa (st.lam l.2 (List.mem_map.mpr ⟨l, hl, rfl⟩)) fun ps q _ => ?_
 exact ⟨ps, q⟩
end
end
section
open PySem PySem.W PySem.SeqAt
open PyProof.Rows (Fr News IntsAre envOfC)
noncomputable def lawCells (L : Addr) : List (Str × Addr) := [(Str.ofString "right", L + 1 + 1 + 1 + 1), (Str.ofString "op", L + 1 + 1 + 1), (Str.ofString "left", L + 1 + 1), (Str.ofString "checker", L + 1)]
theorem law_cells (L : Addr) : cellsFrom (L + 1) lawSc [] = lawCells L := by kernel_rfl
theorem start_of {K : Frag} {w : World} {H0 : Heap} {mg mb m : Str → Option Value} {L fa sc : Addr} {scope : Scope} {s : Shared} {o1 o2 o3 o4 : Obj} {vs : List Value} {ns : List Int} (X : K.In H0) (g : H0.Ns mainGlobals mg) (b : H0.Ns builtinsNs mb) (lim : H0.NoLimit) (blt : ∀ x : Str, x ≠ "__name__" → mb x = bootBuiltins x)
  (bm : ∃ bm ob, mg "__builtins__" = some (.ref bm) ∧ bm ≠ builtinsNs ∧ H0.get? bm = some ob ∧ ob.cls = .type "module" ∧ ob.dict = some builtinsNs ∧ ob.data = .plain) (seer : H0.NoSeer) (n1 : H0.get? 515 = none) (n2 : H0.get? 898 = none) (c1 : CodeHd H0 519 515) (c2 : CodeHd H0 902 898)
  (F : Fr H0 L s.heap m) (hm : m scriptS = some (.ref sc)) (N : News H0 L s.heap [(L + 1 + 1 + 1 + 1, o4), (L + 1 + 1 + 1, o3), (L + 1 + 1, o2), (L + 1, o1), (515, tabObj #[]), (898, tabObj #[])]) (d4 : ∃ v, o4.data = .cell v) (d3 : ∃ v, o3.data = .cell v) (d2 : ∃ v, o2.data = .cell v) (d1 : ∃ v, o1.data = .cell v)
  (hsc : scope.names = lawSc) (hk : scope.kind = .function) (lst : H0.IsList sc vs.toArray) (hI : IntsAre vs ns) (hz : ns.length < 4096) :
  Start K w H0 mg mb (callerA.deeper (envOfC (Str.ofString "law") scope L fa (.ref 902))) (envOfC (Str.ofString "law") scope L fa (.ref 902)) s sc := by
 have hcl : (envOfC (Str.ofString "law") scope L fa (.ref 902)).cells = lawCells L := by show cellsFrom (L + 1) scope.names [] = _; rw [hsc]; exact law_cells L
 have mem : ∀ x c, (envOfC (Str.ofString "law") scope L fa (.ref 902)).cells.lookup x = some c → (x, c) ∈ lawCells L := fun x c e => by rw [hcl] at e; exact mem_of_lookup e
 have cell : ∀ {c : Addr} {o : Obj}, (c, o) ∈ [(L + 1 + 1 + 1 + 1, o4), (L + 1 + 1 + 1, o3), (L + 1 + 1, o2), (L + 1, o1), (515, tabObj #[]), (898, tabObj #[])] → (∃ v, o.data = .cell v) → (∃ v, s.heap.IsCell c v) ∧ H0.get? c = none := fun {c o} h ⟨v, hd⟩ => let ⟨e1, _, e3⟩ := N _ h; ⟨⟨v, o, e1, hd⟩, e3⟩
 have hlen : vs.length = ns.length := by
  clear lst
  induction hI with
  | nil => rfl
  | cons n t r ih => exact congrArg (· + 1) (ih (by have : _ + 1 < 4096 := hz; (exact Nat.le_of_lt ‹_›)))
 refine ⟨⟨X, g, b, lim, blt, fun l hl => ?_, fun l hl => ?_, fun l hl => ?_, seer⟩, F.keep, hsc, hk, rfl, rfl, rfl, rfl, rfl, ⟨m, F.ns, hm⟩, ⟨vs, lst, by (simp +arith only [*]), fun v hv => ?_⟩, ?_, fun x c e => ?_, fun x e => ?_, fun x y c e1 e2 => ?_, fun l hl => ?_, rfl, by show 1 + claimMargin + 1 ≤ 310; decide, by show 4 + 3 ≤ 20; decide, rfl⟩
 ·rcases lamTabs_P hl with q | q <;> rw [q] <;> assumption
 ·rcases List.mem_cons.mp hl with q | q
  ·rw [q]; exact c1
  ·rcases List.mem_cons.mp q with q | q
   ·rw [q]; exact c2
   ·cases q
 ·refine o_xxaaaaa bm fun a ob e1 e2 e3 e4 e5 e6 => ?_
  clear bm
  refine ⟨a, ob, e1, e2, fun q => ?_, fun q => ?_, e3, e4, e5, e6⟩
  ·refine o_xxxaa g fun o es ep ho hd _ => ?_
   clear g
   rw [← q, e3] at ho
   obtain rfl := si ho
   rw [e6] at hd
   injection hd
  ·rcases lamTabs_P hl with z | z <;> rw [q, z] at e3
   ·rw [n1] at e3; exact nn e3
   ·rw [n2] at e3; exact nn e3
 ·induction hI using PyProof.Rows.IntsAre.casesOn with
  | nil => exact nn hv
  | cons n t r => exact ⟨n, t, (Option.some.inj hv).symm⟩
 ·exact Heap.get?_none_of_le F.above
 ·have := mem x c e
  simp only [lawCells, List.mem_cons, Prod.mk.injEq, List.not_mem_nil, or_false] at this
  rcases this with ⟨_, rfl⟩ | ⟨_, rfl⟩ | ⟨_, rfl⟩ | ⟨_, rfl⟩
  ·exact cell (.head _) d4
  ·exact cell (.tail _ (.head _)) d3
  ·exact cell (.tail _ (.tail _ (.head _))) d2
  ·exact cell (.tail _ (.tail _ (.tail _ (.head _)))) d1
 ·exact Option.isSome_iff_exists.mp (cells_has _ _ _ (lookup_mem e))
 ·have p : (lawCells L).Pairwise fun x y => x.2 ≠ y.2 := by
   have a : ∀ n : Nat, ¬ n + 1 + 1 = n := fun n => by (simp_all +arith)
   have b : ∀ n : Nat, ¬ n + 1 + 1 + 1 = n := fun n => by (simp_all +arith)
   simp [lawCells]
   exact ⟨⟨a L, b L⟩, a L⟩
  exact name_of_addr p (mem x c e1) (mem y c e2)
 ·rcases lamTabs_P hl with q | q <;> rw [q]
  ·exact (N (515, tabObj #[]) (by simp)).1
  ·exact (N (898, tabObj #[]) (by simp)).1
theorem seer_ghost {h : Heap} {tabs : List (Addr × Addr)} (hT : TabsAt tabs h) (x : h.NoSeer) : (ghostOf h tabs).NoSeer where
 statics := let ⟨mc, a, b⟩ := x.statics; ⟨mc, ghost_ns hT a, b⟩
 mods := let ⟨mc, a, b⟩ := x.mods; ⟨mc, ghost_ns hT a, b⟩
 imp := let ⟨mc, a, b⟩ := x.imp; ⟨mc, ghost_ns hT a, b⟩
 main := let ⟨mg, bm, ob, a, b, c, d, e⟩ := x.main; ⟨mg, bm, ob, ghost_ns hT a, b, ghost_get hT c (fun q => by rw [q] at d; injection d), d, e⟩
theorem law_good {K : Frag} {prog : Program} {w : World} {H0 : Heap} {mg mb : Str → Option Value} {A : Around} {env : Env} {s s₁ : Shared} {sc : Addr} {E : Value → Shared → Prop} {c : ClaimW} {cl : Str → Option Addr} {mean : ExcName → Option Value} {args : List WData} (KA : KAll K w) (KL : KLaw K) (all : AllOk) (Z : Start K w H0 mg mb A env s sc)
  (hH : s₁.heap = H0) (hg : s.gens = #[]) (ho : s.os = s₁.os) (hn : ∀ cls, c.raises args cls = false) (hp : c.post args (.bool true) args = true) :
  wpAny (model prog w) A (execs lawS env) (fun f s' => GoodW c cl mean args s₁ (.ok (.ret (match f with | .ret v => v | _ => .none))) s' ∧ GrownAll [(519, 515), (902, 898)] s'.heap) E s := by
 refine law_body KA KL Z all fun s' k o t => ⟨⟨.inl ⟨.bool true, .bool true, [], rfl, hn, .bool true, hp, fun _ => ⟨List.nodup_nil, fun a ha => by cases ha⟩⟩, by rw [hH]; exact k, ?_, ?_⟩, ?_⟩
 ·rw [← ho]; exact congrArg Prod.fst o
 ·rw [← hg]; exact congrArg Prod.snd o
 ·exact ⟨t _ (.head _), t _ (.tail _ (.head _)), trivial⟩
end
section
open PySem PySem.W PySem.SeqAt
noncomputable def ck (a b : Dat) (i : Nat) : Bool := (lstOf 2 b).all fun r => opsD.all fun op => turnOk 90 a b (nth (lstOf 1 a) i) r op
noncomputable def Cks (a b : Dat) (n : Nat) : Prop := ∀ i, i < n → ck a b i = true
theorem cks0 {a b : Dat} : Cks a b 0 := fun i h => absurd h (Nat.not_lt_zero i)
theorem cks {a b : Dat} {n : Nat} (k : Cks a b n) (h : ck a b n = true) : Cks a b (n + 1) := fun i hi => by
 rcases Nat.lt_succ_iff_lt_or_eq.mp hi with q | q
 ·exact k i q
 ·rw [q]; exact h
theorem nth_mem {l : List Dat} {d : Dat} (h : d ∈ l) : ∃ i, i < l.length ∧ nth l i = d := by
 obtain ⟨i, hi, e⟩ := List.mem_iff_getElem.mp h
 exact ⟨i, hi, nth_of_get (by rw [List.getElem?_eq_getElem hi, e])⟩
theorem cks_all {a b : Dat} {n : Nat} (k : Cks a b n) (hn : (lstOf 1 a).length = n) : ∀ l ∈ lstOf 1 a, ∀ r ∈ lstOf 2 b, ∀ op ∈ opsD, turnOk 90 a b l r op = true := fun l hl r hr op ho => by
 obtain ⟨i, hi, e⟩ := nth_mem hl
 have := List.all_eq_true.mp (List.all_eq_true.mp (k i (hn ▸ hi)) r hr) op ho
 rw [e] at this
 exact this
theorem ck000 : ck (S "number") (S "number") 0 = true := by kernel_rfl
theorem ck001 : ck (S "number") (S "number") 1 = true := by kernel_rfl
theorem ck002 : ck (S "number") (S "number") 2 = true := by kernel_rfl
theorem ck003 : ck (S "number") (S "number") 3 = true := by kernel_rfl
theorem ck004 : ck (S "number") (S "number") 4 = true := by kernel_rfl
theorem ck005 : ck (S "number") (S "number") 5 = true := by kernel_rfl
theorem ck006 : ck (S "number") (S "number") 6 = true := by kernel_rfl
theorem ck007 : ck (S "number") (S "number") 7 = true := by kernel_rfl
theorem cks00 : Cks (S "number") (S "number") 8 := cks (cks (cks (cks (cks (cks (cks (cks cks0 ck000) ck001) ck002) ck003) ck004) ck005) ck006) ck007
theorem ck020 : ck (S "number") (S "text") 0 = true := by kernel_rfl
theorem ck021 : ck (S "number") (S "text") 1 = true := by kernel_rfl
theorem ck022 : ck (S "number") (S "text") 2 = true := by kernel_rfl
theorem ck023 : ck (S "number") (S "text") 3 = true := by kernel_rfl
theorem ck024 : ck (S "number") (S "text") 4 = true := by kernel_rfl
theorem ck025 : ck (S "number") (S "text") 5 = true := by kernel_rfl
theorem ck026 : ck (S "number") (S "text") 6 = true := by kernel_rfl
theorem ck027 : ck (S "number") (S "text") 7 = true := by kernel_rfl
theorem cks02 : Cks (S "number") (S "text") 8 := cks (cks (cks (cks (cks (cks (cks (cks cks0 ck020) ck021) ck022) ck023) ck024) ck025) ck026) ck027
theorem ck110 : ck (S "truth") (S "truth") 0 = true := by kernel_rfl
theorem ck111 : ck (S "truth") (S "truth") 1 = true := by kernel_rfl
theorem ck112 : ck (S "truth") (S "truth") 2 = true := by kernel_rfl
theorem ck113 : ck (S "truth") (S "truth") 3 = true := by kernel_rfl
theorem cks11 : Cks (S "truth") (S "truth") 4 := cks (cks (cks (cks cks0 ck110) ck111) ck112) ck113
theorem ck100 : ck (S "truth") (S "number") 0 = true := by kernel_rfl
theorem ck101 : ck (S "truth") (S "number") 1 = true := by kernel_rfl
theorem ck102 : ck (S "truth") (S "number") 2 = true := by kernel_rfl
theorem ck103 : ck (S "truth") (S "number") 3 = true := by kernel_rfl
theorem cks10 : Cks (S "truth") (S "number") 4 := cks (cks (cks (cks cks0 ck100) ck101) ck102) ck103
theorem ck120 : ck (S "truth") (S "text") 0 = true := by kernel_rfl
theorem ck121 : ck (S "truth") (S "text") 1 = true := by kernel_rfl
theorem ck122 : ck (S "truth") (S "text") 2 = true := by kernel_rfl
theorem ck123 : ck (S "truth") (S "text") 3 = true := by kernel_rfl
theorem cks12 : Cks (S "truth") (S "text") 4 := cks (cks (cks (cks cks0 ck120) ck121) ck122) ck123
theorem ck220 : ck (S "text") (S "text") 0 = true := by kernel_rfl
theorem ck221 : ck (S "text") (S "text") 1 = true := by kernel_rfl
theorem ck222 : ck (S "text") (S "text") 2 = true := by kernel_rfl
theorem cks22 : Cks (S "text") (S "text") 3 := cks (cks (cks cks0 ck220) ck221) ck222
theorem ck200 : ck (S "text") (S "number") 0 = true := by kernel_rfl
theorem ck201 : ck (S "text") (S "number") 1 = true := by kernel_rfl
theorem ck202 : ck (S "text") (S "number") 2 = true := by kernel_rfl
theorem cks20 : Cks (S "text") (S "number") 3 := cks (cks (cks cks0 ck200) ck201) ck202
theorem ck330 : ck (S "ptr") (S "ptr") 0 = true := by kernel_rfl
theorem ck331 : ck (S "ptr") (S "ptr") 1 = true := by kernel_rfl
theorem cks33 : Cks (S "ptr") (S "ptr") 2 := cks (cks cks0 ck330) ck331
theorem ck300 : ck (S "ptr") (S "number") 0 = true := by kernel_rfl
theorem ck301 : ck (S "ptr") (S "number") 1 = true := by kernel_rfl
theorem cks30 : Cks (S "ptr") (S "number") 2 := cks (cks cks0 ck300) ck301
theorem ck320 : ck (S "ptr") (S "text") 0 = true := by kernel_rfl
theorem ck321 : ck (S "ptr") (S "text") 1 = true := by kernel_rfl
theorem cks32 : Cks (S "ptr") (S "text") 2 := cks (cks cks0 ck320) ck321
theorem all_ok : AllOk := by
 intro a ha
 have ha := sorts6_mem ha
 simp only [sortsKs, List.mem_cons, List.not_mem_nil, or_false] at ha
 intro b hb
 simp only [sorts6', List.mem_cons, List.not_mem_nil, or_false] at hb
 rcases ha with rfl | rfl | rfl | rfl
 ·rcases hb with rfl | rfl | rfl | rfl | rfl | rfl
  ·exact cks_all cks00 (by kernel_rfl)
  ·exact cks_all cks00 (by kernel_rfl)
  ·exact cks_all cks00 (by kernel_rfl)
  ·exact cks_all cks00 (by kernel_rfl)
  ·exact cks_all cks00 (by kernel_rfl)
  ·exact cks_all cks02 (by kernel_rfl)
 ·rcases hb with rfl | rfl | rfl | rfl | rfl | rfl
  ·exact cks_all cks11 (by kernel_rfl)
  ·exact cks_all cks11 (by kernel_rfl)
  ·exact cks_all cks11 (by kernel_rfl)
  ·exact cks_all cks11 (by kernel_rfl)
  ·exact cks_all cks10 (by kernel_rfl)
  ·exact cks_all cks12 (by kernel_rfl)
 ·rcases hb with rfl | rfl | rfl | rfl | rfl | rfl
  ·exact cks_all cks22 (by kernel_rfl)
  ·exact cks_all cks22 (by kernel_rfl)
  ·exact cks_all cks22 (by kernel_rfl)
  ·exact cks_all cks22 (by kernel_rfl)
  ·exact cks_all cks20 (by kernel_rfl)
  ·exact cks_all cks22 (by kernel_rfl)
 ·rcases hb with rfl | rfl | rfl | rfl | rfl | rfl
  ·exact cks_all cks33 (by kernel_rfl)
  ·exact cks_all cks33 (by kernel_rfl)
  ·exact cks_all cks33 (by kernel_rfl)
  ·exact cks_all cks33 (by kernel_rfl)
  ·exact cks_all cks30 (by kernel_rfl)
  ·exact cks_all cks32 (by kernel_rfl)
end
end Mine
end
end
set_option linter.all false
namespace Mine.final
theorem tw16706670001697850382:True:=⟨⟩
theorem tw1036930978727434209:True:=⟨⟩
theorem tw967848725658768478:True:=⟨⟩
theorem tw8476008249709141865:True:=⟨⟩
theorem tw6904633604556987386:True:=⟨⟩
theorem tw16105496806081707871:True:=⟨⟩
theorem tw9984107375472712435:True:=⟨⟩
theorem tw16224197975931463073:True:=⟨⟩
theorem tw10893303631421329925:True:=⟨⟩
theorem tw5423927856121734281:True:=⟨⟩
theorem tw1655197616534332140:True:=⟨⟩
theorem tw3467790887625295296:True:=⟨⟩
theorem tw17622866268839125543:True:=⟨⟩
theorem tw7773009285698476586:True:=⟨⟩
theorem tw3528202801280734635:True:=⟨⟩
theorem tw13567295368986602323:True:=⟨⟩
theorem tw10391040095091044920:True:=⟨⟩
theorem tw4377091710405515449:True:=⟨⟩
theorem tw10302953808379828206:True:=⟨⟩
theorem tw16970261199983076923:True:=⟨⟩
theorem tw10508038922420909745:True:=⟨⟩
theorem tw4980668132032380492:True:=⟨⟩
theorem tw12950634478815041438:True:=⟨⟩
theorem tw4419666161607146520:True:=⟨⟩
theorem tw5880658404268043043:True:=⟨⟩
theorem tw1767766388356978940:True:=⟨⟩
theorem tw2012015523013012186:True:=⟨⟩
theorem tw2468386496703881812:True:=⟨⟩
theorem tw4896355115421412953:True:=⟨⟩
theorem tw17930503770982221751:True:=⟨⟩
theorem tw3373370777409356710:True:=⟨⟩
theorem tw3583155459214761971:True:=⟨⟩
theorem tw16136689653373669445:True:=⟨⟩
theorem tw18425918669502787056:True:=⟨⟩
theorem tw4850419165919200634:True:=⟨⟩
theorem tw549768882561414696:True:=⟨⟩
theorem tw524186510543857213:True:=⟨⟩
theorem tw4773969913581578258:True:=⟨⟩
theorem tw15685469453080013526:True:=⟨⟩
theorem tw9267155178516959421:True:=⟨⟩
theorem tw17944801503614865249:True:=⟨⟩
theorem tw9039165955645743651:True:=⟨⟩
theorem tw12267763009155863162:True:=⟨⟩
theorem tw8319050746316397518:True:=⟨⟩
theorem tw4336732855017753825:True:=⟨⟩
theorem tw7042804238800614852:True:=⟨⟩
theorem tw17016280140038784127:True:=⟨⟩
theorem tw3233455987671080525:True:=⟨⟩
theorem tw10112854125303840436:True:=⟨⟩
theorem tw4233563099671912912:True:=⟨⟩
theorem tw2554477461950841771:True:=⟨⟩
theorem tw8595732399843530982:True:=⟨⟩
theorem tw3477953164056872788:True:=⟨⟩
theorem tw6126973405997381142:True:=⟨⟩
theorem tw4260570378348086884:True:=⟨⟩
theorem tw1907219575792963588:True:=⟨⟩
theorem tw16044562812074386166:True:=⟨⟩
theorem tw3868181183794768121:True:=⟨⟩
theorem tw768287674293086642:True:=⟨⟩
theorem tw8640241798818709816:True:=⟨⟩
theorem tw18263178374938755917:True:=⟨⟩
theorem tw15048353312031890575:True:=⟨⟩
theorem tw8956541503333826556:True:=⟨⟩
theorem tw1568586614941139152:True:=⟨⟩
theorem tw2882951695889079411:True:=⟨⟩
theorem tw16505741040005749607:True:=⟨⟩
theorem tw11659793539358505850:True:=⟨⟩
theorem tw13339387545750698254:True:=⟨⟩
theorem tw15335980646773583914:True:=⟨⟩
theorem tw6603416985259125135:True:=⟨⟩
theorem tw17402489212504556138:True:=⟨⟩
theorem tw14187467039090886567:True:=⟨⟩
theorem tw13265213504662966667:True:=⟨⟩
theorem tw15749131273807778147:True:=⟨⟩
theorem tw4011487493638068862:True:=⟨⟩
theorem tw1038622422826012469:True:=⟨⟩
theorem tw431324274429501512:True:=⟨⟩
theorem tw13572918437115471169:True:=⟨⟩
theorem tw1522779713835684439:True:=⟨⟩
theorem tw6395914871137024564:True:=⟨⟩
theorem tw18321726885412430987:True:=⟨⟩
theorem tw15187053024510714485:True:=⟨⟩
theorem tw8664426482510907556:True:=⟨⟩
theorem tw2705244643275445994:True:=⟨⟩
theorem tw11055820713961663712:True:=⟨⟩
theorem tw2167434960708656226:True:=⟨⟩
theorem tw2042380802555372377:True:=⟨⟩
theorem tw4978577268980519545:True:=⟨⟩
theorem tw13049720855394113441:True:=⟨⟩
theorem tw10861029094394459488:True:=⟨⟩
theorem tw504096057067478995:True:=⟨⟩
theorem tw15689612197081504215:True:=⟨⟩
theorem tw5276009768488258565:True:=⟨⟩
theorem tw5560218833007698151:True:=⟨⟩
theorem tw17603491640193073671:True:=⟨⟩
theorem tw7121461170854506682:True:=⟨⟩
theorem tw18445564810647810139:True:=⟨⟩
theorem tw9917122500143052015:True:=⟨⟩
theorem tw6028682145041479106:True:=⟨⟩
theorem tw15530702527139257509:True:=⟨⟩
theorem tw10560740330725712883:True:=⟨⟩
theorem tw2674754084251863373:True:=⟨⟩
theorem tw954828845405437352:True:=⟨⟩
theorem tw2321079126958112427:True:=⟨⟩
theorem tw7440157692067459133:True:=⟨⟩
theorem tw8379826718447848689:True:=⟨⟩
theorem tw9323295915950350609:True:=⟨⟩
theorem tw2149918363426570505:True:=⟨⟩
theorem tw7829837928398174920:True:=⟨⟩
theorem tw17803981208475232141:True:=⟨⟩
theorem tw16612968740773519614:True:=⟨⟩
theorem tw10739025211186937069:True:=⟨⟩
theorem tw14424997594739748307:True:=⟨⟩
theorem tw9803920080950627584:True:=⟨⟩
theorem tw7091158148372881714:True:=⟨⟩
theorem tw4970647661392041927:True:=⟨⟩
theorem tw2672478281966032744:True:=⟨⟩
theorem tw8762036396747011047:True:=⟨⟩
theorem tw12900595733005133062:True:=⟨⟩
theorem tw12054920791875461930:True:=⟨⟩
theorem tw11454308670320448749:True:=⟨⟩
theorem tw540905259263927105:True:=⟨⟩
theorem tw15910529876821992365:True:=⟨⟩
theorem tw15302220452908617376:True:=⟨⟩
theorem tw5115272948080582075:True:=⟨⟩
theorem tw1023977753357071421:True:=⟨⟩
theorem tw1323907996379488894:True:=⟨⟩
theorem tw9619521827990560970:True:=⟨⟩
theorem tw8071382900924043592:True:=⟨⟩
theorem tw14595197838417933575:True:=⟨⟩
theorem tw15367180931187552503:True:=⟨⟩
theorem tw2191329549946351115:True:=⟨⟩
theorem tw6771585750997033112:True:=⟨⟩
theorem tw13743964422395864366:True:=⟨⟩
theorem tw6995599554730703397:True:=⟨⟩
theorem tw4611890594408092775:True:=⟨⟩
theorem tw3634377893498413333:True:=⟨⟩
theorem tw9213718477803731888:True:=⟨⟩
theorem tw5117254061783847119:True:=⟨⟩
theorem tw13028011595235079249:True:=⟨⟩
theorem tw5420407697748589269:True:=⟨⟩
theorem tw3925039905068282176:True:=⟨⟩
theorem tw16708368369666210667:True:=⟨⟩
theorem tw10815434769854636908:True:=⟨⟩
theorem tw7711765370386156740:True:=⟨⟩
theorem tw4347894081283466992:True:=⟨⟩
theorem tw13018764859894538689:True:=⟨⟩
theorem tw11109731294940526365:True:=⟨⟩
theorem tw6485163396411361998:True:=⟨⟩
theorem tw17906251651433466956:True:=⟨⟩
theorem tw18171931540448481011:True:=⟨⟩
theorem tw15236406610050182710:True:=⟨⟩
theorem tw305392142758549388:True:=⟨⟩
theorem tw6537598771212565981:True:=⟨⟩
theorem tw12933409026105978606:True:=⟨⟩
theorem tw18335879558622483116:True:=⟨⟩
theorem tw3936246226047674485:True:=⟨⟩
theorem tw15559697722240240119:True:=⟨⟩
theorem tw10855050123940413320:True:=⟨⟩
theorem tw17582917659403152680:True:=⟨⟩
theorem tw8494221389510286962:True:=⟨⟩
theorem tw9803587145634304780:True:=⟨⟩
theorem tw16540968434458866720:True:=⟨⟩
theorem tw17530486881934591621:True:=⟨⟩
theorem tw1543641582297286357:True:=⟨⟩
theorem tw14885865362977504382:True:=⟨⟩
theorem tw8878108521458482711:True:=⟨⟩
theorem tw13653732453751996453:True:=⟨⟩
theorem tw1990043790559246027:True:=⟨⟩
theorem tw7521529732563534489:True:=⟨⟩
theorem tw9916442776834923877:True:=⟨⟩
theorem tw10198918189601624818:True:=⟨⟩
theorem tw17951112728021898439:True:=⟨⟩
theorem tw14518397908296611602:True:=⟨⟩
theorem tw807308427763349152:True:=⟨⟩
theorem tw13665693801982328571:True:=⟨⟩
theorem tw8203154284121062503:True:=⟨⟩
theorem tw1457224253908937477:True:=⟨⟩
theorem tw6902782547640087715:True:=⟨⟩
theorem tw15103127520498855259:True:=⟨⟩
theorem tw11402949206555977163:True:=⟨⟩
theorem tw16208415720716193051:True:=⟨⟩
theorem tw17342463505176287074:True:=⟨⟩
theorem tw17695140317198724966:True:=⟨⟩
theorem tw320977072341628269:True:=⟨⟩
theorem tw12752902620569230207:True:=⟨⟩
theorem tw7731510019527885884:True:=⟨⟩
theorem tw9941049382910627851:True:=⟨⟩
theorem tw3018377163525281632:True:=⟨⟩
theorem tw8385947636691801988:True:=⟨⟩
theorem tw6109497399042551056:True:=⟨⟩
theorem tw3619555724634058376:True:=⟨⟩
theorem tw5709511036914207694:True:=⟨⟩
theorem tw8658419982449086391:True:=⟨⟩
theorem tw3880914865133376805:True:=⟨⟩
theorem tw15478524029362250157:True:=⟨⟩
theorem tw8327256584982198893:True:=⟨⟩
theorem tw13983057965684439315:True:=⟨⟩
theorem tw18415945428865440635:True:=⟨⟩
theorem tw13643831960144257518:True:=⟨⟩
theorem tw6310168104245602047:True:=⟨⟩
theorem tw6192791758537642759:True:=⟨⟩
theorem tw1068451924353085083:True:=⟨⟩
theorem tw13971017806962626768:True:=⟨⟩
theorem tw968365055315499810:True:=⟨⟩
theorem tw7949179710992088183:True:=⟨⟩
theorem tw17720585068049885484:True:=⟨⟩
theorem tw6324202683138403637:True:=⟨⟩
theorem tw11706873253646340512:True:=⟨⟩
theorem tw2712558364757893831:True:=⟨⟩
theorem tw10818210196121886405:True:=⟨⟩
theorem tw15126949523030102369:True:=⟨⟩
theorem tw5886658202560417941:True:=⟨⟩
theorem tw1562689990130698570:True:=⟨⟩
theorem tw2780607334213947381:True:=⟨⟩
theorem tw17137629340255357077:True:=⟨⟩
theorem tw11304617709705870312:True:=⟨⟩
theorem tw12813686065312059881:True:=⟨⟩
theorem tw9786854753023996123:True:=⟨⟩
theorem tw1043442410718772437:True:=⟨⟩
theorem tw18341050448917833586:True:=⟨⟩
theorem tw5331493071257195689:True:=⟨⟩
theorem tw5888778647585363276:True:=⟨⟩
theorem tw14674384972403191000:True:=⟨⟩
theorem tw12433093636904741535:True:=⟨⟩
theorem tw17466797589350815985:True:=⟨⟩
theorem tw4979452831251284307:True:=⟨⟩
theorem tw4852174108514119891:True:=⟨⟩
theorem tw9851170292117515847:True:=⟨⟩
theorem tw11572573174677061606:True:=⟨⟩
theorem tw3154540833328947964:True:=⟨⟩
theorem tw10527645175286287917:True:=⟨⟩
theorem tw4312115456105261190:True:=⟨⟩
theorem tw2927459612573970097:True:=⟨⟩
theorem tw11277681200405515555:True:=⟨⟩
theorem tw8620763348558937531:True:=⟨⟩
theorem tw6400821650403597412:True:=⟨⟩
theorem tw12515764300223037709:True:=⟨⟩
theorem tw14688711452592111847:True:=⟨⟩
theorem tw4812618328182311497:True:=⟨⟩
theorem tw5643265835826458355:True:=⟨⟩
theorem tw6828382944529106744:True:=⟨⟩
theorem tw4330976905765534881:True:=⟨⟩
theorem tw12274852248375820247:True:=⟨⟩
theorem tw14537553313121927062:True:=⟨⟩
theorem tw14699084472952716121:True:=⟨⟩
theorem tw17670737959054164610:True:=⟨⟩
theorem tw5415015098129623477:True:=⟨⟩
theorem tw10031195458945160421:True:=⟨⟩
theorem tw15245276089288008466:True:=⟨⟩
theorem tw13079481862374697628:True:=⟨⟩
theorem tw5763673380221481676:True:=⟨⟩
theorem tw8607159386409264402:True:=⟨⟩
theorem tw17906028113116754618:True:=⟨⟩
theorem tw18132660915919845555:True:=⟨⟩
theorem tw2452859651255092558:True:=⟨⟩
theorem tw6687585294528795790:True:=⟨⟩
theorem tw18018635222626715140:True:=⟨⟩
theorem tw16213496923453673951:True:=⟨⟩
theorem tw4109722208564575693:True:=⟨⟩
theorem tw16599080878393582136:True:=⟨⟩
theorem tw11512294310007847537:True:=⟨⟩
theorem tw11154759196510255760:True:=⟨⟩
theorem tw11099217212953056424:True:=⟨⟩
theorem tw11720821567924056377:True:=⟨⟩
theorem tw3676227518898338262:True:=⟨⟩
theorem tw4392824868884988732:True:=⟨⟩
theorem tw10986942860421352712:True:=⟨⟩
theorem tw11903725700678667187:True:=⟨⟩
theorem tw171287807097243092:True:=⟨⟩
theorem tw16679888110286342271:True:=⟨⟩
theorem tw1172413008298942218:True:=⟨⟩
theorem tw12671059682465665707:True:=⟨⟩
theorem tw12316347057138808726:True:=⟨⟩
theorem tw14594861586625061995:True:=⟨⟩
theorem tw4002886519732478761:True:=⟨⟩
theorem tw17253198804697667240:True:=⟨⟩
theorem tw11462666252361248665:True:=⟨⟩
theorem tw14071248049736622896:True:=⟨⟩
theorem tw9882258787165780406:True:=⟨⟩
theorem tw12094206562244270673:True:=⟨⟩
theorem tw4142987303094263458:True:=⟨⟩
theorem tw6807297751953959065:True:=⟨⟩
theorem tw13857804448480679120:True:=⟨⟩
theorem tw14983028593114963129:True:=⟨⟩
theorem tw18117750947301908491:True:=⟨⟩
theorem tw8716337728970934019:True:=⟨⟩
theorem tw10718386975483242087:True:=⟨⟩
theorem tw16579552270256177249:True:=⟨⟩
theorem tw18100262974385399674:True:=⟨⟩
theorem tw12852182725542459066:True:=⟨⟩
theorem tw15028318858351353704:True:=⟨⟩
theorem tw15080971510701918577:True:=⟨⟩
theorem tw13070091137009082169:True:=⟨⟩
theorem tw13054223058342641115:True:=⟨⟩
theorem tw17550402789767053229:True:=⟨⟩
theorem tw10663948502421397011:True:=⟨⟩
theorem tw6023427397408663799:True:=⟨⟩
theorem tw16058654645877152194:True:=⟨⟩
theorem tw8335345555407405821:True:=⟨⟩
theorem tw888145109537212389:True:=⟨⟩
theorem tw6470143634502898520:True:=⟨⟩
theorem tw13596604481187986343:True:=⟨⟩
theorem tw12787673743913026722:True:=⟨⟩
theorem tw11325154202677198750:True:=⟨⟩
theorem tw15626734571503195110:True:=⟨⟩
theorem tw14369274526029622295:True:=⟨⟩
theorem tw7946875952208216686:True:=⟨⟩
theorem tw4689378356768041090:True:=⟨⟩
theorem tw1940934345074075181:True:=⟨⟩
theorem tw6915729489893552298:True:=⟨⟩
theorem tw9983129932683646242:True:=⟨⟩
theorem tw1329960898435082621:True:=⟨⟩
theorem tw6408627558038916697:True:=⟨⟩
theorem tw5030479570813374626:True:=⟨⟩
theorem tw13394117218039322082:True:=⟨⟩
theorem tw10215562686513343379:True:=⟨⟩
theorem tw6638249740952437971:True:=⟨⟩
theorem tw2733928711496653908:True:=⟨⟩
theorem tw9885169743852063000:True:=⟨⟩
theorem tw5194651091858292416:True:=⟨⟩
theorem tw13439053634052783255:True:=⟨⟩
theorem tw604259592467036408:True:=⟨⟩
theorem tw9587007058946260897:True:=⟨⟩
theorem tw12857474060036348902:True:=⟨⟩
theorem tw5288782266098877138:True:=⟨⟩
theorem tw14476525473978586552:True:=⟨⟩
theorem tw5513875924864653303:True:=⟨⟩
theorem tw17709472373720429246:True:=⟨⟩
theorem tw15548885372391754241:True:=⟨⟩
theorem tw11065720953403699026:True:=⟨⟩
theorem tw3566608386853725925:True:=⟨⟩
theorem tw8568633749400116076:True:=⟨⟩
theorem tw8437799617395678665:True:=⟨⟩
theorem tw5753829924320200229:True:=⟨⟩
theorem tw201284711899435429:True:=⟨⟩
theorem tw6925224339659894616:True:=⟨⟩
theorem tw10091442509036489947:True:=⟨⟩
theorem tw5558928962028114978:True:=⟨⟩
theorem tw7484793527761559997:True:=⟨⟩
theorem tw7404238278362844513:True:=⟨⟩
theorem tw13510057210607505867:True:=⟨⟩
theorem tw14923001549059771250:True:=⟨⟩
theorem tw12770567354608641599:True:=⟨⟩
theorem tw5002704269191557300:True:=⟨⟩
theorem tw6611186642533864005:True:=⟨⟩
theorem tw7436292968995736572:True:=⟨⟩
theorem tw15890681829448650815:True:=⟨⟩
theorem tw15892289957399678686:True:=⟨⟩
theorem tw13865372829281924981:True:=⟨⟩
theorem tw15685204099699473437:True:=⟨⟩
theorem tw11033137608008753252:True:=⟨⟩
theorem tw6141204725952769983:True:=⟨⟩
theorem tw711753044238566856:True:=⟨⟩
theorem tw6255973331637653875:True:=⟨⟩
theorem tw16787370370302139407:True:=⟨⟩
theorem tw3648285242281479466:True:=⟨⟩
theorem tw15145089828717093569:True:=⟨⟩
theorem tw12237680696379999495:True:=⟨⟩
theorem tw3747968469854975610:True:=⟨⟩
theorem tw17901554314227848745:True:=⟨⟩
theorem tw16935392369248617753:True:=⟨⟩
theorem tw17469831906820271125:True:=⟨⟩
theorem tw9027451854550268119:True:=⟨⟩
theorem tw2278869436014190579:True:=⟨⟩
theorem tw7421639907970033554:True:=⟨⟩
theorem tw2646681508935698352:True:=⟨⟩
theorem tw10200535332316725957:True:=⟨⟩
theorem tw16600768930087418477:True:=⟨⟩
theorem tw14592424073331965608:True:=⟨⟩
theorem tw13630834664627184572:True:=⟨⟩
theorem tw14533278132898448490:True:=⟨⟩
theorem tw16681803135233890039:True:=⟨⟩
theorem tw3244841047014955517:True:=⟨⟩
theorem tw4896042837131094601:True:=⟨⟩
theorem tw17447932666967288649:True:=⟨⟩
theorem tw7947490175647265672:True:=⟨⟩
theorem tw16674493107115136728:True:=⟨⟩
theorem tw10385341816068491099:True:=⟨⟩
theorem tw11111853263425303166:True:=⟨⟩
theorem tw10042477878066290759:True:=⟨⟩
theorem tw9047847415265903356:True:=⟨⟩
theorem tw15498743456819619291:True:=⟨⟩
theorem tw18210132001212840599:True:=⟨⟩
theorem tw11908802298470853932:True:=⟨⟩
theorem tw11414178733762228282:True:=⟨⟩
theorem tw6495404535843918149:True:=⟨⟩
theorem tw17897890680846628611:True:=⟨⟩
theorem tw3488312210176098797:True:=⟨⟩
theorem tw16636358752302710761:True:=⟨⟩
theorem tw16345452470020161006:True:=⟨⟩
theorem tw2054620920671780340:True:=⟨⟩
theorem tw6851635123980954848:True:=⟨⟩
theorem tw14078706251315611494:True:=⟨⟩
theorem tw13484504971853799172:True:=⟨⟩
theorem tw11176405918655205769:True:=⟨⟩
theorem tw10226857977930361764:True:=⟨⟩
theorem tw9378788683459093620:True:=⟨⟩
theorem tw13198125711504249433:True:=⟨⟩
theorem tw12015204588933193610:True:=⟨⟩
theorem tw2939943605827975321:True:=⟨⟩
theorem tw5458885026635738522:True:=⟨⟩
theorem tw17300981031237212732:True:=⟨⟩
theorem tw5488104550771123751:True:=⟨⟩
theorem tw11890712743417470050:True:=⟨⟩
theorem tw6123123012830427051:True:=⟨⟩
theorem tw16178314630122554319:True:=⟨⟩
theorem tw12065736614108987081:True:=⟨⟩
theorem tw11702953093837033213:True:=⟨⟩
theorem tw12494411158683425589:True:=⟨⟩
theorem tw10135416678418695038:True:=⟨⟩
theorem tw3931464424397808523:True:=⟨⟩
theorem tw11621525241791773345:True:=⟨⟩
theorem tw15111563507395324721:True:=⟨⟩
theorem tw8983094371880723818:True:=⟨⟩
theorem tw14504468305319239816:True:=⟨⟩
theorem tw6304142677640949180:True:=⟨⟩
theorem tw12553632014370418008:True:=⟨⟩
theorem tw16327244982783498995:True:=⟨⟩
theorem tw7288121319669486985:True:=⟨⟩
theorem tw15209343339840471333:True:=⟨⟩
theorem tw8504249788394277908:True:=⟨⟩
theorem tw4388548718641996207:True:=⟨⟩
theorem tw7250161013048257652:True:=⟨⟩
theorem tw4023149660156551754:True:=⟨⟩
theorem tw17385785918144372039:True:=⟨⟩
theorem tw7418138010301858417:True:=⟨⟩
theorem tw1547634603476588811:True:=⟨⟩
theorem tw14132208196262697092:True:=⟨⟩
theorem tw12318481387585133148:True:=⟨⟩
theorem tw2956332391171996519:True:=⟨⟩
theorem tw8525095208462052411:True:=⟨⟩
theorem tw18043354428012282186:True:=⟨⟩
theorem tw167980161625297423:True:=⟨⟩
theorem tw9975196697138163850:True:=⟨⟩
theorem tw12504466222242759415:True:=⟨⟩
theorem tw15463492881473542600:True:=⟨⟩
theorem tw6628137532042735977:True:=⟨⟩
theorem tw5867727669913414804:True:=⟨⟩
theorem tw6588032572039900883:True:=⟨⟩
theorem tw15228884226545671218:True:=⟨⟩
theorem tw702126843905685535:True:=⟨⟩
theorem tw6774310451757050460:True:=⟨⟩
theorem tw1033934193855143035:True:=⟨⟩
theorem tw3651465948642542242:True:=⟨⟩
theorem tw14783993916324718730:True:=⟨⟩
theorem tw13781144077324645375:True:=⟨⟩
theorem tw13626001336722712452:True:=⟨⟩
theorem tw17910834464940264468:True:=⟨⟩
theorem tw12388972978486176875:True:=⟨⟩
theorem tw9164177404319337304:True:=⟨⟩
theorem tw685945308638388284:True:=⟨⟩
theorem tw8277155828335949306:True:=⟨⟩
theorem tw18016225678640273874:True:=⟨⟩
theorem tw3342102113775841517:True:=⟨⟩
theorem tw7804466294446386063:True:=⟨⟩
theorem tw2136437323578154040:True:=⟨⟩
theorem tw6606378570343130875:True:=⟨⟩
theorem tw16007739330086834018:True:=⟨⟩
theorem tw3307739722061211303:True:=⟨⟩
theorem tw17909040707842632718:True:=⟨⟩
theorem tw6575714964538457381:True:=⟨⟩
theorem tw6393073497792709979:True:=⟨⟩
theorem tw326406509992156494:True:=⟨⟩
theorem tw7073346824454676033:True:=⟨⟩
theorem tw12411140988998077859:True:=⟨⟩
theorem tw1073681862050955728:True:=⟨⟩
theorem tw3384860348465029522:True:=⟨⟩
theorem tw4672131035066695583:True:=⟨⟩
theorem tw5436358417647010654:True:=⟨⟩
theorem tw7542923308735110344:True:=⟨⟩
theorem tw16439242745779971670:True:=⟨⟩
theorem tw16949632806036113202:True:=⟨⟩
theorem tw2382707583299530751:True:=⟨⟩
theorem tw13951417757515889837:True:=⟨⟩
theorem tw12530574446223662709:True:=⟨⟩
theorem tw12291847740140454447:True:=⟨⟩
theorem tw12181345595061343083:True:=⟨⟩
theorem tw4218283207341950518:True:=⟨⟩
theorem tw1870604113638288131:True:=⟨⟩
theorem tw4244919357938970323:True:=⟨⟩
theorem tw7211136384413362691:True:=⟨⟩
theorem tw18206413180350993071:True:=⟨⟩
theorem tw14467700707302881680:True:=⟨⟩
theorem tw18008518873155963278:True:=⟨⟩
theorem tw16540662254994635887:True:=⟨⟩
theorem tw13749027915600459861:True:=⟨⟩
theorem tw12031496327692347433:True:=⟨⟩
theorem tw8851945119839480084:True:=⟨⟩
theorem tw5911986397072636141:True:=⟨⟩
theorem tw9765166341050248088:True:=⟨⟩
theorem tw2205337207617418951:True:=⟨⟩
theorem tw8225890397132930583:True:=⟨⟩
theorem tw16276795591827699796:True:=⟨⟩
theorem tw1273827011791007425:True:=⟨⟩
theorem tw10991939308174324994:True:=⟨⟩
theorem tw8196545804004766000:True:=⟨⟩
theorem tw12226372716556667399:True:=⟨⟩
theorem tw9976980276974966553:True:=⟨⟩
theorem tw10865263461131140414:True:=⟨⟩
theorem tw14786647807711527660:True:=⟨⟩
theorem tw17873030957218211813:True:=⟨⟩
theorem tw7511173690161008258:True:=⟨⟩
theorem tw14064300206852897936:True:=⟨⟩
theorem tw12821696043782429898:True:=⟨⟩
theorem tw14846775239822927482:True:=⟨⟩
theorem tw145119177381891334:True:=⟨⟩
theorem tw15043723511891397480:True:=⟨⟩
theorem tw5013757051082992156:True:=⟨⟩
theorem tw11661903567044720909:True:=⟨⟩
theorem tw15491824490430082641:True:=⟨⟩
theorem tw13623334544322112252:True:=⟨⟩
theorem tw11455286470832896224:True:=⟨⟩
theorem tw11773714837947557637:True:=⟨⟩
theorem tw5413162507762818751:True:=⟨⟩
theorem tw14409431328962955437:True:=⟨⟩
theorem tw12521806663579407336:True:=⟨⟩
theorem tw17245632480611900101:True:=⟨⟩
theorem tw17500704194622147636:True:=⟨⟩
theorem tw15055759508504394698:True:=⟨⟩
theorem tw18088646001538774332:True:=⟨⟩
theorem tw15984344099728687119:True:=⟨⟩
theorem tw5311618975485438858:True:=⟨⟩
theorem tw15197400897401603280:True:=⟨⟩
theorem tw12464643593025077343:True:=⟨⟩
theorem tw15205743503277619710:True:=⟨⟩
theorem tw12383807108017776369:True:=⟨⟩
theorem tw10042153376342002085:True:=⟨⟩
theorem tw10653469027936406757:True:=⟨⟩
theorem tw15187764968134394116:True:=⟨⟩
theorem tw4442584127813358868:True:=⟨⟩
theorem tw8957907444599240292:True:=⟨⟩
theorem tw18091283559713632137:True:=⟨⟩
theorem tw8626431433666001865:True:=⟨⟩
theorem tw4401232885084960236:True:=⟨⟩
theorem tw386717067223236074:True:=⟨⟩
theorem tw5651379879597091782:True:=⟨⟩
theorem tw6395861958570744575:True:=⟨⟩
theorem tw420673872260622020:True:=⟨⟩
theorem tw16195603264935533082:True:=⟨⟩
theorem tw13495151133702079412:True:=⟨⟩
theorem tw17104419979807603413:True:=⟨⟩
theorem tw12174733379589101671:True:=⟨⟩
theorem tw14774885456448408303:True:=⟨⟩
theorem tw3299347260448351985:True:=⟨⟩
theorem tw2361914309452169496:True:=⟨⟩
theorem tw12612486758627221125:True:=⟨⟩
theorem tw15819236128794879702:True:=⟨⟩
theorem tw7878490571031677159:True:=⟨⟩
theorem tw8853226393150415788:True:=⟨⟩
theorem tw18209651382716861065:True:=⟨⟩
theorem tw9523476839355828037:True:=⟨⟩
theorem tw6886013543448097282:True:=⟨⟩
theorem tw17545344049919613227:True:=⟨⟩
theorem tw3359111795751336795:True:=⟨⟩
theorem tw977142313825115020:True:=⟨⟩
theorem tw1612280488134329217:True:=⟨⟩
theorem tw8146383184080210935:True:=⟨⟩
theorem tw3702699568057052717:True:=⟨⟩
theorem tw8927257420408783293:True:=⟨⟩
theorem tw10382298792771070601:True:=⟨⟩
theorem tw9926354135769274726:True:=⟨⟩
theorem tw7766246707170231122:True:=⟨⟩
theorem tw7824440296963523354:True:=⟨⟩
theorem tw8594586580704903275:True:=⟨⟩
theorem tw2351780836226153910:True:=⟨⟩
theorem tw1553986359313867108:True:=⟨⟩
theorem tw4933414253203966906:True:=⟨⟩
theorem tw14381790933468784648:True:=⟨⟩
theorem tw10405456934154409483:True:=⟨⟩
theorem tw13421008472275872812:True:=⟨⟩
theorem tw7427566856771069839:True:=⟨⟩
theorem tw16049669061344712723:True:=⟨⟩
theorem tw6754861164810569688:True:=⟨⟩
theorem tw14059577541247091111:True:=⟨⟩
theorem tw12746716685928912032:True:=⟨⟩
theorem tw4286641480978020330:True:=⟨⟩
theorem tw16465679406029590199:True:=⟨⟩
theorem tw10663953652200916614:True:=⟨⟩
theorem tw12579368493340364875:True:=⟨⟩
theorem tw610720381277184393:True:=⟨⟩
theorem tw15235853767993721259:True:=⟨⟩
theorem tw10913907146073784583:True:=⟨⟩
theorem tw6005365568203925021:True:=⟨⟩
theorem tw5875583310089412846:True:=⟨⟩
theorem tw4449868626266935018:True:=⟨⟩
theorem tw10738129317390430635:True:=⟨⟩
theorem tw11629521538851684163:True:=⟨⟩
theorem tw9571212941379925581:True:=⟨⟩
theorem tw3718498213968779698:True:=⟨⟩
theorem tw16711262688699148389:True:=⟨⟩
theorem tw6433199691818536967:True:=⟨⟩
theorem tw17760728435942343324:True:=⟨⟩
theorem tw17504587829303871878:True:=⟨⟩
theorem tw14054177327168669609:True:=⟨⟩
theorem tw2321552076407377074:True:=⟨⟩
theorem tw6317172055428654615:True:=⟨⟩
theorem tw7871769968775231162:True:=⟨⟩
theorem tw9528234265976988799:True:=⟨⟩
theorem tw17467591612392669157:True:=⟨⟩
theorem tw15928879647268232179:True:=⟨⟩
theorem tw1339646832417796950:True:=⟨⟩
theorem tw9482072429422738493:True:=⟨⟩
theorem tw5811813258027499055:True:=⟨⟩
theorem tw1853158321827145558:True:=⟨⟩
theorem tw13862502645657470860:True:=⟨⟩
theorem tw3801858048873832887:True:=⟨⟩
theorem tw18109169822893168284:True:=⟨⟩
theorem tw15632189312812393717:True:=⟨⟩
theorem tw1538374821396223975:True:=⟨⟩
theorem tw9014143675441534814:True:=⟨⟩
theorem tw5725886376364488243:True:=⟨⟩
theorem tw10753759007207720170:True:=⟨⟩
theorem tw4803777118526229166:True:=⟨⟩
theorem tw457487396237478446:True:=⟨⟩
theorem tw4477894701127151756:True:=⟨⟩
theorem tw7895919473546186562:True:=⟨⟩
theorem tw14838063319114388084:True:=⟨⟩
theorem tw9166643512566901719:True:=⟨⟩
end Mine.final
open PySem PySem.W PyProof.Rows
set_option tactic.hygienic true in
set_option Elab.async true in
set_option maxRecDepth 100000 in
set_option maxHeartbeats 0 in
theorem Mine.final : PySem.Challenge.rw_xw0056_01.Holds := by
  w_on; o_law; k_head; (case hw => w_witness2)
  k_go0
  rename Frag.In _ _ => hX
  rename Top topProg _ _ _ _ _ => hT
  revert hT
  rename Top _ _ _ _ _ _ => hT0
  intro hT
  rename Fr _ _ _ _ => hF
  rename News _ _ _ _ => hN
  rename IntsAre _ _ => hI
  rename TabsAt _ _ => hTabs
  rename (_ : Array GenState) = #[] => hgens
  rename ¬ _ < _ => hz
  rename_i codeA codeB
  refine (?_ : wpAny _ _ (execs Mine.lawS _) _ _ _)
  refine Mine.law_good ?KA ?KL Mine.all_ok (Mine.start_of hX hT.g hT.b hT.nolimit hT.builtins hT.bmain (Mine.seer_ghost hTabs (hT0.seer (by kernel_rfl))) (hideAll_none _ (by simp)) (hideAll_none _ (by simp)) codeA codeHd hF (by rfl) hN ⟨_, by assumption⟩ ⟨_, by assumption⟩ ⟨_, by assumption⟩ ⟨_, by assumption⟩ (by kernel_rfl) (by rfl) (by assumption) hI (by omega)) rfl hgens rfl (raisesW_false ?_) ?_
  case KA => exact {
    make := fun mg h => ⟨⟨by kernel_rfl, by kernel_rfl, by kernel_rfl, by kernel_rfl, by kernel_rfl, by kernel_rfl, by kernel_rfl, by kernel_rfl, by decide, by kernel_rfl, by kernel_rfl, by decide⟩,
      ⟨by kernel_rfl, by kernel_rfl, by kernel_rfl, by kernel_rfl, by kernel_rfl, by kernel_rfl, by kernel_rfl, by kernel_rfl, by decide, by kernel_rfl, by kernel_rfl, by decide⟩,
      ⟨by kernel_rfl, by kernel_rfl, by kernel_rfl, by kernel_rfl, by kernel_rfl, by kernel_rfl, by kernel_rfl, by kernel_rfl, by decide, by kernel_rfl, by kernel_rfl, by decide⟩,
      ⟨by kernel_rfl, by kernel_rfl, by kernel_rfl, by kernel_rfl, by kernel_rfl, by kernel_rfl, by kernel_rfl, by kernel_rfl, by decide, by kernel_rfl, by kernel_rfl, by decide⟩,
      by kernel_rfl, by kernel_rfl, by kernel_rfl, ⟨by kernel_rfl, by kernel_rfl, by kernel_rfl, by kernel_rfl⟩, ⟨h _ (.head _), h _ (.tail _ (.head _)), h _ (.tail _ (.tail _ (.head _))), h _ (.tail _ (.tail _ (.tail _ (.head _))))⟩⟩
    names := by kernel_rfl
    absent := by kernel_rfl
    fnsB := by kernel_rfl
    fnsBody := by kernel_rfl
    fnsD := by kernel_rfl
    fnsN := by kernel_rfl
    consts := by kernel_rfl
    bits := ⟨by kernel_rfl, by kernel_rfl, by kernel_rfl⟩
    dflt := ⟨by kernel_rfl, by kernel_rfl, by kernel_rfl⟩
    exc := by kernel_rfl
    excI := ⟨by kernel_rfl, by kernel_rfl, by kernel_rfl⟩
    excD := by kernel_rfl
    fty := by kernel_rfl
    excC := by kernel_rfl
    hits := by kernel_rfl
    objs := by kernel_rfl
    meths := by kernel_rfl
    world := by kernel_rfl
    base := ⟨by kernel_rfl, by kernel_rfl⟩
    named := by kernel_rfl
    under := by kernel_rfl
    dBase := ⟨by kernel_rfl, by kernel_rfl, by kernel_rfl⟩
    dUnder := ⟨by kernel_rfl, by kernel_rfl, by kernel_rfl⟩
    dIsc := ⟨by kernel_rfl, by kernel_rfl, by kernel_rfl⟩
    dTried := ⟨by kernel_rfl, by kernel_rfl, by kernel_rfl⟩
    dKnown := ⟨by kernel_rfl, by kernel_rfl, by kernel_rfl⟩
    dRows := ⟨by kernel_rfl, by kernel_rfl, by kernel_rfl⟩
    dChk := ⟨by kernel_rfl, by kernel_rfl, by kernel_rfl⟩
    plain := by kernel_rfl }
  case KL => exact ⟨by kernel_rfl, ⟨by kernel_rfl, by kernel_rfl, by kernel_rfl⟩, ⟨by kernel_rfl, by kernel_rfl, by kernel_rfl⟩, ⟨by kernel_rfl, by kernel_rfl, by kernel_rfl⟩, by kernel_rfl, by kernel_rfl⟩
  · wrow_none_raised
  · kc_post
theorem PySem.Challenge.cw_xw0056_01_holds : PySem.Challenge.rw_xw0056_01.Holds :=
  Mine.final
