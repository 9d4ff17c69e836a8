import PyProof.Rows.All
import PyProof.Rows.KernelRfl
import PyProof.ReprText
import Wide.Line
import Wide.FinOn
import KE.KSuper
import KE.KItem
import KE.KLam
import KE.KNestM
import KE.KTurns
import KE.KDictNew
import KE.KIsAll
import PySem.Eval
import Lean
import PySem.Challenge.RW_nz0410_01
set_option Elab.async false
set_option maxRecDepth 100000
set_option tactic.hygienic false

section
/-! A small interpreter, by value, for the fragment of Python that this law reaches. -/
namespace Mine
open PySem

inductive V where
  | none | bool (b : Bool) | int (i : Int) | str (s : Str)
  | tup (l : List V) | list (l : List V) | inst (c : Nat) (fs : List V)
  | dict (ks : List Str) (vs : List V)
  | fn (i : Nat) | cls (c : Nat) | typ (n : String) | blt (n : String)
  | rng (n : Nat) | cell (i : Nat)
  deriving Inhabited

inductive Slot where
  | val (v : V) | own (l : List V)
noncomputable abbrev Rho := List (Str × Slot)
noncomputable abbrev Mu := List (List V)
inductive Res where
  | ret (v : V) (μ : Mu) | exc (n : Int) (μ : Mu) | next (ρ : Rho) (μ : Mu) | stuck
  deriving Inhabited

noncomputable def leq : List Nat → List Nat → Bool
  | [], [] => true
  | a :: l, b :: r => match Nat.beq a b with | true => leq l r | false => false
  | _, _ => false
noncomputable def fitL {α : Type} (l : List α) : Bool := Nat.ble l.length 100000
noncomputable def seq (a b : Str) : Bool := leq a.cps.toList b.cps.toList
noncomputable def look {α : Type} (x : Str) : List (Str × α) → Option α
  | [] => .none
  | p :: r => match seq x p.1 with | true => some p.2 | false => look x r

structure Cx where
  top : Bool
  kinds : List (Str × NameKind)
  gl : Str → Option V
  isCell : Pos → Bool
  Φ : Nat → List V → Mu → Res

/-! ### the values' own words -/
noncomputable def isKind : V → Bool
  | .none | .bool _ | .int _ | .str _ | .tup _ | .list _ | .inst _ _ => true
  | _ => false
noncomputable def isTyp (n : String) : V → Bool
  | .none => false
  | .bool _ => n == "bool" || n == "int"
  | .int _ => n == "int"
  | .str _ => n == "str"
  | .tup _ => n == "tuple"
  | .list _ => n == "list"
  | _ => false
noncomputable def isC (c : Nat) : Bool := match c with | 1 => true | 2 => true | 3 => true | 4 => true | 5 => true | 6 => true | _ => false
noncomputable def isD (c : Nat) : Bool := match c with | 1 => true | 2 => true | 3 => true | 5 => true | _ => false
noncomputable def nList : List String := ["str", "int", "tuple"]
noncomputable def isN (n : String) : Bool := nList.contains n
noncomputable def isOk (v : V) : Bool := match v with
  | .inst d _ => isD d
  | v => isKind v
noncomputable def inst1 (v t : V) : Option Bool := match t with
  | .cls c => match isC c with
    | false => none
    | true => match v with
      | .inst d _ => some (Nat.beq d c)
      | _ => some false
  | .typ n => match isN n with
    | false => none
    | true => match v with
      | .inst _ _ => some false
      | v => some (isTyp n v)
  | _ => none
noncomputable def instAny (v : V) : List V → Option Bool
  | [] => some false
  | t :: r => match inst1 v t with
    | some true => some true
    | some false => instAny v r
    | none => none
noncomputable def instV (v t : V) : Option Bool := match isOk v with
  | false => none
  | true => match t with
    | .tup ts => instAny v ts
    | t => inst1 v t

noncomputable def eqUp (f : V → V → Option Bool) : List V → List V → Option Bool
  | [], [] => some true
  | [], _ :: _ => some false
  | _ :: _, [] => some false
  | a :: l, b :: r => match f a b with
    | some true => eqUp f l r
    | some false => some false
    | none => none
noncomputable def eqAll (f : V → V → Option Bool) : List V → List V → Option Bool
  | [], [] => some true
  | [], _ :: _ => some false
  | _ :: _, [] => some false
  | a :: l, b :: r => match f a b with
    | some p => match eqAll f l r with
      | some q => some (p && q)
      | none => none
    | none => none
noncomputable def eqV : Nat → V → V → Option Bool
  | 0, _, _ => none
  | n + 1, a, b => match a, b with
    | .int x, .int y => some (decide (x = y))
    | .bool x, .bool y => some (x == y)
    | .str x, .str y => some (seq x y)
    | .str _, .int _ => some false
    | .int _, .str _ => some false
    | .str _, .tup _ => some false
    | .tup _, .str _ => some false
    | .tup x, .tup y => eqUp (eqV n) x y
    | .list x, .list y => eqAll (eqV n) x y
    | _, _ => none
noncomputable def eqT (μ : Mu) : V → V → Option Bool
  | .cell i, .cell j => match μ[i]?, μ[j]? with
    | some a, some b => eqAll (eqV 90) a b
    | _, _ => none
  | a, b => eqV 100 a b
noncomputable def neT (μ : Mu) : V → V → Option Bool
  | .cell i, .cell j => (eqT μ (.cell i) (.cell j)).map (!·)
  | .int x, .int y => some (!(decide (x = y)))
  | .str x, .str y => some (!(seq x y))
  | _, _ => none

noncomputable def inL (v : V) : List V → Option Bool
  | [] => some false
  | a :: r => match (match a, v with
      | .int x, .int y => some (decide (x = y))
      | .str x, .str y => some (seq x y)
      | .str _, .int _ => some false
      | .int _, .str _ => some false
      | _, _ => none) with
    | some p => match p with
      | true => (inL v r).map fun u9 => true
      | false => inL v r
    | none => none
noncomputable def isIn (c : Nat) : List Nat → Bool
  | [] => false
  | d :: r => match Nat.beq c d with | true => true | false => isIn c r
noncomputable def inKs (x : Str) : List Str → Bool
  | [] => false
  | k :: r => match seq x k with | true => true | false => inKs x r
noncomputable def inV (v w : V) : Option Bool := match w with
  | .tup l => inL v l
  | .dict ks _ => match v with | .str x => some (inKs x ks) | _ => none
  | .str s => match v with
    | .str x => match x.cps.toList with
      | [c] => some (isIn c s.cps.toList)
      | _ => none
    | _ => none
  | _ => none
noncomputable def leS (a b : Str) : Option Bool := match a.cps.toList, b.cps.toList with
  | [x], [y] => some (Nat.ble x y)
  | _, _ => none
noncomputable def cmpV (op : CmpOp) (a b : V) (μ : Mu) : Option Bool := match op with
  | .Eq => eqT μ a b
  | .NotEq => neT μ a b
  | .Lt => match a, b with | .int x, .int y => some (decide (x < y)) | _, _ => none
  | .LtE => match a, b with
    | .int x, .int y => some (decide (x ≤ y))
    | .str x, .str y => leS x y
    | _, _ => none
  | .Gt => match a, b with | .int x, .int y => some (decide (y < x)) | _, _ => none
  | .In => inV a b
  | .NotIn => (inV a b).map (!·)
  | .Is => match b with | .none => (match isKind a with | true => some (match a with | .none => true | _ => false) | false => none) | _ => none
  | _ => none

noncomputable def small (a : Int) : Bool := decide (a.natAbs < 2 ^ 40)
noncomputable def binV (op : Operator) (a b : V) : Option V := match op with
  | .Add => match a, b with
    | .int x, .int y => some (.int (x + y))
    | .str x, .str y => match Nat.ble (x.length + y.length) 100000 with
      | true => some (.str (x ++ y))
      | false => none
    | .list x, .list y => match Nat.ble (x.length + y.length) 100000 with
      | true => some (.list (x ++ y))
      | false => none
    | _, _ => none
  | .Sub => match a, b with | .int x, .int y => some (.int (x - y)) | _, _ => none
  | .Mult => match a, b with
    | .int x, .int y => match small x, small y with
      | true, true => some (.int (x * y))
      | _, _ => none
    | _, _ => none
  | .FloorDiv => match a, b with
    | .int x, .int y => match small y, decide (y = 0) with | true, false => some (.int (x.fdiv y)) | _, _ => none
    | _, _ => none
  | .Mod => match a, b with
    | .int x, .int y => match decide (y = 0) with | true => none | false => some (.int (x.fmod y))
    | _, _ => none
  | .Pow => match a, b with
    | .int x, .int y => match decide (0 ≤ y ∧ y < 65536 ∧ x.natAbs < 65536) with | true => some (.int (x ^ y.toNat)) | false => none
    | _, _ => none
  | .LShift => match a, b with
    | .int x, .int y => match decide (0 ≤ y ∧ y < 65536 ∧ x.natAbs < 65536) with | true => some (.int (x * 2 ^ y.toNat)) | false => none
    | _, _ => none
  | _ => none

noncomputable def nthInt {α : Type} (l : List α) (i : Int) : Option α := match i with
  | .ofNat n => match Nat.blt n (2 ^ 40) with | true => l[n]? | false => none
  | .negSucc _ => none
noncomputable def ch (c : Nat) : Str := ⟨#[c]⟩
noncomputable def itemV (μ : Mu) (o i : V) : Option V := match i with
  | .int i => match o with
    | .tup l => nthInt l i
    | .list l => nthInt l i
    | .cell j => match μ[j]? with | some l => nthInt l i | none => none
    | .str s => (nthInt s.cps.toList i).map fun c => .str (ch c)
    | _ => none
  | .str x => match o with
    | .dict ks vs => look x (ks.zip vs)
    | _ => none
  | _ => none
noncomputable def cutL {α : Type} (l : List α) (lo hi : Option Int) : Option (List α) := match lo, hi with
  | some (.ofNat n), none => some (l.drop n)
  | none, some (.ofNat n) => some (l.take n)
  | _, _ => none
noncomputable def cutV (o : V) (lo hi : Option Int) : Option V := match o with
  | .tup l => match fitL l with
    | true => match lo, hi with
      | some (.ofNat n), none => match Nat.ble 1 n, Nat.ble n l.length with
        | true, true => some (.tup (l.drop n))
        | _, _ => none
      | _, _ => none
    | false => none
  | .list l => match fitL l with | true => (cutL l lo hi).map .list | false => none
  | .str s => match Nat.ble s.length 100000 with
    | true => match lo, hi with
      | some (.ofNat n), none => some (.str ⟨(s.cps.toList.drop n).toArray⟩)
      | _, _ => none
    | false => none
  | _ => none

noncomputable def classFields : Nat → List Str
  | 2 => [Str.ofString "node"]
  | 3 => [Str.ofString "tree"]
  | 5 => [Str.ofString "kind", Str.ofString "owner", Str.ofString "key"]
  | 7 => [Str.ofString "values", Str.ofString "functions", Str.ofString "width", Str.ofString "most_length", Str.ofString "log"]
  | _ => []
noncomputable def fieldV (o : V) (n : Str) : Option V := match o with
  | .inst c fs => match look n ((classFields c).zip fs) with
    | some (.blt _) => none
    | r => r
  | _ => none
noncomputable def methFn (c : Nat) (n : Str) : Option Nat := match c with
  | 7 => match seq n (Str.ofString "get") with
    | true => some 101
    | false => match seq n (Str.ofString "call") with | true => some 102 | false => none
  | _ => none

noncomputable def toI (n : Nat) : V := .int (Int.ofNat n)
noncomputable def optCons {α : Type} : Option α → Option (List α) → Option (List α)
  | some a, some l => some (a :: l)
  | _, _ => none
mutual
noncomputable def dataOf : V → Option PyData
  | .none => some .none
  | .int i => some (.int i)
  | .str s => some (.str s)
  | .tup l => (dataOfs l).map .tuple
  | _ => Option.none
noncomputable def dataOfs : List V → Option (List PyData)
  | [] => some []
  | a :: r => optCons (dataOf a) (dataOfs r)
end
noncomputable def okShow (d : PyData) : Bool := d.showable && Nat.ble d.depth 60 && Nat.ble d.shown.length 100000
noncomputable def reprV (v : V) : Option Str := match v with
  | .tup _ => match dataOf v with
    | some d => match okShow d with | true => some d.shown | false => none
    | none => none
  | _ => none
noncomputable def shownNat (n : Nat) : Str := Str.ofString (toString n)

noncomputable def optS {α : Type} (o : Option α) (k : α → Res) : Res := match o with
  | some v => k v
  | none => .stuck
noncomputable def withBool (v : V) (k : Bool → Res) : Res := match v with
  | .bool b => k b
  | _ => .stuck
noncomputable def withInt (v : V) (k : Int → Res) : Res := match v with
  | .int i => k i
  | _ => .stuck
noncomputable def withTup (v : V) (k : List V → Res) : Res := match v with
  | .tup l => k l
  | _ => .stuck
noncomputable def withList (v : V) (k : List V → Res) : Res := match v with
  | .list l => k l
  | _ => .stuck
noncomputable def withCell (v : V) (k : Nat → Res) : Res := match v with
  | .cell i => k i
  | _ => .stuck
noncomputable def ifS (b : Bool) (t e : Res) : Res := match b with
  | true => t
  | false => e
noncomputable def fitS (b : Bool) (r : Res) : Res := match b with
  | true => r
  | false => .stuck
noncomputable def arg1 (args : List V) (k : V → Res) : Res := match args with
  | [v] => k v
  | _ => .stuck
noncomputable def bIsi (args : List V) (μ : Mu) (k : V → Mu → Res) : Res := match args with
  | [v, t] => match instV v t with | some b => k (.bool b) μ | none => .stuck
  | _ => .stuck
noncomputable def lenV (v : V) (μ : Mu) (k : V → Mu → Res) : Res := match v with
  | .str s => fitS (Nat.ble s.length 100000) (k (toI s.length) μ)
  | .tup l => fitS (fitL l) (k (toI l.length) μ)
  | .list l => fitS (fitL l) (k (toI l.length) μ)
  | _ => .stuck
noncomputable def absV (v : V) (μ : Mu) (k : V → Mu → Res) : Res := match v with
  | .int i => k (.int (Int.ofNat i.natAbs)) μ
  | _ => .stuck
noncomputable def ordV (v : V) (μ : Mu) (k : V → Mu → Res) : Res := match v with
  | .str s => match s.cps.toList with | [c] => k (toI c) μ | _ => .stuck
  | _ => .stuck
noncomputable def chrV (v : V) (μ : Mu) (k : V → Mu → Res) : Res := match v with
  | .int i => match i with
    | .ofNat c => fitS (Nat.blt c 128) (k (.str (ch c)) μ)
    | _ => .stuck
  | _ => .stuck
noncomputable def showV (v : V) (μ : Mu) (k : V → Mu → Res) : Res := match reprV v with
  | some x => k (.str x) μ
  | none => .stuck
noncomputable def bltV (n : String) (args : List V) (μ : Mu) (k : V → Mu → Res) : Res := match decide (n = "isinstance") with
  | true => bIsi args μ k
  | false => match decide (n = "len") with
    | true => arg1 args fun v => lenV v μ k
    | false => match decide (n = "abs") with
      | true => arg1 args fun v => absV v μ k
      | false => match decide (n = "ord") with
        | true => arg1 args fun v => ordV v μ k
        | false => match decide (n = "chr") with
          | true => arg1 args fun v => chrV v μ k
          | false => match decide (n = "repr") with
            | true => arg1 args fun v => showV v μ k
            | false => .stuck
noncomputable def strV (v : V) (μ : Mu) (k : V → Mu → Res) : Res := match v with
  | .int i => match i with
    | .ofNat i => fitS (Nat.blt i (2 ^ 40)) (k (.str (shownNat i)) μ)
    | _ => .stuck
  | _ => .stuck
noncomputable def listV (v : V) (μ : Mu) (k : V → Mu → Res) : Res := match v with
  | .tup l => fitS (fitL l) (k (.list l) μ)
  | _ => .stuck
noncomputable def tupV (v : V) (μ : Mu) (k : V → Mu → Res) : Res := match v with
  | .list l => fitS (fitL l) (k (.tup l) μ)
  | _ => .stuck
noncomputable def rngV (v : V) (μ : Mu) (k : V → Mu → Res) : Res := match v with
  | .int i => match i with
    | .ofNat i => fitS (Nat.blt i 65536) (k (.rng i) μ)
    | _ => .stuck
  | _ => .stuck
noncomputable def typV (n : String) (args : List V) (μ : Mu) (k : V → Mu → Res) : Res := match decide (n = "str") with
  | true => arg1 args fun v => strV v μ k
  | false => match decide (n = "list") with
    | true => arg1 args fun v => listV v μ k
    | false => match decide (n = "tuple") with
      | true => arg1 args fun v => tupV v μ k
      | false => match decide (n = "range") with
        | true => arg1 args fun v => rngV v μ k
        | false => .stuck
noncomputable def mkInst (c : Nat) (args : List V) (μ : Mu) (k : V → Mu → Res) : Res := match c with
  | 1 => match args with | [] => k (.inst 1 []) μ | _ => .stuck
  | 2 => match args with | [a] => k (.inst 2 [a]) μ | _ => .stuck
  | 3 => match args with | [a] => k (.inst 3 [a]) μ | _ => .stuck
  | 5 => match args with | [a, b, c] => k (.inst 5 [a, b, c]) μ | _ => .stuck
  | 7 => match args with | [a, b, c, d] => k (.inst 7 [a, b, c, d, .cell μ.length]) (μ ++ [[]]) | _ => .stuck
  | _ => .stuck
noncomputable def bindR (r : Res) (k : V → Mu → Res) : Res := match r with
  | .ret v μ => k v μ
  | .exc n μ => .exc n μ
  | _ => .stuck
noncomputable def app (cx : Cx) (f : V) (args : List V) (μ : Mu) (k : V → Mu → Res) : Res := match f with
  | .fn i => bindR (cx.Φ i args μ) k
  | .cls c => mkInst c args μ k
  | .blt n => bltV n args μ k
  | .typ n => typV n args μ k
  | _ => .stuck
noncomputable def callable : V → Bool
  | .fn _ => true
  | .cls _ => true
  | .blt _ => true
  | .typ _ => true
  | _ => false
noncomputable def indexL (c : Nat) : List Nat → Nat → Option Nat
  | [], _ => none
  | d :: r, i => match Nat.beq c d with | true => (match isIn c r with | true => none | false => some i) | false => indexL c r (i + 1)
inductive MK where
  | fn (i : Nat) | dictGet | strIndex
noncomputable def methK (o : V) (m : Str) : Option MK := match o with
  | .inst c _ => (methFn c m).map .fn
  | .dict _ _ => match seq m (Str.ofString "get") with | true => some .dictGet | false => none
  | .str _ => match seq m (Str.ofString "index") with | true => some .strIndex | false => none
  | _ => none
noncomputable def getV (o : V) (args : List V) (μ : Mu) (k : V → Mu → Res) : Res := match o with
  | .dict ks vs => match args with
    | [.str x, d] => match look x (ks.zip vs) with
      | some v => k v μ
      | none => k d μ
    | [.int _, d] => k d μ
    | _ => .stuck
  | _ => .stuck
noncomputable def indexV (o : V) (args : List V) (μ : Mu) (k : V → Mu → Res) : Res := match o with
  | .str s => match args with
    | [.str x] => match x.cps.toList with
      | [c] => match indexL c s.cps.toList 0 with
        | some i => k (toI i) μ
        | none => .stuck
      | _ => .stuck
    | _ => .stuck
  | _ => .stuck
noncomputable def methV (cx : Cx) (o : V) (mk : MK) (args : List V) (μ : Mu) (k : V → Mu → Res) : Res := match mk with
  | .fn i => bindR (cx.Φ i (o :: args) μ) k
  | .dictGet => getV o args μ k
  | .strIndex => indexV o args μ k

/-! ### expressions -/
noncomputable abbrev EF := Cx → Rho → Expr → Mu → (V → Mu → Res) → Res
noncomputable abbrev CF := Cx → Rho → Expr → Mu → (Bool → Mu → Res) → Res

noncomputable def nameV (cx : Cx) (ρ : Rho) (x : Str) : Option V := match seq x (Str.ofString "__debug__") with
  | true => none
  | false => match look x cx.kinds with
    | some .globalImplicit => cx.gl x
    | some .globalExplicit => none
    | some _ => match look x ρ with
      | some (.val v) => some v
      | _ => none
    | none => none
noncomputable def isLocal (cx : Cx) (x : Str) : Bool := match seq x (Str.ofString "__debug__") with
  | true => false
  | false => match look x cx.kinds with
    | some .local => true
    | _ => false
noncomputable def constV : Const → Option V
  | .none => some .none
  | .bool b => some (.bool b)
  | .int i => some (.int i)
  | .str s => some (.str s)
  | _ => none
noncomputable def isStarred : Expr → Bool
  | .Starred _ _ => true
  | _ => false
noncomputable def evList (E : EF) (cx : Cx) (ρ : Rho) : List Expr → Mu → (List V → Mu → Res) → Res
  | [], μ, k => k [] μ
  | e :: r, μ, k => match isStarred e with
    | true => .stuck
    | false => E cx ρ e μ fun v μ => evList E cx ρ r μ fun vs μ => k (v :: vs) μ
noncomputable def evBool (E : EF) (cx : Cx) (ρ : Rho) (op : BoolOp) : List Expr → Mu → (V → Mu → Res) → Res
  | [], _, _ => .stuck
  | e :: r, μ, k => match r with
    | [] => E cx ρ e μ k
    | _ :: _ => E cx ρ e μ fun v μ => withBool v fun b => match op with
      | .And => ifS b (evBool E cx ρ op r μ k) (k (.bool false) μ)
      | .Or => ifS b (k (.bool true) μ) (evBool E cx ρ op r μ k)
noncomputable def evAll (C : CF) (cx : Cx) (ρ : Rho) (op : BoolOp) : List Expr → Mu → (Bool → Mu → Res) → Res
  | [], μ, k => match op with | .And => k true μ | .Or => k false μ
  | e :: r, μ, k => C cx ρ e μ fun b μ => match op with
    | .And => match b with | true => evAll C cx ρ op r μ k | false => k false μ
    | .Or => match b with | true => k true μ | false => evAll C cx ρ op r μ k
noncomputable def evChain (E : EF) (cx : Cx) (ρ : Rho) (left : V) : List CmpOp → List Expr → Mu → (Bool → Mu → Res) → Res
  | [], _, _, _ => .stuck
  | op :: ops, rs, μ, k => match rs with
    | [] => .stuck
    | r :: rs => match ops with
      | [] => match rs with
        | [] => E cx ρ r μ fun v μ => optS (cmpV op left v μ) fun b => k b μ
        | _ :: _ => .stuck
      | _ :: _ => match rs with
        | [] => .stuck
        | _ :: _ => E cx ρ r μ fun v μ => optS (cmpV op left v μ) fun b => ifS b (evChain E cx ρ v ops rs μ k) (k false μ)
noncomputable def keyStr (o : Option Expr) : Option Str := match o with
  | some e => match e with
    | .Constant c _ _ => match c with
      | .str x => some x
      | _ => none
    | _ => none
  | none => none
noncomputable def evPairs (E : EF) (cx : Cx) (ρ : Rho) : List (Option Expr) → List Expr → Mu → (List Str → List V → Mu → Res) → Res
  | [], vs, μ, k => match vs with
    | [] => k [] [] μ
    | _ :: _ => .stuck
  | o :: ks, vs, μ, k => match vs with
    | [] => .stuck
    | v :: vs => optS (keyStr o) fun x => E cx ρ v μ fun d μ => evPairs E cx ρ ks vs μ fun xs ds μ => k (x :: xs) (d :: ds) μ
noncomputable def evOpt (E : EF) (cx : Cx) (ρ : Rho) : Option Expr → Mu → (Option Int → Mu → Res) → Res
  | none, μ, k => k none μ
  | some e, μ, k => E cx ρ e μ fun v μ => withInt v fun i => k (some i) μ
noncomputable def items (v : V) : Option (List V) := match v with
  | .tup l => some l
  | .list l => some l
  | .str s => some (s.cps.toList.map fun c => .str (ch c))
  | .rng n => match Nat.blt n 65536 with | true => some ((List.range n).map toI) | false => none
  | _ => none
noncomputable def evEach (f : V → Mu → Res) : List V → Mu → (List V → Mu → Res) → Res
  | [], μ, k => k [] μ
  | v :: r, μ, k => match f v μ with
    | .ret d μ => evEach f r μ fun ds μ => k (d :: ds) μ
    | _ => .stuck
noncomputable def notSet : Expr → Bool
  | .Set _ _ _ => false
  | _ => true
noncomputable def nameOk (cx : Cx) (ρ : Rho) (sc : Scope) (p : Str × NameKind) : Bool := match p.2, look p.1 sc.names with
  | .local, some .local => true
  | .globalImplicit, some .globalImplicit => true
  | .globalExplicit, some .globalExplicit => true
  | .free, some .free => (match look p.1 cx.kinds, look p.1 ρ with | some .cell, some (.val _) => true | _, _ => false)
  | _, _ => false
noncomputable def compKinds (x : Str) (sc : Scope) : List (Str × NameKind) := sc.names.filter fun p => match p.2 with | .local => seq p.1 x | _ => true
noncomputable def compOk (cx : Cx) (ρ : Rho) (x : Str) (sc : Scope) : Bool := match cx.top, sc.kind, look x sc.names with
  | true, .function, some .local => sc.names.all (nameOk cx ρ sc)
  | _, _, _ => false
noncomputable def dictOk (ks : List (Option Expr)) (vs : List Expr) : Bool := match ks with
  | [] => false
  | _ :: _ => match Nat.ble ks.length 15, ks.all (·.isSome) with | true, true => Nat.beq ks.length vs.length | _, _ => false
noncomputable def nodupS : List Str → Bool
  | [] => true
  | x :: r => match inKs x r with | true => false | false => nodupS r
noncomputable def plainBase : Expr → Bool
  | .Call _ [] _ _ => false
  | _ => true
noncomputable def noStar (as : List Expr) : Bool := as.all fun e => !isStarred e
noncomputable def plainAt (o : Expr) (ap pos : Pos) (as : List Expr) : Bool := plainBase o && (Nat.beq ap.endLine pos.line && (Nat.blt as.length 20 && noStar as))
noncomputable def attrOf : Expr → Option (Expr × Str × Pos)
  | .Attribute o m ap => some (o, m, ap)
  | _ => none
noncomputable def sliceOf : Expr → Option (Option Expr × Option Expr × Pos)
  | .Slice lo hi st p => match st with
    | none => some (lo, hi, p)
    | some _ => none
  | _ => none
noncomputable def nameOf : Expr → Option (Str × Pos)
  | .Name x p => some (x, p)
  | _ => none
noncomputable def fitO {α : Type} (b : Bool) (f : Option α) : Option α := match b with
  | true => f
  | false => none
noncomputable def gen1 (gens : List Comprehension) : Option (Str × Pos × Expr) := match gens with
  | [g] => (nameOf g.target).bind fun q => fitO g.ifs.isEmpty (fitO (decide (g.is_async = 0)) (some (q.1, q.2, g.iter)))
  | _ => none
noncomputable def eCall (E : EF) (cx : Cx) (ρ : Rho) (f : Expr) (as : List Expr) (pos : Pos) (μ : Mu) (k : V → Mu → Res) : Res := match attrOf f with
  | some q => fitS (plainAt q.1 q.2.2 pos as) (E cx ρ q.1 μ fun ov μ => optS (methK ov q.2.1) fun mk => evList E cx ρ as μ fun vs μ => methV cx ov mk vs μ k)
  | none => fitS (noStar as) (E cx ρ f μ fun fv μ => fitS (callable fv) (evList E cx ρ as μ fun vs μ => app cx fv vs μ k))
noncomputable def eSub (E : EF) (cx : Cx) (ρ : Rho) (ov : V) (s : Expr) (μ : Mu) (k : V → Mu → Res) : Res := match sliceOf s with
  | some q => evOpt E cx ρ q.1 μ fun l μ => evOpt E cx ρ q.2.1 μ fun h μ => optS (cutV ov l h) fun v => k v μ
  | none => E cx ρ s μ fun i μ => optS (itemV μ ov i) fun v => k v μ
noncomputable def eComp (E : EF) (cx : Cx) (ρ : Rho) (elt : Expr) (gens : List Comprehension) (sc : Scope) (μ : Mu) (k : V → Mu → Res) : Res := optS (gen1 gens) fun q => fitS (compOk cx ρ q.1 sc) (fitS (notSet q.2.2) (E cx ρ q.2.2 μ fun v μ => optS (items v) fun l => fitS (fitL l)
  (evEach (fun d μ => E { cx with kinds := compKinds q.1 sc, top := false } ((q.1, .val d) :: ρ) elt μ .ret) l μ fun ds μ => k (.list ds) μ)))
noncomputable def eUn (E : EF) (cx : Cx) (ρ : Rho) (op : UnaryOp) (x : Expr) (μ : Mu) (k : V → Mu → Res) : Res := match op with
  | .USub => E cx ρ x μ fun v μ => withInt v fun i => k (.int (-i)) μ
  | .Not => E cx ρ x μ fun v μ => withBool v fun b => k (.bool (!b)) μ
  | _ => .stuck
noncomputable def stepE (E : EF) (C : CF) : EF := fun cx ρ e μ k => match e with
  | .Constant c _ _ => optS (constV c) fun v => k v μ
  | .Name x _ => optS (nameV cx ρ x) fun v => k v μ
  | .BoolOp op es _ => evBool E cx ρ op es μ k
  | .BinOp l op r _ => E cx ρ l μ fun a μ => E cx ρ r μ fun b μ => optS (binV op a b) fun v => k v μ
  | .UnaryOp op x _ => eUn E cx ρ op x μ k
  | .IfExp t b o _ => C cx ρ t μ fun c μ => ifS c (E cx ρ b μ k) (E cx ρ o μ k)
  | .Dict ks vs _ => fitS (dictOk ks vs) (evPairs E cx ρ ks vs μ fun xs ds μ => fitS (nodupS xs) (k (.dict xs ds) μ))
  | .List es pos => evList E cx ρ es μ fun vs μ => fitS (fitL vs) (ifS (cx.isCell pos) (k (.cell μ.length) (μ ++ [vs])) (k (.list vs) μ))
  | .Tuple es _ _ => evList E cx ρ es μ fun vs μ => fitS (fitL vs) (k (.tup vs) μ)
  | .ListComp elt gens sc _ => eComp E cx ρ elt gens sc μ k
  | .Compare l ops rs _ => fitS (!(lastMarks ops rs)) (E cx ρ l μ fun a μ => evChain E cx ρ a ops rs μ fun b μ => k (.bool b) μ)
  | .Call f as ks pos => match ks with
    | [] => eCall E cx ρ f as pos μ k
    | _ :: _ => .stuck
  | .Attribute o n _ => fitS (plainBase o) (E cx ρ o μ fun ov μ => optS (fieldV ov n) fun v => k v μ)
  | .Subscript o s _ => E cx ρ o μ fun ov μ => eSub E cx ρ ov s μ k
  | _ => .stuck
noncomputable def stepC (E : EF) (C : CF) : CF := fun cx ρ e μ k => match e with
  | .UnaryOp op x _ => match op with
    | .Not => C cx ρ x μ fun b μ => k (!b) μ
    | _ => E cx ρ e μ fun v μ => withBool v fun b => k b μ
  | .BoolOp op es _ => evAll C cx ρ op es μ k
  | .IfExp _ _ _ _ => .stuck
  | .Compare l ops rs _ => fitS (!(lastMarks ops rs)) (E cx ρ l μ fun a μ => evChain E cx ρ a ops rs μ k)
  | _ => E cx ρ e μ fun v μ => withBool v fun b => k b μ
noncomputable def evEC : Nat → EF × CF
  | 0 => (fun u9 u9 u9 u9 u9 => .stuck, fun u9 u9 u9 u9 u9 => .stuck)
  | n + 1 => (stepE (evEC n).1 (evEC n).2, stepC (evEC n).1 (evEC n).2)
noncomputable def evE (n : Nat) : EF := (evEC n).1
noncomputable def evC (n : Nat) : CF := (evEC n).2

/-! ### statements -/
noncomputable abbrev SF := Cx → Rho → List Stmt → Mu → (Rho → Mu → Res) → Res
noncomputable def put (x : Str) (s : Slot) : Rho → Rho
  | [] => [(x, s)]
  | p :: r => match seq x p.1 with | true => (x, s) :: r | false => p :: put x s r
noncomputable def frozen (ρ : Rho) : Rho := ρ.map fun p => match p.2 with | .own l => (p.1, .val (.list l)) | .val v => (p.1, .val v)
noncomputable def bindName (cx : Cx) (v : V) : Expr → Rho → Option Rho
  | .Name x _, ρ => match isLocal cx x with | true => some (put x (.val v) ρ) | false => none
  | _, _ => none
noncomputable def bindAll (cx : Cx) : List V → List Expr → Rho → Option Rho
  | [], [], ρ => some ρ
  | v :: vs, t :: ts, ρ => match bindName cx v t ρ with | some ρ => bindAll cx vs ts ρ | none => none
  | _, _, _ => none
noncomputable def namesOf : List Expr → List Str
  | .Name x _ :: r => x :: namesOf r
  | _ => []
noncomputable def allNames (ts : List Expr) : Bool := ts.all fun | .Name _ _ => true | _ => false
noncomputable def swapOk (ts : List Expr) (e : Expr) : Bool := match nodupS (namesOf ts), allNames ts with
  | true, true => match e with
    | .Tuple vs _ _ => !(vs.all (constantsAlone 8))
    | .ListComp _ _ _ _ => false
    | .SetComp _ _ _ _ => false
    | .DictComp _ _ _ _ _ => false
    | _ => true
  | _, _ => false
noncomputable def plainVal : Expr → Bool
  | .ListComp _ _ _ _ => false
  | .SetComp _ _ _ _ => false
  | .DictComp _ _ _ _ _ => false
  | _ => true
noncomputable def compTo (x : Str) (np : Pos) (e : Expr) : Bool := match e with
  | .ListComp _ _ sc p => match Nat.beq np.line p.line with
    | true => sc.names.all fun q => match q.2 with | .local => !(seq q.1 x) | .cell => false | _ => true
    | false => false
  | _ => true
noncomputable def otherComp : Expr → Bool
  | .SetComp _ _ _ _ => true
  | .DictComp _ _ _ _ _ => true
  | _ => false
noncomputable def ownFree (ρ : Rho) : Bool := ρ.all fun p => match p.2 with | .val _ => true | .own _ => false
noncomputable def loopL (bind : V → Rho → Option Rho) (body : Rho → Mu → (Rho → Mu → Res) → Res) : List V → Rho → Mu → (Rho → Mu → Res) → Res
  | [], ρ, μ, k => k ρ μ
  | v :: r, ρ, μ, k => match bind v ρ with
    | some ρ => body ρ μ fun ρ μ => loopL bind body r ρ μ k
    | none => .stuck
noncomputable def enumL : List V → Nat → List V
  | [], _ => []
  | v :: r, i => .tup [toI i, v] :: enumL r (i + 1)
noncomputable def isEnum (cx : Cx) (ρ : Rho) : Expr → Bool
  | .Name x _ => match nameV cx ρ x with | some (.typ n) => n == "enumerate" | _ => false
  | _ => false
noncomputable def setCell (μ : Mu) (i : Nat) (j : Int) (v : V) : Option Mu := match μ[i]?, j with
  | some l, .ofNat n => match Nat.blt n l.length, Nat.blt l.length 100000 with | true, true => some (μ.set i (l.set n v)) | _, _ => none
  | _, _ => none
noncomputable def pushCell (μ : Mu) (i : Nat) (v : V) : Option Mu := match μ[i]? with
  | some l => match Nat.blt l.length 100000 with | true => some (μ.set i (l ++ [v])) | false => none
  | none => none
noncomputable def evWhile (C : CF) (cx : Cx) (t : Expr) (body : Rho → Mu → (Rho → Mu → Res) → Res) : Nat → Rho → Mu → (Rho → Mu → Res) → Res
  | 0, _, _, _ => .stuck
  | n + 1, ρ, μ, k => C cx ρ t μ fun c μ => match c with
    | true => body ρ μ fun ρ μ => evWhile C cx t body n ρ μ k
    | false => k ρ μ
noncomputable def ownOf (ρ : Rho) : Expr → Option (Str × List V)
  | .Name x _ => match look x ρ with | some (.own l) => some (x, l) | _ => none
  | _ => none
noncomputable def one1 (as : List Expr) (ks : List Keyword) : Option Expr := match as with
  | [a] => match ks with
    | [] => some a
    | _ :: _ => none
  | _ => none
noncomputable def two2 (as : List Expr) (ks : List Keyword) : Option (Expr × Expr) := match as with
  | [a, b] => match ks with
    | [] => some (a, b)
    | _ :: _ => none
  | _ => none
noncomputable def meth1 (e : Expr) : Option (Expr × Str × Pos × Expr × Pos) := match e with
  | .Call f as ks pos => (attrOf f).bind fun q => (one1 as ks).map fun a => (q.1, q.2.1, q.2.2, a, pos)
  | _ => none
noncomputable def sOwn (E : EF) (cx : Cx) (ρ : Rho) (x : Str) (l : List V) (m : Str) (a : Expr) (μ : Mu) (k : Rho → Mu → Res) : Res :=
  ifS (seq m (Str.ofString "append")) (E cx ρ a μ fun v μ => fitS (Nat.blt l.length 100000) (k (put x (.own (l ++ [v])) ρ) μ))
    (fitS (seq m (Str.ofString "extend")) (E cx ρ a μ fun v μ => withList v fun r => fitS (Nat.blt (l.length + r.length) 100000) (k (put x (.own (l ++ r)) ρ) μ)))
noncomputable def sCell (E : EF) (cx : Cx) (ρ : Rho) (o : Expr) (m : Str) (a : Expr) (μ : Mu) (k : Rho → Mu → Res) : Res :=
  fitS (seq m (Str.ofString "append")) (E cx ρ o μ fun ov μ => withCell ov fun i => E cx ρ a μ fun v μ => optS (pushCell μ i v) fun μ => k ρ μ)
noncomputable def sExpr (E : EF) (cx : Cx) (ρ : Rho) (e : Expr) (μ : Mu) (k : Rho → Mu → Res) : Res := optS (meth1 e) fun q => fitS (plainAt q.1 q.2.2.1 q.2.2.2.2 [q.2.2.2.1])
  (match ownOf ρ q.1 with
    | some p => sOwn E cx ρ p.1 p.2 q.2.1 q.2.2.2.1 μ k
    | none => sCell E cx ρ q.1 q.2.1 q.2.2.2.1 μ k)
noncomputable def emptyList : Expr → Option Pos
  | .List es pos => match es with
    | [] => some pos
    | _ :: _ => none
  | _ => none
noncomputable def sName (E : EF) (cx : Cx) (ρ : Rho) (x : Str) (np : Pos) (e : Expr) (μ : Mu) (k : Rho → Mu → Res) : Res := match emptyList e with
  | some pos => fitS (!(cx.isCell pos)) (fitS (isLocal cx x) (fitS (ownFree ρ) (k (put x (.own []) ρ) μ)))
  | none => fitS (isLocal cx x) (fitS (!(otherComp e)) (fitS (compTo x np e) (E cx ρ e μ fun v μ => k (put x (.val v) ρ) μ)))
noncomputable def sAssign (E : EF) (cx : Cx) (ρ : Rho) (t e : Expr) (μ : Mu) (k : Rho → Mu → Res) : Res := match t with
  | .Name x np => sName E cx ρ x np e μ k
  | .Tuple ts _ _ => fitS (swapOk ts e) (E cx ρ e μ fun v μ => withTup v fun vs => optS (bindAll cx vs ts ρ) fun ρ => k ρ μ)
  | .Subscript b i _ => fitS (plainVal e) (E cx ρ e μ fun v μ => E cx ρ b μ fun bv μ => E cx ρ i μ fun iv μ => withCell bv fun c => withInt iv fun j => optS (setCell μ c j v) fun μ => k ρ μ)
  | _ => .stuck
noncomputable def sAug (E : EF) (cx : Cx) (ρ : Rho) (t e : Expr) (μ : Mu) (k : Rho → Mu → Res) : Res := optS (nameOf t) fun q => optS (nameV cx ρ q.1) fun a => fitS (isLocal cx q.1) (E cx ρ e μ fun b μ => optS (binV .FloorDiv a b) fun v => k (put q.1 (.val v) ρ) μ)
noncomputable def call1 : Expr → Option (Expr × Expr × Pos)
  | .Call f as ks p => (one1 as ks).map fun a => (f, a, p)
  | _ => none
noncomputable def call2 : Expr → Option (Str × Pos × Expr × Expr × Pos)
  | .Call f as ks p => (nameOf f).bind fun q => (two2 as ks).map fun a => (q.1, q.2, a.1, a.2, p)
  | _ => none
noncomputable def tupOne (v : V) (k : List V → Option Rho) : Option Rho := match v with
  | .tup vs => k vs
  | _ => none
noncomputable def sFor (S : SF) (E : EF) (cx : Cx) (ρ : Rho) (t it : Expr) (b : List Stmt) (μ : Mu) (k : Rho → Mu → Res) : Res := match t with
  | .Name x _ => fitS (isLocal cx x) (fitS (notSet it) (E cx ρ it μ fun v μ => optS (items v) fun l => loopL (fun v ρ => some (put x (.val v) ρ)) (fun ρ μ k => S cx ρ b μ k) l ρ μ fun ρ μ => k (frozen ρ) μ))
  | .Tuple ts _ _ => optS (call1 it) fun q => fitS (nodupS (namesOf ts)) (fitS (allNames ts) (fitS (isEnum cx ρ q.1) (fitS (noStar [q.2.1]) (E cx ρ q.2.1 μ fun v μ => withList v fun l =>
    loopL (fun v ρ => tupOne v fun vs => bindAll cx vs ts ρ) (fun ρ μ k => S cx ρ b μ k) (enumL l 0) ρ μ fun ρ μ => k (frozen ρ) μ))))
  | _ => .stuck
noncomputable def isErr : V → Bool
  | .cls c => match c with
    | 0 => true
    | _ + 1 => false
  | _ => false
noncomputable def exc2 (vs : List V) (μ : Mu) : Res := match vs with
  | [v, w] => withInt v fun n => match w with
    | .str _ => .exc n μ
    | _ => .stuck
  | _ => .stuck
noncomputable def sRaise (E : EF) (cx : Cx) (ρ : Rho) (e : Expr) (μ : Mu) : Res := optS (call2 e) fun q => optS (nameV cx ρ q.1) fun v => fitS (isErr v) (fitS (noStar [q.2.2.1, q.2.2.2.1]) (evList E cx ρ [q.2.2.1, q.2.2.2.1] μ exc2))
noncomputable def sRet (E : EF) (cx : Cx) (ρ : Rho) (e : Option Expr) (μ : Mu) : Res := match e with
  | some e => E cx ρ e μ .ret
  | none => .ret .none μ
noncomputable def stepS (S : SF) (E : EF) (C : CF) (wf : Nat) : Cx → Rho → Stmt → Mu → (Rho → Mu → Res) → Res := fun cx ρ s μ k => match s with
  | .Expr e _ => sExpr E cx ρ e μ k
  | .Return e _ => sRet E cx ρ e μ
  | .Assign ts e _ => match ts with
    | [t] => sAssign E cx ρ t e μ k
    | _ => .stuck
  | .AugAssign t op e _ => match op with
    | .FloorDiv => sAug E cx ρ t e μ k
    | _ => .stuck
  | .If t b o _ => C cx ρ t μ fun c μ => ifS c (S cx ρ b μ k) (S cx ρ o μ k)
  | .While t b o _ => match o with
    | [] => evWhile C cx t (fun ρ μ k => S cx ρ b μ k) wf ρ μ k
    | _ :: _ => .stuck
  | .For t it b o _ => match o with
    | [] => sFor S E cx ρ t it b μ k
    | _ :: _ => .stuck
  | .Raise e c _ => match c with
    | none => optS e fun e => sRaise E cx ρ e μ
    | some _ => .stuck
  | .Pass _ => k ρ μ
  | _ => .stuck
noncomputable def stepSs (S : SF) (E : EF) (C : CF) (wf : Nat) : SF := fun cx ρ ss μ k => match ss with
  | [] => k ρ μ
  | s :: r => stepS S E C wf cx ρ s μ fun ρ μ => S cx ρ r μ k
noncomputable def evS : Nat → SF
  | 0 => fun u9 u9 u9 u9 u9 => .stuck
  | n + 1 => stepSs (evS n) (evE n) (evC n) n
end Mine

end

section
namespace Mine
open PySem
noncomputable abbrev pw := PySem.Challenge.pw_nz0410_01
structure Fn where
  ps : List Str
  body : List Stmt
  kinds : List (Str × NameKind)
noncomputable def fnOfStmt : Stmt → Option Fn
  | .FunctionDef _ as b _ _ _ sc _ _ _ => some ⟨as.args.map (·.arg), b, sc.names⟩
  | _ => none
noncomputable def clsBody : Stmt → List Stmt
  | .ClassDef _ _ _ b _ _ _ _ _ _ _ => b
  | _ => []
noncomputable def stAt (l : List Stmt) (i : Nat) : Option Stmt := l[i]?
noncomputable def fnInfo (i : Nat) : Option Fn := match Nat.blt i 100 with
  | true => (stAt pw.main.body i).bind fnOfStmt
  | false => match i with
    | 101 => (stAt pw.main.body 40).bind fun s => (stAt (clsBody s) 1).bind fnOfStmt
    | 102 => (stAt pw.main.body 40).bind fun s => (stAt (clsBody s) 2).bind fnOfStmt
    | _ => none
noncomputable def glTab : List (Str × V) := [
  (Str.ofString "isinstance", V.blt "isinstance"), (Str.ofString "len", V.blt "len"), (Str.ofString "abs", V.blt "abs"), (Str.ofString "ord", V.blt "ord"), (Str.ofString "chr", V.blt "chr"), (Str.ofString "repr", V.blt "repr"),
  (Str.ofString "str", V.typ "str"), (Str.ofString "int", V.typ "int"), (Str.ofString "tuple", V.typ "tuple"), (Str.ofString "list", V.typ "list"), (Str.ofString "range", V.typ "range"), (Str.ofString "enumerate", V.typ "enumerate"),
  (Str.ofString "SnobolError", V.cls 0), (Str.ofString "Failure", V.cls 1), (Str.ofString "Pattern", V.cls 2), (Str.ofString "Delayed", V.cls 3), (Str.ofString "Code", V.cls 4), (Str.ofString "NameRef", V.cls 5), (Str.ofString "Holder", V.cls 6), (Str.ofString "ExprHooks", V.cls 7),
  (Str.ofString "NULL_NODE", V.tup [.str "chars", .str ""]),
  (Str.ofString "is_fail", V.fn 8), (Str.ofString "kind_of", V.fn 9), (Str.ofString "is_null", V.fn 10), (Str.ofString "is_plain", V.fn 11), (Str.ofString "fits", V.fn 12), (Str.ofString "whole_of_text", V.fn 13), (Str.ofString "text_of_whole", V.fn 14),
  (Str.ofString "to_whole", V.fn 15), (Str.ofString "to_text", V.fn 16), (Str.ofString "need_whole", V.fn 17), (Str.ofString "checked_whole", V.fn 18), (Str.ofString "is_null_node", V.fn 21), (Str.ofString "later_node", V.fn 22),
  (Str.ofString "now_node", V.fn 23), (Str.ofString "cursor_node", V.fn 24), (Str.ofString "joined", V.fn 25), (Str.ofString "either", V.fn 26), (Str.ofString "pattern_of", V.fn 27), (Str.ofString "check_length", V.fn 29),
  (Str.ofString "divided", V.fn 31), (Str.ofString "raised_to", V.fn 32), (Str.ofString "reckoned", V.fn 33), (Str.ofString "is_part", V.fn 34), (Str.ofString "join_values", V.fn 35), (Str.ofString "either_value", V.fn 36),
  (Str.ofString "binary_value", V.fn 37), (Str.ofString "unary_value", V.fn 38), (Str.ofString "worth", V.fn 41), (Str.ofString "worths", V.fn 42), (Str.ofString "name_in", V.fn 43), (Str.ofString "worth_of_one", V.fn 44),
  (Str.ofString "worth_of_two", V.fn 45), (Str.ofString "worth_told", V.fn 46), (Str.ofString "names_asked", V.fn 47), (Str.ofString "_law_leaves", V.fn 49), (Str.ofString "_law_tree", V.fn 50), (Str.ofString "_law_whole", V.fn 51),
  (Str.ofString "_law_shown", V.fn 52), (Str.ofString "_law_node", V.fn 53), (Str.ofString "_law_reckoned", V.fn 54), (Str.ofString "_law_joined", V.fn 55), (Str.ofString "_law_two", V.fn 56), (Str.ofString "_law_name", V.fn 57),
  (Str.ofString "_law_one", V.fn 58), (Str.ofString "_law_called", V.fn 59), (Str.ofString "_law_worth", V.fn 60), (Str.ofString "_law_plain_node", V.fn 61), (Str.ofString "_law_plain", V.fn 62), (Str.ofString "_law_fails", V.fn 63)]
noncomputable def gl (x : Str) : Option V := look x glTab
noncomputable def isCellAt (p : Pos) : Bool := Nat.beq p.line 426
noncomputable def argsRho : List Str → List V → Option Rho
  | [], [] => some []
  | x :: xs, v :: vs => (argsRho xs vs).map ((x, .val v) :: ·)
  | _, _ => none
noncomputable def fuelS : Nat := 60
noncomputable def runF (Φ : Nat → List V → Mu → Res) (f : Fn) (args : List V) (μ : Mu) : Res := match argsRho f.ps args with
  | some ρ => evS fuelS { top := true, kinds := f.kinds, gl := gl, isCell := fun u9 => false, Φ := Φ } ρ f.body μ fun u9 μ => .ret .none μ
  | none => .stuck
noncomputable def lamDen (i : Nat) (args : List V) (μ : Mu) : Res := match Nat.beq i 103 with
  | true => match args with
    | [.list l] => match fitL l with | true => .ret (toI l.length) μ | false => .stuck
    | _ => .stuck
  | false => match Nat.beq i 104 with
    | true => match args with
      | [_] => .ret (.str (Str.ofString "ab")) μ
      | _ => .stuck
    | false => .stuck
noncomputable def Phi : Nat → Nat → List V → Mu → Res
  | 0 => fun u9 u9 u9 => .stuck
  | c + 1 => fun i args μ => match fnInfo i with
    | some f => match isIn i [46, 64] with
      | true => .stuck
      | false => runF (Phi c) f args μ
    | none => lamDen i args μ
noncomputable def topCx (kinds : List (Str × NameKind)) (Φ : Nat → List V → Mu → Res) : Cx := { top := true, kinds := kinds, gl := gl, isCell := fun u9 => false, Φ := Φ }
noncomputable def toldDen (Φ : Nat → List V → Mu → Res) (args : List V) (μ : Mu) : Res := match fnInfo 46 with
  | some f => match argsRho f.ps args with
    | some ρ => match Φ 41 args μ with
      | .ret v μ => evS fuelS (topCx f.kinds Φ) (put (Str.ofString "found") (.val v) ρ) (f.body.drop 1) μ fun u9 μ => .ret .none μ
      | .exc n μ => .ret (.tup [.str (Str.ofString "error"), .int n]) μ
      | _ => .stuck
    | none => .stuck
  | none => .stuck
noncomputable def onlyRet : Res → Res
  | .ret v μ => .ret v μ
  | _ => .stuck
noncomputable def PhiL (c : Nat) (i : Nat) : List V → Mu → Res := match i with
  | 46 => fun args μ => onlyRet (toldDen (Phi c) args μ)
  | i => Phi c i
noncomputable def lawCx (c : Nat) (kinds : List (Str × NameKind)) : Cx := { top := true, kinds := kinds, gl := gl, isCell := isCellAt, Φ := PhiL c }
noncomputable def hooksDen (k : Rho → Mu → Res) (ρ : Rho) (μ : Mu) : Res := match ownFree ρ, look (Str.ofString "values") ρ with
  | true, some (.val v) => k (put (Str.ofString "hooks") (.val (.inst 7 [v, .dict [Str.ofString "F", Str.ofString "G", Str.ofString "H"] [.fn 63, .fn 103, .fn 104], .int 16, .int 12, .cell μ.length])) ρ) (μ ++ [[]])
  | _, _ => .stuck
noncomputable def lawDen (c : Nat) (script : List Int) : Res := match fnInfo 64 with
  | some f => evS fuelS (lawCx c f.kinds) [(Str.ofString "script", .val (.list (script.map .int)))] (f.body.take 4) [] (hooksDen fun ρ μ => evS fuelS (lawCx c f.kinds) ρ (f.body.drop 5) μ fun u9 μ => .ret .none μ)
  | none => .stuck
noncomputable def showR : Res → String
  | .ret (.bool b) _ => s!"{b}"
  | .ret _ _ => "ret"
  | .exc n _ => s!"exc {n}"
  | .next _ _ => "next"
  | .stuck => "stuck"
end Mine

end

section
namespace Mine
theorem eAA {P0 : Prop} {P1 : Prop} {P2 : Prop} {G : Prop} (t : P0 ∧ P1 ∧ P2) (k : ∀ (h0 : P0) (h1 : P1) (h2 : P2), G) : G := k t.1 t.2.1 t.2.2
theorem eEA {α0 : Type} {P0 : α0 → Prop} {P1 : α0 → Prop} {G : Prop} (t : ∃ a0, P0 a0 ∧ P1 a0) (k : ∀ (a0 : α0) (h0 : P0 a0) (h1 : P1 a0), G) : G := Exists.elim t fun a0 t0 => k a0 t0.1 t0.2
theorem eEE {α0 : Type} {α1 : Type} {P0 : α0 → α1 → Prop} {G : Prop} (t : ∃ a0, ∃ a1, P0 a0 a1) (k : ∀ (a0 : α0) (a1 : α1) (h0 : P0 a0 a1), G) : G := Exists.elim t fun a0 t0 => Exists.elim t0 fun a1 t1 => k a0 a1 t1
theorem iAA {P0 : Prop} {P1 : Prop} {P2 : Prop} (h0 : P0) (h1 : P1) (h2 : P2) : P0 ∧ P1 ∧ P2 := ⟨h0, h1, h2⟩
theorem iEA {α0 : Type} {P0 : α0 → Prop} {P1 : α0 → Prop} (a0 : α0) (h0 : P0 a0) (h1 : P1 a0) : ∃ a0, P0 a0 ∧ P1 a0 := ⟨a0, h0, h1⟩
theorem iEE {α0 : Type} {α1 : Type} {P0 : α0 → α1 → Prop} (a0 : α0) (a1 : α1) (h0 : P0 a0 a1) : ∃ a0, ∃ a1, P0 a0 a1 := ⟨a0, a1, h0⟩
theorem eAAA {P0 : Prop} {P1 : Prop} {P2 : Prop} {P3 : Prop} {G : Prop} (t : P0 ∧ P1 ∧ P2 ∧ P3) (k : ∀ (h0 : P0) (h1 : P1) (h2 : P2) (h3 : P3), G) : G := k t.1 t.2.1 t.2.2.1 t.2.2.2
theorem eAAE {α0 : Type} {P0 : Prop} {P1 : Prop} {P2 : α0 → Prop} {G : Prop} (t : P0 ∧ P1 ∧ ∃ a0, P2 a0) (k : ∀ (h0 : P0) (h1 : P1) (a0 : α0) (h2 : P2 a0), G) : G := Exists.elim t.2.2 fun a0 t0 => k t.1 t.2.1 a0 t0
theorem eEAA {α0 : Type} {P0 : α0 → Prop} {P1 : α0 → Prop} {P2 : α0 → Prop} {G : Prop} (t : ∃ a0, P0 a0 ∧ P1 a0 ∧ P2 a0) (k : ∀ (a0 : α0) (h0 : P0 a0) (h1 : P1 a0) (h2 : P2 a0), G) : G := Exists.elim t fun a0 t0 => k a0 t0.1 t0.2.1 t0.2.2
theorem eEEA {α0 : Type} {α1 : Type} {P0 : α0 → α1 → Prop} {P1 : α0 → α1 → Prop} {G : Prop} (t : ∃ a0, ∃ a1, P0 a0 a1 ∧ P1 a0 a1) (k : ∀ (a0 : α0) (a1 : α1) (h0 : P0 a0 a1) (h1 : P1 a0 a1), G) : G := Exists.elim t fun a0 t0 => Exists.elim t0 fun a1 t1 => k a0 a1 t1.1 t1.2
theorem eEEE {α0 : Type} {α1 : Type} {α2 : Type} {P0 : α0 → α1 → α2 → Prop} {G : Prop} (t : ∃ a0, ∃ a1, ∃ a2, P0 a0 a1 a2) (k : ∀ (a0 : α0) (a1 : α1) (a2 : α2) (h0 : P0 a0 a1 a2), G) : G := Exists.elim t fun a0 t0 => Exists.elim t0 fun a1 t1 => Exists.elim t1 fun a2 t2 => k a0 a1 a2 t2
theorem iAAA {P0 : Prop} {P1 : Prop} {P2 : Prop} {P3 : Prop} (h0 : P0) (h1 : P1) (h2 : P2) (h3 : P3) : P0 ∧ P1 ∧ P2 ∧ P3 := ⟨h0, h1, h2, h3⟩
theorem iEAA {α0 : Type} {P0 : α0 → Prop} {P1 : α0 → Prop} {P2 : α0 → Prop} (a0 : α0) (h0 : P0 a0) (h1 : P1 a0) (h2 : P2 a0) : ∃ a0, P0 a0 ∧ P1 a0 ∧ P2 a0 := ⟨a0, h0, h1, h2⟩
theorem iEEA {α0 : Type} {α1 : Type} {P0 : α0 → α1 → Prop} {P1 : α0 → α1 → Prop} (a0 : α0) (a1 : α1) (h0 : P0 a0 a1) (h1 : P1 a0 a1) : ∃ a0, ∃ a1, P0 a0 a1 ∧ P1 a0 a1 := ⟨a0, a1, h0, h1⟩
theorem eAAAA {P0 : Prop} {P1 : Prop} {P2 : Prop} {P3 : Prop} {P4 : Prop} {G : Prop} (t : P0 ∧ P1 ∧ P2 ∧ P3 ∧ P4) (k : ∀ (h0 : P0) (h1 : P1) (h2 : P2) (h3 : P3) (h4 : P4), G) : G := k t.1 t.2.1 t.2.2.1 t.2.2.2.1 t.2.2.2.2
theorem eAAEA {α0 : Type} {P0 : Prop} {P1 : Prop} {P2 : α0 → Prop} {P3 : α0 → Prop} {G : Prop} (t : P0 ∧ P1 ∧ ∃ a0, P2 a0 ∧ P3 a0) (k : ∀ (h0 : P0) (h1 : P1) (a0 : α0) (h2 : P2 a0) (h3 : P3 a0), G) : G := Exists.elim t.2.2 fun a0 t0 => k t.1 t.2.1 a0 t0.1 t0.2
theorem eEAAA {α0 : Type} {P0 : α0 → Prop} {P1 : α0 → Prop} {P2 : α0 → Prop} {P3 : α0 → Prop} {G : Prop} (t : ∃ a0, P0 a0 ∧ P1 a0 ∧ P2 a0 ∧ P3 a0) (k : ∀ (a0 : α0) (h0 : P0 a0) (h1 : P1 a0) (h2 : P2 a0) (h3 : P3 a0), G) : G := Exists.elim t fun a0 t0 => k a0 t0.1 t0.2.1 t0.2.2.1 t0.2.2.2
theorem eEEAA {α0 : Type} {α1 : Type} {P0 : α0 → α1 → Prop} {P1 : α0 → α1 → Prop} {P2 : α0 → α1 → Prop} {G : Prop} (t : ∃ a0, ∃ a1, P0 a0 a1 ∧ P1 a0 a1 ∧ P2 a0 a1) (k : ∀ (a0 : α0) (a1 : α1) (h0 : P0 a0 a1) (h1 : P1 a0 a1) (h2 : P2 a0 a1), G) : G := Exists.elim t fun a0 t0 => Exists.elim t0 fun a1 t1 => k a0 a1 t1.1 t1.2.1 t1.2.2
theorem eEEEA {α0 : Type} {α1 : Type} {α2 : Type} {P0 : α0 → α1 → α2 → Prop} {P1 : α0 → α1 → α2 → Prop} {G : Prop} (t : ∃ a0, ∃ a1, ∃ a2, P0 a0 a1 a2 ∧ P1 a0 a1 a2) (k : ∀ (a0 : α0) (a1 : α1) (a2 : α2) (h0 : P0 a0 a1 a2) (h1 : P1 a0 a1 a2), G) : G := Exists.elim t fun a0 t0 => Exists.elim t0 fun a1 t1 => Exists.elim t1 fun a2 t2 => k a0 a1 a2 t2.1 t2.2
theorem iAAAA {P0 : Prop} {P1 : Prop} {P2 : Prop} {P3 : Prop} {P4 : Prop} (h0 : P0) (h1 : P1) (h2 : P2) (h3 : P3) (h4 : P4) : P0 ∧ P1 ∧ P2 ∧ P3 ∧ P4 := ⟨h0, h1, h2, h3, h4⟩
theorem iEAAA {α0 : Type} {P0 : α0 → Prop} {P1 : α0 → Prop} {P2 : α0 → Prop} {P3 : α0 → Prop} (a0 : α0) (h0 : P0 a0) (h1 : P1 a0) (h2 : P2 a0) (h3 : P3 a0) : ∃ a0, P0 a0 ∧ P1 a0 ∧ P2 a0 ∧ P3 a0 := ⟨a0, h0, h1, h2, h3⟩
theorem iEEAA {α0 : Type} {α1 : Type} {P0 : α0 → α1 → Prop} {P1 : α0 → α1 → Prop} {P2 : α0 → α1 → Prop} (a0 : α0) (a1 : α1) (h0 : P0 a0 a1) (h1 : P1 a0 a1) (h2 : P2 a0 a1) : ∃ a0, ∃ a1, P0 a0 a1 ∧ P1 a0 a1 ∧ P2 a0 a1 := ⟨a0, a1, h0, h1, h2⟩
theorem eAAEAA {α0 : Type} {P0 : Prop} {P1 : Prop} {P2 : α0 → Prop} {P3 : α0 → Prop} {P4 : α0 → Prop} {G : Prop} (t : P0 ∧ P1 ∧ ∃ a0, P2 a0 ∧ P3 a0 ∧ P4 a0) (k : ∀ (h0 : P0) (h1 : P1) (a0 : α0) (h2 : P2 a0) (h3 : P3 a0) (h4 : P4 a0), G) : G := Exists.elim t.2.2 fun a0 t0 => k t.1 t.2.1 a0 t0.1 t0.2.1 t0.2.2
theorem eAAEEA {α0 : Type} {α1 : Type} {P0 : Prop} {P1 : Prop} {P2 : α0 → α1 → Prop} {P3 : α0 → α1 → Prop} {G : Prop} (t : P0 ∧ P1 ∧ ∃ a0, ∃ a1, P2 a0 a1 ∧ P3 a0 a1) (k : ∀ (h0 : P0) (h1 : P1) (a0 : α0) (a1 : α1) (h2 : P2 a0 a1) (h3 : P3 a0 a1), G) : G := Exists.elim t.2.2 fun a0 t0 => Exists.elim t0 fun a1 t1 => k t.1 t.2.1 a0 a1 t1.1 t1.2
theorem eEAAAA {α0 : Type} {P0 : α0 → Prop} {P1 : α0 → Prop} {P2 : α0 → Prop} {P3 : α0 → Prop} {P4 : α0 → Prop} {G : Prop} (t : ∃ a0, P0 a0 ∧ P1 a0 ∧ P2 a0 ∧ P3 a0 ∧ P4 a0) (k : ∀ (a0 : α0) (h0 : P0 a0) (h1 : P1 a0) (h2 : P2 a0) (h3 : P3 a0) (h4 : P4 a0), G) : G := Exists.elim t fun a0 t0 => k a0 t0.1 t0.2.1 t0.2.2.1 t0.2.2.2.1 t0.2.2.2.2
theorem eEEAAA {α0 : Type} {α1 : Type} {P0 : α0 → α1 → Prop} {P1 : α0 → α1 → Prop} {P2 : α0 → α1 → Prop} {P3 : α0 → α1 → Prop} {G : Prop} (t : ∃ a0, ∃ a1, P0 a0 a1 ∧ P1 a0 a1 ∧ P2 a0 a1 ∧ P3 a0 a1) (k : ∀ (a0 : α0) (a1 : α1) (h0 : P0 a0 a1) (h1 : P1 a0 a1) (h2 : P2 a0 a1) (h3 : P3 a0 a1), G) : G := Exists.elim t fun a0 t0 => Exists.elim t0 fun a1 t1 => k a0 a1 t1.1 t1.2.1 t1.2.2.1 t1.2.2.2
theorem eEEEAA {α0 : Type} {α1 : Type} {α2 : Type} {P0 : α0 → α1 → α2 → Prop} {P1 : α0 → α1 → α2 → Prop} {P2 : α0 → α1 → α2 → Prop} {G : Prop} (t : ∃ a0, ∃ a1, ∃ a2, P0 a0 a1 a2 ∧ P1 a0 a1 a2 ∧ P2 a0 a1 a2) (k : ∀ (a0 : α0) (a1 : α1) (a2 : α2) (h0 : P0 a0 a1 a2) (h1 : P1 a0 a1 a2) (h2 : P2 a0 a1 a2), G) : G := Exists.elim t fun a0 t0 => Exists.elim t0 fun a1 t1 => Exists.elim t1 fun a2 t2 => k a0 a1 a2 t2.1 t2.2.1 t2.2.2
theorem eEEEEA {α0 : Type} {α1 : Type} {α2 : Type} {α3 : Type} {P0 : α0 → α1 → α2 → α3 → Prop} {P1 : α0 → α1 → α2 → α3 → Prop} {G : Prop} (t : ∃ a0, ∃ a1, ∃ a2, ∃ a3, P0 a0 a1 a2 a3 ∧ P1 a0 a1 a2 a3) (k : ∀ (a0 : α0) (a1 : α1) (a2 : α2) (a3 : α3) (h0 : P0 a0 a1 a2 a3) (h1 : P1 a0 a1 a2 a3), G) : G := Exists.elim t fun a0 t0 => Exists.elim t0 fun a1 t1 => Exists.elim t1 fun a2 t2 => Exists.elim t2 fun a3 t3 => k a0 a1 a2 a3 t3.1 t3.2
theorem iAAEAA {α0 : Type} {P0 : Prop} {P1 : Prop} {P2 : α0 → Prop} {P3 : α0 → Prop} {P4 : α0 → Prop} (h0 : P0) (h1 : P1) (a0 : α0) (h2 : P2 a0) (h3 : P3 a0) (h4 : P4 a0) : P0 ∧ P1 ∧ ∃ a0, P2 a0 ∧ P3 a0 ∧ P4 a0 := ⟨h0, h1, a0, h2, h3, h4⟩
theorem iAAEEA {α0 : Type} {α1 : Type} {P0 : Prop} {P1 : Prop} {P2 : α0 → α1 → Prop} {P3 : α0 → α1 → Prop} (h0 : P0) (h1 : P1) (a0 : α0) (a1 : α1) (h2 : P2 a0 a1) (h3 : P3 a0 a1) : P0 ∧ P1 ∧ ∃ a0, ∃ a1, P2 a0 a1 ∧ P3 a0 a1 := ⟨h0, h1, a0, a1, h2, h3⟩
theorem iEEAAA {α0 : Type} {α1 : Type} {P0 : α0 → α1 → Prop} {P1 : α0 → α1 → Prop} {P2 : α0 → α1 → Prop} {P3 : α0 → α1 → Prop} (a0 : α0) (a1 : α1) (h0 : P0 a0 a1) (h1 : P1 a0 a1) (h2 : P2 a0 a1) (h3 : P3 a0 a1) : ∃ a0, ∃ a1, P0 a0 a1 ∧ P1 a0 a1 ∧ P2 a0 a1 ∧ P3 a0 a1 := ⟨a0, a1, h0, h1, h2, h3⟩
theorem iEEEAA {α0 : Type} {α1 : Type} {α2 : Type} {P0 : α0 → α1 → α2 → Prop} {P1 : α0 → α1 → α2 → Prop} {P2 : α0 → α1 → α2 → Prop} (a0 : α0) (a1 : α1) (a2 : α2) (h0 : P0 a0 a1 a2) (h1 : P1 a0 a1 a2) (h2 : P2 a0 a1 a2) : ∃ a0, ∃ a1, ∃ a2, P0 a0 a1 a2 ∧ P1 a0 a1 a2 ∧ P2 a0 a1 a2 := ⟨a0, a1, a2, h0, h1, h2⟩
theorem eEEAAAA {α0 : Type} {α1 : Type} {P0 : α0 → α1 → Prop} {P1 : α0 → α1 → Prop} {P2 : α0 → α1 → Prop} {P3 : α0 → α1 → Prop} {P4 : α0 → α1 → Prop} {G : Prop} (t : ∃ a0, ∃ a1, P0 a0 a1 ∧ P1 a0 a1 ∧ P2 a0 a1 ∧ P3 a0 a1 ∧ P4 a0 a1) (k : ∀ (a0 : α0) (a1 : α1) (h0 : P0 a0 a1) (h1 : P1 a0 a1) (h2 : P2 a0 a1) (h3 : P3 a0 a1) (h4 : P4 a0 a1), G) : G := Exists.elim t fun a0 t0 => Exists.elim t0 fun a1 t1 => k a0 a1 t1.1 t1.2.1 t1.2.2.1 t1.2.2.2.1 t1.2.2.2.2
theorem eEEEAAA {α0 : Type} {α1 : Type} {α2 : Type} {P0 : α0 → α1 → α2 → Prop} {P1 : α0 → α1 → α2 → Prop} {P2 : α0 → α1 → α2 → Prop} {P3 : α0 → α1 → α2 → Prop} {G : Prop} (t : ∃ a0, ∃ a1, ∃ a2, P0 a0 a1 a2 ∧ P1 a0 a1 a2 ∧ P2 a0 a1 a2 ∧ P3 a0 a1 a2) (k : ∀ (a0 : α0) (a1 : α1) (a2 : α2) (h0 : P0 a0 a1 a2) (h1 : P1 a0 a1 a2) (h2 : P2 a0 a1 a2) (h3 : P3 a0 a1 a2), G) : G := Exists.elim t fun a0 t0 => Exists.elim t0 fun a1 t1 => Exists.elim t1 fun a2 t2 => k a0 a1 a2 t2.1 t2.2.1 t2.2.2.1 t2.2.2.2
theorem eEEEEAA {α0 : Type} {α1 : Type} {α2 : Type} {α3 : Type} {P0 : α0 → α1 → α2 → α3 → Prop} {P1 : α0 → α1 → α2 → α3 → Prop} {P2 : α0 → α1 → α2 → α3 → Prop} {G : Prop} (t : ∃ a0, ∃ a1, ∃ a2, ∃ a3, P0 a0 a1 a2 a3 ∧ P1 a0 a1 a2 a3 ∧ P2 a0 a1 a2 a3) (k : ∀ (a0 : α0) (a1 : α1) (a2 : α2) (a3 : α3) (h0 : P0 a0 a1 a2 a3) (h1 : P1 a0 a1 a2 a3) (h2 : P2 a0 a1 a2 a3), G) : G := Exists.elim t fun a0 t0 => Exists.elim t0 fun a1 t1 => Exists.elim t1 fun a2 t2 => Exists.elim t2 fun a3 t3 => k a0 a1 a2 a3 t3.1 t3.2.1 t3.2.2
theorem iEEAAAA {α0 : Type} {α1 : Type} {P0 : α0 → α1 → Prop} {P1 : α0 → α1 → Prop} {P2 : α0 → α1 → Prop} {P3 : α0 → α1 → Prop} {P4 : α0 → α1 → Prop} (a0 : α0) (a1 : α1) (h0 : P0 a0 a1) (h1 : P1 a0 a1) (h2 : P2 a0 a1) (h3 : P3 a0 a1) (h4 : P4 a0 a1) : ∃ a0, ∃ a1, P0 a0 a1 ∧ P1 a0 a1 ∧ P2 a0 a1 ∧ P3 a0 a1 ∧ P4 a0 a1 := ⟨a0, a1, h0, h1, h2, h3, h4⟩
theorem iEEEAAA {α0 : Type} {α1 : Type} {α2 : Type} {P0 : α0 → α1 → α2 → Prop} {P1 : α0 → α1 → α2 → Prop} {P2 : α0 → α1 → α2 → Prop} {P3 : α0 → α1 → α2 → Prop} (a0 : α0) (a1 : α1) (a2 : α2) (h0 : P0 a0 a1 a2) (h1 : P1 a0 a1 a2) (h2 : P2 a0 a1 a2) (h3 : P3 a0 a1 a2) : ∃ a0, ∃ a1, ∃ a2, P0 a0 a1 a2 ∧ P1 a0 a1 a2 ∧ P2 a0 a1 a2 ∧ P3 a0 a1 a2 := ⟨a0, a1, a2, h0, h1, h2, h3⟩
theorem eEEEAAAA {α0 : Type} {α1 : Type} {α2 : Type} {P0 : α0 → α1 → α2 → Prop} {P1 : α0 → α1 → α2 → Prop} {P2 : α0 → α1 → α2 → Prop} {P3 : α0 → α1 → α2 → Prop} {P4 : α0 → α1 → α2 → Prop} {G : Prop} (t : ∃ a0, ∃ a1, ∃ a2, P0 a0 a1 a2 ∧ P1 a0 a1 a2 ∧ P2 a0 a1 a2 ∧ P3 a0 a1 a2 ∧ P4 a0 a1 a2) (k : ∀ (a0 : α0) (a1 : α1) (a2 : α2) (h0 : P0 a0 a1 a2) (h1 : P1 a0 a1 a2) (h2 : P2 a0 a1 a2) (h3 : P3 a0 a1 a2) (h4 : P4 a0 a1 a2), G) : G := Exists.elim t fun a0 t0 => Exists.elim t0 fun a1 t1 => Exists.elim t1 fun a2 t2 => k a0 a1 a2 t2.1 t2.2.1 t2.2.2.1 t2.2.2.2.1 t2.2.2.2.2
theorem eEEEAAAAA {α0 : Type} {α1 : Type} {α2 : Type} {P0 : α0 → α1 → α2 → Prop} {P1 : α0 → α1 → α2 → Prop} {P2 : α0 → α1 → α2 → Prop} {P3 : α0 → α1 → α2 → Prop} {P4 : α0 → α1 → α2 → Prop} {P5 : α0 → α1 → α2 → Prop} {G : Prop} (t : ∃ a0, ∃ a1, ∃ a2, P0 a0 a1 a2 ∧ P1 a0 a1 a2 ∧ P2 a0 a1 a2 ∧ P3 a0 a1 a2 ∧ P4 a0 a1 a2 ∧ P5 a0 a1 a2) (k : ∀ (a0 : α0) (a1 : α1) (a2 : α2) (h0 : P0 a0 a1 a2) (h1 : P1 a0 a1 a2) (h2 : P2 a0 a1 a2) (h3 : P3 a0 a1 a2) (h4 : P4 a0 a1 a2) (h5 : P5 a0 a1 a2), G) : G := Exists.elim t fun a0 t0 => Exists.elim t0 fun a1 t1 => Exists.elim t1 fun a2 t2 => k a0 a1 a2 t2.1 t2.2.1 t2.2.2.1 t2.2.2.2.1 t2.2.2.2.2.1 t2.2.2.2.2.2
theorem eEEEEAAAA {α0 : Type} {α1 : Type} {α2 : Type} {α3 : Type} {P0 : α0 → α1 → α2 → α3 → Prop} {P1 : α0 → α1 → α2 → α3 → Prop} {P2 : α0 → α1 → α2 → α3 → Prop} {P3 : α0 → α1 → α2 → α3 → Prop} {P4 : α0 → α1 → α2 → α3 → Prop} {G : Prop} (t : ∃ a0, ∃ a1, ∃ a2, ∃ a3, P0 a0 a1 a2 a3 ∧ P1 a0 a1 a2 a3 ∧ P2 a0 a1 a2 a3 ∧ P3 a0 a1 a2 a3 ∧ P4 a0 a1 a2 a3) (k : ∀ (a0 : α0) (a1 : α1) (a2 : α2) (a3 : α3) (h0 : P0 a0 a1 a2 a3) (h1 : P1 a0 a1 a2 a3) (h2 : P2 a0 a1 a2 a3) (h3 : P3 a0 a1 a2 a3) (h4 : P4 a0 a1 a2 a3), G) : G := Exists.elim t fun a0 t0 => Exists.elim t0 fun a1 t1 => Exists.elim t1 fun a2 t2 => Exists.elim t2 fun a3 t3 => k a0 a1 a2 a3 t3.1 t3.2.1 t3.2.2.1 t3.2.2.2.1 t3.2.2.2.2
end Mine

end

section
namespace Mine
open PySem PySem.W PySem.Calls PyProof.Rows
noncomputable def fnParts : Stmt → Option (Arguments × List Stmt × Scope)
  | .FunctionDef _ as b _ _ _ sc _ _ _ => some (as, b, sc)
  | _ => none
noncomputable def partsOf (i : Nat) : Arguments × List Stmt × Scope := ((match Nat.blt i 100 with
  | true => (stAt pw.main.body i).bind fnParts
  | false => match Nat.blt i 200 with
    | true => (stAt pw.main.body 40).bind fun s => (stAt (clsBody s) (i - 100)).bind fnParts
    | false => (stAt pw.main.body (i - 200)).bind fun s => (stAt (clsBody s) 0).bind fnParts)).getD (⟨[], [], none, [], [], none, []⟩, [], default)
noncomputable abbrev ks (s : String) (t : Nat) : Value := .str (Str.ofString s) t
noncomputable def kh (P : Params) (x : Str) : Int := if x.cps.isEmpty = true then 0 else reduceHash (P.strHash x.cps)
noncomputable abbrev ke (P : Params) (s : String) (t : Nat) (v : Value) : DictEntry := ⟨kh P (Str.ofString s), ks s t, v⟩
noncomputable abbrev kfd (name qual : String) (i : Nat) (cl : List (Str × Addr)) (d pm : Value) (c : Addr) (ct : Value) : FuncData :=
  fnX (Str.ofString name) (Str.ofString qual) (partsOf i).1 (partsOf i).2.1 (partsOf i).2.2 cl d .none .none pm none (.ref c) ct
noncomputable abbrev kf (name qual : String) (i : Nat) (cl : List (Str × Addr)) (d pm : Value) (c : Addr) (ct : Value) : Obj := { cls := .type "function", data := .func (kfd name qual i cl d pm c ct) }
noncomputable def ko2 (P : Params) : Obj := { cls := .none, data := .dict #[ke P "type.__subclasses__.Exception.0" 219 (.int 34 0), ke P "type.__subclasses__.Exception.n" 220 (.int 1 0)] 2 }
noncomputable def ko3 (P : Params) : Obj := { cls := .type "dict", data := .dict #[ke P "__name__" 165 (ks "law_nz0410_01" 761), ke P "__doc__" 166 (.none), ke P "__package__" 167 (.none), ke P "__loader__" 168 (.builtin "__main__.__loader__#opaque"), ke P "__spec__" 169 (.none), ke P "__annotations__" 170 (.ref 6), ke P "__builtins__" 171 (.ref 4), ke P "__file__" 173 (ks "/claim/cut.py" 172), ke P "__cached__" 174 (.none), ke P "SnobolError" 222 (.ref 34), ke P "Failure" 242 (.ref 47), ke P "Pattern" 271 (.ref 68), ke P "Delayed" 300 (.ref 89), ke P "Code" 329 (.ref 110), ke P "NameRef" 362 (.ref 131), ke P "Holder" 394 (.ref 152), ke P "is_fail" 401 (.ref 163), ke P "kind_of" 408 (.ref 170), ke P "is_null" 415 (.ref 177), ke P "is_plain" 422 (.ref 184), ke P "fits" 430 (.ref 191), ke P "whole_of_text" 441 (.ref 198), ke P "text_of_whole" 450 (.ref 205), ke P "to_whole" 458 (.ref 212), ke P "to_text" 465 (.ref 219), ke P "need_whole" 474 (.ref 226), ke P "checked_whole" 482 (.ref 233), ke P "NULL_NODE" 487 (.ref 234), ke P "is_null_node" 494 (.ref 241), ke P "later_node" 502 (.ref 248), ke P "now_node" 510 (.ref 255), ke P "cursor_node" 517 (.ref 262), ke P "joined" 525 (.ref 269), ke P "either" 533 (.ref 276), ke P "pattern_of" 541 (.ref 283), ke P "check_length" 551 (.ref 290), ke P "divided" 562 (.ref 297), ke P "raised_to" 573 (.ref 304), ke P "reckoned" 583 (.ref 311), ke P "is_part" 590 (.ref 318), ke P "join_values" 599 (.ref 325), ke P "either_value" 607 (.ref 332), ke P "binary_value" 618 (.ref 339), ke P "unary_value" 628 (.ref 346), ke P "ExprHooks" 684 (.ref 377), ke P "worth" 694 (.ref 388), ke P "worths" 705 (.ref 395), ke P "name_in" 715 (.ref 402), ke P "worth_of_one" 726 (.ref 409), ke P "worth_of_two" 741 (.ref 416), ke P "worth_told" 751 (.ref 423), ke P "names_asked" 760 (.ref 430), ke P "_law_leaves" 768 (.ref 437), ke P "_law_tree" 774 (.ref 442), ke P "_law_whole" 784 (.ref 449), ke P "_law_shown" 791 (.ref 456), ke P "_law_node" 798 (.ref 463), ke P "_law_reckoned" 808 (.ref 470), ke P "_law_joined" 819 (.ref 477), ke P "_law_two" 830 (.ref 484), ke P "_law_name" 840 (.ref 491), ke P "_law_one" 852 (.ref 498), ke P "_law_called" 861 (.ref 505), ke P "_law_worth" 878 (.ref 512), ke P "_law_plain_node" 884 (.ref 517), ke P "_law_plain" 891 (.ref 524), ke P "_law_fails" 898 (.ref 531), ke P "law" 904 (.ref 536)] 68 }
noncomputable def ko18 : Obj := { cls := .type "cell", data := .cell (some (.ref 34)) }
noncomputable def ko23 : Obj := { cls := .type "tuple", data := .seq #[ks "" 201] }
noncomputable def ko30 : Obj := { cls := .type "code", data := .fields #[ks "__init__" 202, ks "SnobolError.__init__" 203, ks "/claim/cut.py" 204, .int 4 0, .int 3 0, .int 0 0, .int 0 0, .int 3 0, .ref 25, .bool true, .int 181 0, .ref 26, .none, .ref 27, .ref 28, .ref 29, .int 209 0, .int 4 0, ks "/claim/cut.py" 210] }
noncomputable def ko31 : Obj := kf "__init__" "SnobolError.__init__" 201 [(Str.ofString "__class__", 18)] (.ref 23) (ks "snobol.values" 187) 30 (.ref 24)
noncomputable def ko33 (P : Params) : Obj := { cls := .type "dict", data := .dict #[ke P "__module__" 196 (ks "snobol.values" 187), ke P "__firstlineno__" 200 (.int 2 199), ke P "__init__" 211 (.ref 31), ke P "__static_attributes__" 214 (.ref 32), ke P "__weakref__" 217 (.ref 35), ke P "__doc__" 218 (.none)] 4 }
noncomputable def ko34 : Obj := { cls := .type "type", data := .cls { name := Str.ofString "SnobolError", bases := [.type "Exception"], mro := [.ref 34, .type "Exception", .type "BaseException", .type "object"], ns := 33, qualname := Str.ofString "SnobolError" }, slots := #[some (.ref 15), none, some (ks "SnobolError" 189), some (ks "SnobolError" 197), some (.builtin "Exception.__new__"), some (.bool true)] }
noncomputable def ko46 (P : Params) : Obj := { cls := .type "dict", data := .dict #[ke P "__module__" 230 (ks "snobol.values" 187), ke P "__firstlineno__" 234 (.int 8 233), ke P "__static_attributes__" 235 (.ref 45), ke P "__dict__" 237 (.ref 48), ke P "__weakref__" 239 (.ref 49), ke P "__doc__" 240 (.none)] 4 }
noncomputable def ko47 : Obj := { cls := .type "type", data := .cls { name := Str.ofString "Failure", bases := [.type "object"], mro := [.ref 47, .type "object"], ns := 46, qualname := Str.ofString "Failure" }, slots := #[none, none, some (ks "Failure" 223), some (ks "Failure" 231), some (.builtin "object.__new__"), some (.bool true)] }
noncomputable def ko64 : Obj := { cls := .type "code", data := .fields #[ks "__init__" 255, ks "Pattern.__init__" 256, ks "/claim/cut.py" 257, .int 12 0, .int 2 0, .int 0 0, .int 0 0, .int 3 0, .ref 59, .bool true, .int 181 0, .ref 60, .none, .ref 61, .ref 62, .ref 63, .int 260 0, .int 12 0, ks "/claim/cut.py" 261] }
noncomputable def ko65 : Obj := kf "__init__" "Pattern.__init__" 203 [] (.none) (ks "snobol.values" 187) 64 (.none)
noncomputable def ko67 (P : Params) : Obj := { cls := .type "dict", data := .dict #[ke P "__module__" 250 (ks "snobol.values" 187), ke P "__firstlineno__" 254 (.int 10 253), ke P "__init__" 262 (.ref 65), ke P "__static_attributes__" 264 (.ref 66), ke P "__dict__" 266 (.ref 69), ke P "__weakref__" 268 (.ref 70), ke P "__doc__" 269 (.none)] 4 }
noncomputable def ko68 : Obj := { cls := .type "type", data := .cls { name := Str.ofString "Pattern", bases := [.type "object"], mro := [.ref 68, .type "object"], ns := 67, qualname := Str.ofString "Pattern" }, slots := #[none, none, some (ks "Pattern" 243), some (ks "Pattern" 251), some (.builtin "object.__new__"), some (.bool true)] }
noncomputable def ko85 : Obj := { cls := .type "code", data := .fields #[ks "__init__" 284, ks "Delayed.__init__" 285, ks "/claim/cut.py" 286, .int 16 0, .int 2 0, .int 0 0, .int 0 0, .int 3 0, .ref 80, .bool true, .int 181 0, .ref 81, .none, .ref 82, .ref 83, .ref 84, .int 289 0, .int 16 0, ks "/claim/cut.py" 290] }
noncomputable def ko86 : Obj := kf "__init__" "Delayed.__init__" 204 [] (.none) (ks "snobol.values" 187) 85 (.none)
noncomputable def ko88 (P : Params) : Obj := { cls := .type "dict", data := .dict #[ke P "__module__" 279 (ks "snobol.values" 187), ke P "__firstlineno__" 283 (.int 14 282), ke P "__init__" 291 (.ref 86), ke P "__static_attributes__" 293 (.ref 87), ke P "__dict__" 295 (.ref 90), ke P "__weakref__" 297 (.ref 91), ke P "__doc__" 298 (.none)] 4 }
noncomputable def ko89 : Obj := { cls := .type "type", data := .cls { name := Str.ofString "Delayed", bases := [.type "object"], mro := [.ref 89, .type "object"], ns := 88, qualname := Str.ofString "Delayed" }, slots := #[none, none, some (ks "Delayed" 272), some (ks "Delayed" 280), some (.builtin "object.__new__"), some (.bool true)] }
noncomputable def ko106 : Obj := { cls := .type "code", data := .fields #[ks "__init__" 313, ks "Code.__init__" 314, ks "/claim/cut.py" 315, .int 20 0, .int 2 0, .int 0 0, .int 0 0, .int 3 0, .ref 101, .bool true, .int 181 0, .ref 102, .none, .ref 103, .ref 104, .ref 105, .int 318 0, .int 20 0, ks "/claim/cut.py" 319] }
noncomputable def ko107 : Obj := kf "__init__" "Code.__init__" 205 [] (.none) (ks "snobol.values" 187) 106 (.none)
noncomputable def ko109 (P : Params) : Obj := { cls := .type "dict", data := .dict #[ke P "__module__" 308 (ks "snobol.values" 187), ke P "__firstlineno__" 312 (.int 18 311), ke P "__init__" 320 (.ref 107), ke P "__static_attributes__" 322 (.ref 108), ke P "__dict__" 324 (.ref 111), ke P "__weakref__" 326 (.ref 112), ke P "__doc__" 327 (.none)] 4 }
noncomputable def ko110 : Obj := { cls := .type "type", data := .cls { name := Str.ofString "Code", bases := [.type "object"], mro := [.ref 110, .type "object"], ns := 109, qualname := Str.ofString "Code" }, slots := #[none, none, some (ks "Code" 301), some (ks "Code" 309), some (.builtin "object.__new__"), some (.bool true)] }
noncomputable def ko127 : Obj := { cls := .type "code", data := .fields #[ks "__init__" 342, ks "NameRef.__init__" 343, ks "/claim/cut.py" 344, .int 24 0, .int 4 0, .int 0 0, .int 0 0, .int 3 0, .ref 122, .bool true, .int 181 0, .ref 123, .none, .ref 124, .ref 125, .ref 126, .int 349 0, .int 24 0, ks "/claim/cut.py" 350] }
noncomputable def ko128 : Obj := kf "__init__" "NameRef.__init__" 206 [] (.none) (ks "snobol.values" 187) 127 (.none)
noncomputable def ko130 (P : Params) : Obj := { cls := .type "dict", data := .dict #[ke P "__module__" 337 (ks "snobol.values" 187), ke P "__firstlineno__" 341 (.int 22 340), ke P "__init__" 351 (.ref 128), ke P "__static_attributes__" 355 (.ref 129), ke P "__dict__" 357 (.ref 132), ke P "__weakref__" 359 (.ref 133), ke P "__doc__" 360 (.none)] 4 }
noncomputable def ko131 : Obj := { cls := .type "type", data := .cls { name := Str.ofString "NameRef", bases := [.type "object"], mro := [.ref 131, .type "object"], ns := 130, qualname := Str.ofString "NameRef" }, slots := #[none, none, some (ks "NameRef" 330), some (ks "NameRef" 338), some (.builtin "object.__new__"), some (.bool true)] }
noncomputable def ko148 : Obj := { cls := .type "code", data := .fields #[ks "__init__" 375, ks "Holder.__init__" 376, ks "/claim/cut.py" 377, .int 30 0, .int 3 0, .int 0 0, .int 0 0, .int 3 0, .ref 143, .bool true, .int 181 0, .ref 144, .none, .ref 145, .ref 146, .ref 147, .int 381 0, .int 30 0, ks "/claim/cut.py" 382] }
noncomputable def ko149 : Obj := kf "__init__" "Holder.__init__" 207 [] (.none) (ks "snobol.values" 187) 148 (.none)
noncomputable def ko151 (P : Params) : Obj := { cls := .type "dict", data := .dict #[ke P "__module__" 370 (ks "snobol.values" 187), ke P "__firstlineno__" 374 (.int 28 373), ke P "__init__" 383 (.ref 149), ke P "__static_attributes__" 387 (.ref 150), ke P "__dict__" 389 (.ref 153), ke P "__weakref__" 391 (.ref 154), ke P "__doc__" 392 (.none)] 4 }
noncomputable def ko152 : Obj := { cls := .type "type", data := .cls { name := Str.ofString "Holder", bases := [.type "object"], mro := [.ref 152, .type "object"], ns := 151, qualname := Str.ofString "Holder" }, slots := #[none, none, some (ks "Holder" 363), some (ks "Holder" 371), some (.builtin "object.__new__"), some (.bool true)] }
noncomputable def ko162 : Obj := { cls := .type "code", data := .fields #[ks "is_fail" 395, ks "is_fail" 396, ks "/claim/cut.py" 397, .int 34 0, .int 1 0, .int 0 0, .int 0 0, .int 3 0, .ref 157, .bool true, .int 181 0, .ref 158, .none, .ref 159, .ref 160, .ref 161, .int 399 0, .int 34 0, ks "/claim/cut.py" 400] }
noncomputable def ko163 : Obj := kf "is_fail" "is_fail" 8 [] (.none) (ks "snobol.values" 187) 162 (.none)
noncomputable def ko169 : Obj := { cls := .type "code", data := .fields #[ks "kind_of" 402, ks "kind_of" 403, ks "/claim/cut.py" 404, .int 36 0, .int 1 0, .int 0 0, .int 0 0, .int 3 0, .ref 164, .bool true, .int 181 0, .ref 165, .none, .ref 166, .ref 167, .ref 168, .int 406 0, .int 36 0, ks "/claim/cut.py" 407] }
noncomputable def ko170 : Obj := kf "kind_of" "kind_of" 9 [] (.none) (ks "snobol.values" 187) 169 (.none)
noncomputable def ko176 : Obj := { cls := .type "code", data := .fields #[ks "is_null" 409, ks "is_null" 410, ks "/claim/cut.py" 411, .int 50 0, .int 1 0, .int 0 0, .int 0 0, .int 3 0, .ref 171, .bool true, .int 181 0, .ref 172, .none, .ref 173, .ref 174, .ref 175, .int 413 0, .int 50 0, ks "/claim/cut.py" 414] }
noncomputable def ko177 : Obj := kf "is_null" "is_null" 10 [] (.none) (ks "snobol.values" 187) 176 (.none)
noncomputable def ko183 : Obj := { cls := .type "code", data := .fields #[ks "is_plain" 416, ks "is_plain" 417, ks "/claim/cut.py" 418, .int 52 0, .int 1 0, .int 0 0, .int 0 0, .int 3 0, .ref 178, .bool true, .int 181 0, .ref 179, .none, .ref 180, .ref 181, .ref 182, .int 420 0, .int 52 0, ks "/claim/cut.py" 421] }
noncomputable def ko184 : Obj := kf "is_plain" "is_plain" 11 [] (.none) (ks "snobol.values" 187) 183 (.none)
noncomputable def ko190 : Obj := { cls := .type "code", data := .fields #[ks "fits" 423, ks "fits" 424, ks "/claim/cut.py" 425, .int 54 0, .int 2 0, .int 0 0, .int 0 0, .int 3 0, .ref 185, .bool true, .int 181 0, .ref 186, .none, .ref 187, .ref 188, .ref 189, .int 428 0, .int 54 0, ks "/claim/cut.py" 429] }
noncomputable def ko191 : Obj := kf "fits" "fits" 12 [] (.none) (ks "snobol.values" 187) 190 (.none)
noncomputable def ko197 : Obj := { cls := .type "code", data := .fields #[ks "whole_of_text" 431, ks "whole_of_text" 432, ks "/claim/cut.py" 433, .int 56 0, .int 2 0, .int 0 0, .int 0 0, .int 3 0, .ref 192, .bool true, .int 181 0, .ref 193, .none, .ref 194, .ref 195, .ref 196, .int 439 0, .int 56 0, ks "/claim/cut.py" 440] }
noncomputable def ko198 : Obj := kf "whole_of_text" "whole_of_text" 13 [] (.none) (ks "snobol.values" 187) 197 (.none)
noncomputable def ko204 : Obj := { cls := .type "code", data := .fields #[ks "text_of_whole" 442, ks "text_of_whole" 443, ks "/claim/cut.py" 444, .int 69 0, .int 1 0, .int 0 0, .int 0 0, .int 3 0, .ref 199, .bool true, .int 181 0, .ref 200, .none, .ref 201, .ref 202, .ref 203, .int 448 0, .int 69 0, ks "/claim/cut.py" 449] }
noncomputable def ko205 : Obj := kf "text_of_whole" "text_of_whole" 14 [] (.none) (ks "snobol.values" 187) 204 (.none)
noncomputable def ko211 : Obj := { cls := .type "code", data := .fields #[ks "to_whole" 451, ks "to_whole" 452, ks "/claim/cut.py" 453, .int 75 0, .int 2 0, .int 0 0, .int 0 0, .int 3 0, .ref 206, .bool true, .int 181 0, .ref 207, .none, .ref 208, .ref 209, .ref 210, .int 456 0, .int 75 0, ks "/claim/cut.py" 457] }
noncomputable def ko212 : Obj := kf "to_whole" "to_whole" 15 [] (.none) (ks "snobol.values" 187) 211 (.none)
noncomputable def ko218 : Obj := { cls := .type "code", data := .fields #[ks "to_text" 459, ks "to_text" 460, ks "/claim/cut.py" 461, .int 79 0, .int 1 0, .int 0 0, .int 0 0, .int 3 0, .ref 213, .bool true, .int 181 0, .ref 214, .none, .ref 215, .ref 216, .ref 217, .int 463 0, .int 79 0, ks "/claim/cut.py" 464] }
noncomputable def ko219 : Obj := kf "to_text" "to_text" 16 [] (.none) (ks "snobol.values" 187) 218 (.none)
noncomputable def ko225 : Obj := { cls := .type "code", data := .fields #[ks "need_whole" 466, ks "need_whole" 467, ks "/claim/cut.py" 468, .int 83 0, .int 2 0, .int 0 0, .int 0 0, .int 3 0, .ref 220, .bool true, .int 181 0, .ref 221, .none, .ref 222, .ref 223, .ref 224, .int 472 0, .int 83 0, ks "/claim/cut.py" 473] }
noncomputable def ko226 : Obj := kf "need_whole" "need_whole" 17 [] (.none) (ks "snobol.values" 187) 225 (.none)
noncomputable def ko232 : Obj := { cls := .type "code", data := .fields #[ks "checked_whole" 475, ks "checked_whole" 476, ks "/claim/cut.py" 477, .int 88 0, .int 2 0, .int 0 0, .int 0 0, .int 3 0, .ref 227, .bool true, .int 181 0, .ref 228, .none, .ref 229, .ref 230, .ref 231, .int 480 0, .int 88 0, ks "/claim/cut.py" 481] }
noncomputable def ko233 : Obj := kf "checked_whole" "checked_whole" 18 [] (.none) (ks "snobol.values" 187) 232 (.none)
noncomputable def ko234 : Obj := { cls := .type "tuple", data := .seq #[ks "chars" 485, ks "" 486] }
noncomputable def ko240 : Obj := { cls := .type "code", data := .fields #[ks "is_null_node" 488, ks "is_null_node" 489, ks "/claim/cut.py" 490, .int 94 0, .int 1 0, .int 0 0, .int 0 0, .int 3 0, .ref 235, .bool true, .int 181 0, .ref 236, .none, .ref 237, .ref 238, .ref 239, .int 492 0, .int 94 0, ks "/claim/cut.py" 493] }
noncomputable def ko241 : Obj := kf "is_null_node" "is_null_node" 21 [] (.none) (ks "snobol.nodes" 483) 240 (.none)
noncomputable def ko247 : Obj := { cls := .type "code", data := .fields #[ks "later_node" 495, ks "later_node" 496, ks "/claim/cut.py" 497, .int 96 0, .int 2 0, .int 0 0, .int 0 0, .int 3 0, .ref 242, .bool true, .int 181 0, .ref 243, .none, .ref 244, .ref 245, .ref 246, .int 500 0, .int 96 0, ks "/claim/cut.py" 501] }
noncomputable def ko248 : Obj := kf "later_node" "later_node" 22 [] (.none) (ks "snobol.nodes" 483) 247 (.none)
noncomputable def ko254 : Obj := { cls := .type "code", data := .fields #[ks "now_node" 503, ks "now_node" 504, ks "/claim/cut.py" 505, .int 98 0, .int 2 0, .int 0 0, .int 0 0, .int 3 0, .ref 249, .bool true, .int 181 0, .ref 250, .none, .ref 251, .ref 252, .ref 253, .int 508 0, .int 98 0, ks "/claim/cut.py" 509] }
noncomputable def ko255 : Obj := kf "now_node" "now_node" 23 [] (.none) (ks "snobol.nodes" 483) 254 (.none)
noncomputable def ko261 : Obj := { cls := .type "code", data := .fields #[ks "cursor_node" 511, ks "cursor_node" 512, ks "/claim/cut.py" 513, .int 100 0, .int 1 0, .int 0 0, .int 0 0, .int 3 0, .ref 256, .bool true, .int 181 0, .ref 257, .none, .ref 258, .ref 259, .ref 260, .int 515 0, .int 100 0, ks "/claim/cut.py" 516] }
noncomputable def ko262 : Obj := kf "cursor_node" "cursor_node" 24 [] (.none) (ks "snobol.nodes" 483) 261 (.none)
noncomputable def ko268 : Obj := { cls := .type "code", data := .fields #[ks "joined" 518, ks "joined" 519, ks "/claim/cut.py" 520, .int 102 0, .int 2 0, .int 0 0, .int 0 0, .int 3 0, .ref 263, .bool true, .int 181 0, .ref 264, .none, .ref 265, .ref 266, .ref 267, .int 523 0, .int 102 0, ks "/claim/cut.py" 524] }
noncomputable def ko269 : Obj := kf "joined" "joined" 25 [] (.none) (ks "snobol.nodes" 483) 268 (.none)
noncomputable def ko275 : Obj := { cls := .type "code", data := .fields #[ks "either" 526, ks "either" 527, ks "/claim/cut.py" 528, .int 110 0, .int 2 0, .int 0 0, .int 0 0, .int 3 0, .ref 270, .bool true, .int 181 0, .ref 271, .none, .ref 272, .ref 273, .ref 274, .int 531 0, .int 110 0, ks "/claim/cut.py" 532] }
noncomputable def ko276 : Obj := kf "either" "either" 26 [] (.none) (ks "snobol.nodes" 483) 275 (.none)
noncomputable def ko282 : Obj := { cls := .type "code", data := .fields #[ks "pattern_of" 534, ks "pattern_of" 535, ks "/claim/cut.py" 536, .int 112 0, .int 1 0, .int 0 0, .int 0 0, .int 3 0, .ref 277, .bool true, .int 181 0, .ref 278, .none, .ref 279, .ref 280, .ref 281, .int 539 0, .int 112 0, ks "/claim/cut.py" 540] }
noncomputable def ko283 : Obj := kf "pattern_of" "pattern_of" 27 [] (.none) (ks "snobol.nodes" 483) 282 (.none)
noncomputable def ko289 : Obj := { cls := .type "code", data := .fields #[ks "check_length" 544, ks "check_length" 545, ks "/claim/cut.py" 546, .int 122 0, .int 2 0, .int 0 0, .int 0 0, .int 3 0, .ref 284, .bool true, .int 181 0, .ref 285, .none, .ref 286, .ref 287, .ref 288, .int 549 0, .int 122 0, ks "/claim/cut.py" 550] }
noncomputable def ko290 : Obj := kf "check_length" "check_length" 29 [] (.none) (ks "snobol.world" 542) 289 (.none)
noncomputable def ko296 : Obj := { cls := .type "code", data := .fields #[ks "divided" 554, ks "divided" 555, ks "/claim/cut.py" 556, .int 127 0, .int 2 0, .int 0 0, .int 0 0, .int 3 0, .ref 291, .bool true, .int 181 0, .ref 292, .none, .ref 293, .ref 294, .ref 295, .int 560 0, .int 127 0, ks "/claim/cut.py" 561] }
noncomputable def ko297 : Obj := kf "divided" "divided" 31 [] (.none) (ks "snobol.operators" 552) 296 (.none)
noncomputable def ko303 : Obj := { cls := .type "code", data := .fields #[ks "raised_to" 563, ks "raised_to" 564, ks "/claim/cut.py" 565, .int 132 0, .int 3 0, .int 0 0, .int 0 0, .int 3 0, .ref 298, .bool true, .int 181 0, .ref 299, .none, .ref 300, .ref 301, .ref 302, .int 571 0, .int 132 0, ks "/claim/cut.py" 572] }
noncomputable def ko304 : Obj := kf "raised_to" "raised_to" 32 [] (.none) (ks "snobol.operators" 552) 303 (.none)
noncomputable def ko310 : Obj := { cls := .type "code", data := .fields #[ks "reckoned" 574, ks "reckoned" 575, ks "/claim/cut.py" 576, .int 145 0, .int 4 0, .int 0 0, .int 0 0, .int 3 0, .ref 305, .bool true, .int 181 0, .ref 306, .none, .ref 307, .ref 308, .ref 309, .int 581 0, .int 145 0, ks "/claim/cut.py" 582] }
noncomputable def ko311 : Obj := kf "reckoned" "reckoned" 33 [] (.none) (ks "snobol.operators" 552) 310 (.none)
noncomputable def ko317 : Obj := { cls := .type "code", data := .fields #[ks "is_part" 584, ks "is_part" 585, ks "/claim/cut.py" 586, .int 157 0, .int 1 0, .int 0 0, .int 0 0, .int 3 0, .ref 312, .bool true, .int 181 0, .ref 313, .none, .ref 314, .ref 315, .ref 316, .int 588 0, .int 157 0, ks "/claim/cut.py" 589] }
noncomputable def ko318 : Obj := kf "is_part" "is_part" 34 [] (.none) (ks "snobol.operators" 552) 317 (.none)
noncomputable def ko324 : Obj := { cls := .type "code", data := .fields #[ks "join_values" 591, ks "join_values" 592, ks "/claim/cut.py" 593, .int 159 0, .int 3 0, .int 0 0, .int 0 0, .int 3 0, .ref 319, .bool true, .int 181 0, .ref 320, .none, .ref 321, .ref 322, .ref 323, .int 597 0, .int 159 0, ks "/claim/cut.py" 598] }
noncomputable def ko325 : Obj := kf "join_values" "join_values" 35 [] (.none) (ks "snobol.operators" 552) 324 (.none)
noncomputable def ko331 : Obj := { cls := .type "code", data := .fields #[ks "either_value" 600, ks "either_value" 601, ks "/claim/cut.py" 602, .int 169 0, .int 2 0, .int 0 0, .int 0 0, .int 3 0, .ref 326, .bool true, .int 181 0, .ref 327, .none, .ref 328, .ref 329, .ref 330, .int 605 0, .int 169 0, ks "/claim/cut.py" 606] }
noncomputable def ko332 : Obj := kf "either_value" "either_value" 36 [] (.none) (ks "snobol.operators" 552) 331 (.none)
noncomputable def ko338 : Obj := { cls := .type "code", data := .fields #[ks "binary_value" 608, ks "binary_value" 609, ks "/claim/cut.py" 610, .int 173 0, .int 4 0, .int 0 0, .int 0 0, .int 3 0, .ref 333, .bool true, .int 181 0, .ref 334, .none, .ref 335, .ref 336, .ref 337, .int 616 0, .int 173 0, ks "/claim/cut.py" 617] }
noncomputable def ko339 : Obj := kf "binary_value" "binary_value" 37 [] (.none) (ks "snobol.operators" 552) 338 (.none)
noncomputable def ko345 : Obj := { cls := .type "code", data := .fields #[ks "unary_value" 619, ks "unary_value" 620, ks "/claim/cut.py" 621, .int 180 0, .int 3 0, .int 0 0, .int 0 0, .int 3 0, .ref 340, .bool true, .int 181 0, .ref 341, .none, .ref 342, .ref 343, .ref 344, .int 626 0, .int 180 0, ks "/claim/cut.py" 627] }
noncomputable def ko346 : Obj := kf "unary_value" "unary_value" 38 [] (.none) (ks "snobol.operators" 552) 345 (.none)
noncomputable def ko359 : Obj := { cls := .type "code", data := .fields #[ks "__init__" 643, ks "ExprHooks.__init__" 644, ks "/claim/cut.py" 645, .int 188 0, .int 5 0, .int 0 0, .int 0 0, .int 3 0, .ref 354, .bool true, .int 181 0, .ref 355, .none, .ref 356, .ref 357, .ref 358, .int 651 0, .int 188 0, ks "/claim/cut.py" 652] }
noncomputable def ko360 : Obj := kf "__init__" "ExprHooks.__init__" 240 [] (.none) (ks "snobol.plainexpr" 629) 359 (.none)
noncomputable def ko366 : Obj := { cls := .type "code", data := .fields #[ks "get" 654, ks "ExprHooks.get" 655, ks "/claim/cut.py" 656, .int 195 0, .int 2 0, .int 0 0, .int 0 0, .int 3 0, .ref 361, .bool true, .int 181 0, .ref 362, .none, .ref 363, .ref 364, .ref 365, .int 659 0, .int 195 0, ks "/claim/cut.py" 660] }
noncomputable def ko367 : Obj := kf "get" "ExprHooks.get" 101 [] (.none) (ks "snobol.plainexpr" 629) 366 (.none)
noncomputable def ko373 : Obj := { cls := .type "code", data := .fields #[ks "call" 662, ks "ExprHooks.call" 663, ks "/claim/cut.py" 664, .int 198 0, .int 3 0, .int 0 0, .int 0 0, .int 3 0, .ref 368, .bool true, .int 181 0, .ref 369, .none, .ref 370, .ref 371, .ref 372, .int 669 0, .int 198 0, ks "/claim/cut.py" 670] }
noncomputable def ko374 : Obj := kf "call" "ExprHooks.call" 102 [] (.none) (ks "snobol.plainexpr" 629) 373 (.none)
noncomputable def ko376 (P : Params) : Obj := { cls := .type "dict", data := .dict #[ke P "__module__" 638 (ks "snobol.plainexpr" 629), ke P "__firstlineno__" 642 (.int 186 641), ke P "__init__" 653 (.ref 360), ke P "get" 661 (.ref 367), ke P "call" 671 (.ref 374), ke P "__static_attributes__" 677 (.ref 375), ke P "__dict__" 679 (.ref 378), ke P "__weakref__" 681 (.ref 379), ke P "__doc__" 682 (.none)] 4 }
noncomputable def ko377 : Obj := { cls := .type "type", data := .cls { name := Str.ofString "ExprHooks", bases := [.type "object"], mro := [.ref 377, .type "object"], ns := 376, qualname := Str.ofString "ExprHooks" }, slots := #[none, none, some (ks "ExprHooks" 631), some (ks "ExprHooks" 639), some (.builtin "object.__new__"), some (.bool true)] }
noncomputable def ko387 : Obj := { cls := .type "code", data := .fields #[ks "worth" 685, ks "worth" 686, ks "/claim/cut.py" 687, .int 204 0, .int 2 0, .int 0 0, .int 0 0, .int 3 0, .ref 382, .bool true, .int 181 0, .ref 383, .none, .ref 384, .ref 385, .ref 386, .int 692 0, .int 204 0, ks "/claim/cut.py" 693] }
noncomputable def ko388 : Obj := kf "worth" "worth" 41 [] (.none) (ks "snobol.plainexpr" 629) 387 (.none)
noncomputable def ko394 : Obj := { cls := .type "code", data := .fields #[ks "worths" 695, ks "worths" 696, ks "/claim/cut.py" 697, .int 220 0, .int 2 0, .int 0 0, .int 0 0, .int 3 0, .ref 389, .bool true, .int 181 0, .ref 390, .none, .ref 391, .ref 392, .ref 393, .int 703 0, .int 220 0, ks "/claim/cut.py" 704] }
noncomputable def ko395 : Obj := kf "worths" "worths" 42 [] (.none) (ks "snobol.plainexpr" 629) 394 (.none)
noncomputable def ko401 : Obj := { cls := .type "code", data := .fields #[ks "name_in" 706, ks "name_in" 707, ks "/claim/cut.py" 708, .int 228 0, .int 2 0, .int 0 0, .int 0 0, .int 3 0, .ref 396, .bool true, .int 181 0, .ref 397, .none, .ref 398, .ref 399, .ref 400, .int 713 0, .int 228 0, ks "/claim/cut.py" 714] }
noncomputable def ko402 : Obj := kf "name_in" "name_in" 43 [] (.none) (ks "snobol.plainexpr" 629) 401 (.none)
noncomputable def ko408 : Obj := { cls := .type "code", data := .fields #[ks "worth_of_one" 716, ks "worth_of_one" 717, ks "/claim/cut.py" 718, .int 240 0, .int 3 0, .int 0 0, .int 0 0, .int 3 0, .ref 403, .bool true, .int 181 0, .ref 404, .none, .ref 405, .ref 406, .ref 407, .int 724 0, .int 240 0, ks "/claim/cut.py" 725] }
noncomputable def ko409 : Obj := kf "worth_of_one" "worth_of_one" 44 [] (.none) (ks "snobol.plainexpr" 629) 408 (.none)
noncomputable def ko415 : Obj := { cls := .type "code", data := .fields #[ks "worth_of_two" 727, ks "worth_of_two" 728, ks "/claim/cut.py" 729, .int 254 0, .int 2 0, .int 0 0, .int 0 0, .int 3 0, .ref 410, .bool true, .int 181 0, .ref 411, .none, .ref 412, .ref 413, .ref 414, .int 739 0, .int 254 0, ks "/claim/cut.py" 740] }
noncomputable def ko416 : Obj := kf "worth_of_two" "worth_of_two" 45 [] (.none) (ks "snobol.plainexpr" 629) 415 (.none)
noncomputable def ko422 : Obj := { cls := .type "code", data := .fields #[ks "worth_told" 742, ks "worth_told" 743, ks "/claim/cut.py" 744, .int 268 0, .int 2 0, .int 0 0, .int 0 0, .int 3 0, .ref 417, .bool true, .int 181 0, .ref 418, .none, .ref 419, .ref 420, .ref 421, .int 749 0, .int 268 0, ks "/claim/cut.py" 750] }
noncomputable def ko423 : Obj := kf "worth_told" "worth_told" 46 [] (.none) (ks "snobol.plainexpr" 629) 422 (.none)
noncomputable def ko429 : Obj := { cls := .type "code", data := .fields #[ks "names_asked" 752, ks "names_asked" 753, ks "/claim/cut.py" 754, .int 274 0, .int 1 0, .int 0 0, .int 0 0, .int 3 0, .ref 424, .bool true, .int 181 0, .ref 425, .none, .ref 426, .ref 427, .ref 428, .int 758 0, .int 274 0, ks "/claim/cut.py" 759] }
noncomputable def ko430 : Obj := kf "names_asked" "names_asked" 47 [] (.none) (ks "snobol.plainexpr" 629) 429 (.none)
noncomputable def ko436 : Obj := { cls := .type "code", data := .fields #[ks "_law_leaves" 763, ks "_law_leaves" 764, ks "/claim/cut.py" 765, .int 286 0, .int 0 0, .int 0 0, .int 0 0, .int 3 0, .ref 431, .bool true, .int 181 0, .ref 432, .none, .ref 433, .ref 434, .ref 435, .int 766 0, .int 286 0, ks "/claim/cut.py" 767] }
noncomputable def ko437 : Obj := kf "_law_leaves" "_law_leaves" 49 [] (.none) (ks "law_nz0410_01" 761) 436 (.none)
noncomputable def ko441 : Obj := { cls := .type "code", data := .fields #[ks "_law_tree" 769, ks "_law_tree" 770, ks "/claim/cut.py" 771, .int 288 0, .int 2 0, .int 0 0, .int 0 0, .int 3 0, .ref 438, .bool true, .int 181 0, .ref 439, .none, .none, .none, .ref 440, .int 772 0, .int 288 0, ks "/claim/cut.py" 773] }
noncomputable def ko442 : Obj := kf "_law_tree" "_law_tree" 50 [] (.none) (ks "law_nz0410_01" 761) 441 (.none)
noncomputable def ko448 : Obj := { cls := .type "code", data := .fields #[ks "_law_whole" 775, ks "_law_whole" 776, ks "/claim/cut.py" 777, .int 308 0, .int 1 0, .int 0 0, .int 0 0, .int 3 0, .ref 443, .bool true, .int 181 0, .ref 444, .none, .ref 445, .ref 446, .ref 447, .int 782 0, .int 308 0, ks "/claim/cut.py" 783] }
noncomputable def ko449 : Obj := kf "_law_whole" "_law_whole" 51 [] (.none) (ks "law_nz0410_01" 761) 448 (.none)
noncomputable def ko455 : Obj := { cls := .type "code", data := .fields #[ks "_law_shown" 785, ks "_law_shown" 786, ks "/claim/cut.py" 787, .int 320 0, .int 1 0, .int 0 0, .int 0 0, .int 3 0, .ref 450, .bool true, .int 181 0, .ref 451, .none, .ref 452, .ref 453, .ref 454, .int 789 0, .int 320 0, ks "/claim/cut.py" 790] }
noncomputable def ko456 : Obj := kf "_law_shown" "_law_shown" 52 [] (.none) (ks "law_nz0410_01" 761) 455 (.none)
noncomputable def ko462 : Obj := { cls := .type "code", data := .fields #[ks "_law_node" 792, ks "_law_node" 793, ks "/claim/cut.py" 794, .int 322 0, .int 1 0, .int 0 0, .int 0 0, .int 3 0, .ref 457, .bool true, .int 181 0, .ref 458, .none, .ref 459, .ref 460, .ref 461, .int 796 0, .int 322 0, ks "/claim/cut.py" 797] }
noncomputable def ko463 : Obj := kf "_law_node" "_law_node" 53 [] (.none) (ks "law_nz0410_01" 761) 462 (.none)
noncomputable def ko469 : Obj := { cls := .type "code", data := .fields #[ks "_law_reckoned" 799, ks "_law_reckoned" 800, ks "/claim/cut.py" 801, .int 326 0, .int 3 0, .int 0 0, .int 0 0, .int 3 0, .ref 464, .bool true, .int 181 0, .ref 465, .none, .ref 466, .ref 467, .ref 468, .int 806 0, .int 326 0, ks "/claim/cut.py" 807] }
noncomputable def ko470 : Obj := kf "_law_reckoned" "_law_reckoned" 54 [] (.none) (ks "law_nz0410_01" 761) 469 (.none)
noncomputable def ko476 : Obj := { cls := .type "code", data := .fields #[ks "_law_joined" 809, ks "_law_joined" 810, ks "/claim/cut.py" 811, .int 336 0, .int 2 0, .int 0 0, .int 0 0, .int 3 0, .ref 471, .bool true, .int 181 0, .ref 472, .none, .ref 473, .ref 474, .ref 475, .int 817 0, .int 336 0, ks "/claim/cut.py" 818] }
noncomputable def ko477 : Obj := kf "_law_joined" "_law_joined" 55 [] (.none) (ks "law_nz0410_01" 761) 476 (.none)
noncomputable def ko483 : Obj := { cls := .type "code", data := .fields #[ks "_law_two" 820, ks "_law_two" 821, ks "/claim/cut.py" 822, .int 346 0, .int 3 0, .int 0 0, .int 0 0, .int 3 0, .ref 478, .bool true, .int 181 0, .ref 479, .none, .ref 480, .ref 481, .ref 482, .int 828 0, .int 346 0, ks "/claim/cut.py" 829] }
noncomputable def ko484 : Obj := kf "_law_two" "_law_two" 56 [] (.none) (ks "law_nz0410_01" 761) 483 (.none)
noncomputable def ko490 : Obj := { cls := .type "code", data := .fields #[ks "_law_name" 831, ks "_law_name" 832, ks "/claim/cut.py" 833, .int 355 0, .int 3 0, .int 0 0, .int 0 0, .int 3 0, .ref 485, .bool true, .int 181 0, .ref 486, .none, .ref 487, .ref 488, .ref 489, .int 838 0, .int 355 0, ks "/claim/cut.py" 839] }
noncomputable def ko491 : Obj := kf "_law_name" "_law_name" 57 [] (.none) (ks "law_nz0410_01" 761) 490 (.none)
noncomputable def ko497 : Obj := { cls := .type "code", data := .fields #[ks "_law_one" 841, ks "_law_one" 842, ks "/claim/cut.py" 843, .int 366 0, .int 4 0, .int 0 0, .int 0 0, .int 3 0, .ref 492, .bool true, .int 181 0, .ref 493, .none, .ref 494, .ref 495, .ref 496, .int 850 0, .int 366 0, ks "/claim/cut.py" 851] }
noncomputable def ko498 : Obj := kf "_law_one" "_law_one" 58 [] (.none) (ks "law_nz0410_01" 761) 497 (.none)
noncomputable def ko504 : Obj := { cls := .type "code", data := .fields #[ks "_law_called" 853, ks "_law_called" 854, ks "/claim/cut.py" 855, .int 381 0, .int 3 0, .int 0 0, .int 0 0, .int 3 0, .ref 499, .bool true, .int 181 0, .ref 500, .none, .ref 501, .ref 502, .ref 503, .int 859 0, .int 381 0, ks "/claim/cut.py" 860] }
noncomputable def ko505 : Obj := kf "_law_called" "_law_called" 59 [] (.none) (ks "law_nz0410_01" 761) 504 (.none)
noncomputable def ko511 : Obj := { cls := .type "code", data := .fields #[ks "_law_worth" 862, ks "_law_worth" 863, ks "/claim/cut.py" 864, .int 388 0, .int 3 0, .int 0 0, .int 0 0, .int 3 0, .ref 506, .bool true, .int 181 0, .ref 507, .none, .ref 508, .ref 509, .ref 510, .int 876 0, .int 388 0, ks "/claim/cut.py" 877] }
noncomputable def ko512 : Obj := kf "_law_worth" "_law_worth" 60 [] (.none) (ks "law_nz0410_01" 761) 511 (.none)
noncomputable def ko516 : Obj := { cls := .type "code", data := .fields #[ks "_law_plain_node" 879, ks "_law_plain_node" 880, ks "/claim/cut.py" 881, .int 412 0, .int 1 0, .int 0 0, .int 0 0, .int 3 0, .ref 513, .bool true, .int 181 0, .ref 514, .none, .none, .none, .ref 515, .int 882 0, .int 412 0, ks "/claim/cut.py" 883] }
noncomputable def ko517 : Obj := kf "_law_plain_node" "_law_plain_node" 61 [] (.none) (ks "law_nz0410_01" 761) 516 (.none)
noncomputable def ko523 : Obj := { cls := .type "code", data := .fields #[ks "_law_plain" 885, ks "_law_plain" 886, ks "/claim/cut.py" 887, .int 416 0, .int 1 0, .int 0 0, .int 0 0, .int 3 0, .ref 518, .bool true, .int 181 0, .ref 519, .none, .ref 520, .ref 521, .ref 522, .int 889 0, .int 416 0, ks "/claim/cut.py" 890] }
noncomputable def ko524 : Obj := kf "_law_plain" "_law_plain" 62 [] (.none) (ks "law_nz0410_01" 761) 523 (.none)
noncomputable def ko530 : Obj := { cls := .type "code", data := .fields #[ks "_law_fails" 892, ks "_law_fails" 893, ks "/claim/cut.py" 894, .int 422 0, .int 1 0, .int 0 0, .int 0 0, .int 3 0, .ref 525, .bool true, .int 181 0, .ref 526, .none, .ref 527, .ref 528, .ref 529, .int 896 0, .int 422 0, ks "/claim/cut.py" 897] }
noncomputable def ko531 : Obj := kf "_law_fails" "_law_fails" 63 [] (.none) (ks "law_nz0410_01" 761) 530 (.none)
noncomputable def ko535 : Obj := { cls := .type "code", data := .fields #[ks "law" 899, ks "law" 900, ks "/claim/cut.py" 901, .int 424 0, .int 1 0, .int 0 0, .int 0 0, .int 3 0, .ref 532, .bool true, .int 181 0, .ref 533, .none, .none, .none, .ref 534, .int 902 0, .int 424 0, ks "/claim/cut.py" 903] }
noncomputable def ko536 : Obj := kf "law" "law" 64 [] (.none) (ks "law_nz0410_01" 761) 535 (.none)
noncomputable def kK (P : Params) : Frag := [(2, ko2 P), (3, ko3 P), (18, ko18), (23, ko23), (30, ko30), (31, ko31), (33, ko33 P), (34, ko34), (46, ko46 P), (47, ko47), (64, ko64), (65, ko65), (67, ko67 P), (68, ko68), (85, ko85), (86, ko86), (88, ko88 P), (89, ko89), (106, ko106), (107, ko107), (109, ko109 P), (110, ko110), (127, ko127), (128, ko128), (130, ko130 P), (131, ko131), (148, ko148), (149, ko149), (151, ko151 P), (152, ko152), (162, ko162), (163, ko163), (169, ko169), (170, ko170), (176, ko176), (177, ko177), (183, ko183), (184, ko184), (190, ko190), (191, ko191), (197, ko197), (198, ko198), (204, ko204), (205, ko205), (211, ko211), (212, ko212), (218, ko218), (219, ko219), (225, ko225), (226, ko226), (232, ko232), (233, ko233), (234, ko234), (240, ko240), (241, ko241), (247, ko247), (248, ko248), (254, ko254), (255, ko255), (261, ko261), (262, ko262), (268, ko268), (269, ko269), (275, ko275), (276, ko276), (282, ko282), (283, ko283), (289, ko289), (290, ko290), (296, ko296), (297, ko297), (303, ko303), (304, ko304), (310, ko310), (311, ko311), (317, ko317), (318, ko318), (324, ko324), (325, ko325), (331, ko331), (332, ko332), (338, ko338), (339, ko339), (345, ko345), (346, ko346), (359, ko359), (360, ko360), (366, ko366), (367, ko367), (373, ko373), (374, ko374), (376, ko376 P), (377, ko377), (387, ko387), (388, ko388), (394, ko394), (395, ko395), (401, ko401), (402, ko402), (408, ko408), (409, ko409), (415, ko415), (416, ko416), (422, ko422), (423, ko423), (429, ko429), (430, ko430), (436, ko436), (437, ko437), (441, ko441), (442, ko442), (448, ko448), (449, ko449), (455, ko455), (456, ko456), (462, ko462), (463, ko463), (469, ko469), (470, ko470), (476, ko476), (477, ko477), (483, ko483), (484, ko484), (490, ko490), (491, ko491), (497, ko497), (498, ko498), (504, ko504), (505, ko505), (511, ko511), (512, ko512), (516, ko516), (517, ko517), (523, ko523), (524, ko524), (530, ko530), (531, ko531), (535, ko535), (536, ko536)]
noncomputable def kAs : List Addr := [2, 3, 18, 23, 30, 31, 33, 34, 46, 47, 64, 65, 67, 68, 85, 86, 88, 89, 106, 107, 109, 110, 127, 128, 130, 131, 148, 149, 151, 152, 162, 163, 169, 170, 176, 177, 183, 184, 190, 191, 197, 198, 204, 205, 211, 212, 218, 219, 225, 226, 232, 233, 234, 240, 241, 247, 248, 254, 255, 261, 262, 268, 269, 275, 276, 282, 283, 289, 290, 296, 297, 303, 304, 310, 311, 317, 318, 324, 325, 331, 332, 338, 339, 345, 346, 359, 360, 366, 367, 373, 374, 376, 377, 387, 388, 394, 395, 401, 402, 408, 409, 415, 416, 422, 423, 429, 430, 436, 437, 441, 442, 448, 449, 455, 456, 462, 463, 469, 470, 476, 477, 483, 484, 490, 491, 497, 498, 504, 505, 511, 512, 516, 517, 523, 524, 530, 531, 535, 536]
theorem kAs_is (P : Params) : kAs = (kK P).map (·.1) := by kernel_rfl
end Mine

end

section
open PySem PySem.W PyProof.Rows
set_option Elab.async false
namespace Mine
abbrev pwx := PySem.Challenge.pw_nz0410_01
def qv : Program := { pwx with main := { pwx.main with body := pwx.main.body.drop 64 } }
def ls : List Str := [Str.ofString "SnobolError", Str.ofString "Failure", Str.ofString "Pattern", Str.ofString "Delayed", Str.ofString "Code", Str.ofString "NameRef", Str.ofString "Holder", Str.ofString "is_fail", Str.ofString "kind_of", Str.ofString "is_null", Str.ofString "is_plain", Str.ofString "fits", Str.ofString "whole_of_text", Str.ofString "text_of_whole", Str.ofString "to_whole", Str.ofString "to_text", Str.ofString "need_whole", Str.ofString "checked_whole", Str.ofString "NULL_NODE", Str.ofString "is_null_node", Str.ofString "later_node", Str.ofString "now_node", Str.ofString "cursor_node", Str.ofString "joined", Str.ofString "either", Str.ofString "pattern_of", Str.ofString "check_length", Str.ofString "divided", Str.ofString "raised_to", Str.ofString "reckoned", Str.ofString "is_part", Str.ofString "join_values", Str.ofString "either_value", Str.ofString "binary_value", Str.ofString "unary_value", Str.ofString "ExprHooks", Str.ofString "worth", Str.ofString "worths", Str.ofString "name_in", Str.ofString "worth_of_one", Str.ofString "worth_of_two", Str.ofString "worth_told", Str.ofString "names_asked", Str.ofString "_law_leaves", Str.ofString "_law_tree", Str.ofString "_law_whole", Str.ofString "_law_shown", Str.ofString "_law_node", Str.ofString "_law_reckoned", Str.ofString "_law_joined", Str.ofString "_law_two", Str.ofString "_law_name", Str.ofString "_law_one", Str.ofString "_law_called", Str.ofString "_law_worth", Str.ofString "_law_plain_node", Str.ofString "_law_plain", Str.ofString "_law_fails"]
noncomputable def topRunT (so : Thread → Bool) (go : SharedT → Thread → Option (SharedT × Thread)) : Nat → SharedT → Thread → Option SharedT
  | 0, _, _ => none
  | n + 1, s, t => match through t with
    | true => some s
    | false => match so t with
      | false => none
      | true => match go s t with
        | some (s', t') => topRunT so go n s' t'
        | none => none
theorem topRun_of {tb : String → Option Builtin} {p : Program} {w : World} {n₀ : Nat} {ann : Option Value} : ∀ {n : Nat} {s s' : SharedT} {t : Thread}, topRunT (stepOk n₀ ann) (stepT (denote tb) p w) n s t = some s' → topRun tb p w n₀ ann n s.abs t = some s'.abs := by
  intro n
  induction n with
  | zero => intro s s' t h; cases h
  | succ n ih =>
    intro s s' t h
    unfold topRunT at h
    unfold topRun
    cases he : through t with
    | true => rw [he] at h; cases h; rfl
    | false =>
      rw [he] at h
      cases hk : stepOk n₀ ann t with
      | false => rw [hk] at h; cases h
      | true =>
        rw [hk] at h
        cases hs : stepT (denote tb) p w s t with
        | none => rw [hs] at h; cases h
        | some r => obtain ⟨s₂, t₂⟩ := r; rw [hs] at h; rw [stepT_spec hs]; exact ih h
noncomputable def grow : List Obj → Nat → BT → BT
  | [], _, t => t
  | o :: l, n, t => grow l (n + 1) (t.ins n o)
noncomputable def s0T (w : World) (os : OsState) : SharedT := ⟨grow (boot_heap w.params).objs.toList 0 .nil, (boot_heap w.params).objs.size, (boot_heap w.params).life, Array.mk [], boot_drawn, boot_toks, os⟩
theorem s0T_abs (w : World) (os : OsState) : (s0T w os).abs = ⟨boot_heap w.params, Array.mk [], boot_drawn, boot_toks, os⟩ := by kernel_rfl!
theorem leftO_tree {p q : Program} {loose : List Str} {Xt : Shared → Bool} {α : Type} {Yf : Shared → α} {Ya : World → α} {N m₀ : Nat} {ann : Option Value} {g0 : Bool} (e : opening p = plainProg p.main.scope.names) (hN : Nat.ble 600 N = true) (f : ∀ s, fenceModules? p s = some s)
    (size : ∀ w : World, ((boot_heap w.params).isNs mainGlobals && (Array.mk [] : Array GenState).size == 0, (boot_heap w.params).objs.size, (boot_heap w.params).nsMap mainGlobals "__annotations__") = (true, m₀, ann))
    (h1 : ∀ w os, Option.map (fun s => (staticsOk (importedModules p.main.body) (boot_heap w.params) s.abs.heap && namesBound p s.abs.heap && gensDone s.abs && laidKept (boot_heap w.params) s.abs.heap, openSeen q loose (importedModules p.main.body) Xt g0 s.abs)) (topRunT (stepOk m₀ ann) (stepT (denote treeTable) p w) N (s0T w os) (topStub p)) = some (true, openGood q loose))
    (h2 : ∀ w os, Option.map (fun s => Yf s.abs) (topRunT (stepOk m₀ ann) (stepT (denote treeTable) p w) N (s0T w os) (topStub p)) = some (Ya w)) : LeftO p q loose Xt Yf Ya N g0 := fun w => by
  obtain ⟨⟨hp, gs, d, k, os⟩, e1, e2⟩ := Option.map_eq_some_iff.mp (boot_open e hN f w)
  obtain ⟨rfl, e3⟩ := Prod.mk.inj e2
  obtain ⟨rfl, e4⟩ := Prod.mk.inj e3
  obtain ⟨rfl, rfl⟩ := Prod.mk.inj e4
  obtain ⟨z1, z⟩ := Prod.mk.inj (size w)
  obtain ⟨z2, z3⟩ := Prod.mk.inj z
  unfold openEnds
  rw [e1]
  show Option.map _ (topFrom treeTable p w N ⟨boot_heap w.params, Array.mk [], boot_drawn, boot_toks, os⟩) = _
  obtain ⟨s, e5, e6⟩ := Option.map_eq_some_iff.mp (h1 w os)
  obtain ⟨s', e7, e8⟩ := Option.map_eq_some_iff.mp (h2 w os)
  obtain rfl : s = s' := Option.some.inj (e5.symm.trans e7)
  obtain ⟨l1, l2⟩ := Prod.mk.inj e6
  have r := topRun_of e5
  rw [s0T_abs] at r
  have t : topFrom treeTable p w N ⟨boot_heap w.params, Array.mk [], boot_drawn, boot_toks, os⟩ = some s.abs := by
    unfold topFrom
    dsimp only
    rw [z1, z2, z3, r]
    show (match staticsOk (importedModules p.main.body) (boot_heap w.params) s.abs.heap && namesBound p s.abs.heap && gensDone s.abs && laidKept (boot_heap w.params) s.abs.heap with | true => _ | false => _) = _
    rw [l1]
  rw [t]
  exact congrArg some (Prod.ext l2 e8)
theorem boot_e : opening pwx = plainProg pwx.main.scope.names := by kernel_rfl!
theorem boot_f (s : Shared) : fenceModules? pwx s = some s := by kernel_rfl!
theorem boot_size (w : World) : ((boot_heap w.params).isNs mainGlobals && (Array.mk [] : Array GenState).size == 0, (boot_heap w.params).objs.size, (boot_heap w.params).nsMap mainGlobals "__annotations__") = (true, 11, some (.ref 6)) := by kernel_rfl!
set_option maxHeartbeats 0
noncomputable abbrev rwx := PySem.Challenge.rw_nz0410_01
theorem and_of {a b : Bool} (h : a = true) (k : b = true) : (a && b) = true := by rw [h, k]; rfl
theorem sA : Fast.tw12908688711261696721 rwx.row.prog = true := by kernel_rfl!
theorem sB : rwx.row.wellSaid = true := by
  unfold OpenRow.wellSaid OpenRow.partSaid
  iterate 15 refine and_of ?_ ?_
  · rw [Fast.te12908688711261696721]
    exact sA
  all_goals kernel_rfl!
theorem said : PySem.Challenge.rw_nz0410_01.wellSaid = true := by
  unfold OpenLaw.wellSaid
  iterate 18 refine and_of ?_ ?_
  · exact sB
  all_goals kernel_rfl!
theorem hlT : ∀ (w : World) (os : OsState), Option.map (fun s => (staticsOk (Fast.tw5923862056798008813 pwx.main.body) (boot_heap w.params) s.abs.heap && namesBound pwx s.abs.heap && gensDone s.abs && laidKept (boot_heap w.params) s.abs.heap, Fast.tw4187177175401517315 qv ls (Fast.tw5923862056798008813 pwx.main.body) (fun s => xlAt qv [] s && recOk (RowW.records (PySem.Challenge.rw_nz0410_01.row.toRowW)) s) true s.abs)) (topRunT (stepOk 11 (some (.ref 6))) (stepT (Fast.tw11892475500146522536 Fast.tw14364793385576792824) pwx w) 7032 (s0T w os) (topStub pwx)) = some (true, openGood qv ls) := fun w os => by kernel_rfl!
theorem hlO : ∀ (w : World) (os : OsState), Option.map (fun s => (kmHook kK kAs kAs_is [533]).obs s.abs) (topRunT (stepOk 11 (some (.ref 6))) (stepT (Fast.tw11892475500146522536 Fast.tw14364793385576792824) pwx w) 7032 (s0T w os) (topStub pwx)) = some ((kmHook kK kAs kAs_is [533]).val w) := fun w os => by kernel_rfl!
end Mine

end

section
namespace Mine
open PySem PySem.W PySem.Calls PyProof.Rows

theorem byC {p : Prop} (h : (p → False) → False) : p := Classical.byContradiction h
theorem mem2 {p : Addr → Prop} {x y : Addr} (h1 : p x) (h2 : p y) : ∀ a ∈ [x, y], p a := fun u9 ha => (List.mem_cons.mp ha).elim (fun e => e ▸ h1) fun h => List.mem_singleton.mp h ▸ h2
theorem out2 {x y b : Addr} (h1 : b ≠ x) (h2 : b ≠ y) : b ∉ [x, y] := fun h => (List.mem_cons.mp h).elim h1 fun h => h2 (List.mem_singleton.mp h)
theorem off2 {x y b : Addr} (h : b ∉ [x, y]) : b ≠ x ∧ b ≠ y := ⟨fun e => h (e ▸ .head _), fun e => h (e ▸ .tail _ (.head _))⟩
theorem out1 {x b : Addr} (h1 : b ≠ x) : b ∉ [x] := fun h => h1 (List.mem_singleton.mp h)
theorem compOk_top {cx : Cx} {ρ : Rho} {x : Str} {sc : Scope} (h : cx.top = false) : compOk cx ρ x sc = false := by simp [compOk, h]
theorem app1 (k : List V → Mu → Res) (ds : List V) (d : V) : (fun es μ => k (ds ++ d :: es) μ) = fun es μ => k (ds ++ [d] ++ es) μ := funext fun es => by rw [List.append_assoc]; rfl
theorem kind_fn {k : ScopeKind} (h : k = .function) (b : Bool) : (k == .class || (k == .module && b)) = false := by subst h; rfl
theorem gen_eq {α : Sort u} {G : Prop} (a : α) (k : ∀ x, a = x → G) : G := k a rfl
theorem gen4 {α β γ δ : Type} {G : Prop} (p : α → β → γ → δ → Prop) (k : ∀ Y : α → β → γ → δ → Prop, (∀ {a b c d}, p a b c d → Y a b c d) → (∀ {a b c d}, Y a b c d → p a b c d) → G) : G := k p id id
/-! ### what a value is -/
noncomputable def In (K : Frag) (ow ce : List Addr) (led : List (Addr × Obj)) (a : Addr) (o : Obj) : Prop :=
  ((a, o) ∈ led ∧ a ∉ ow ∧ a ∉ ce) ∨ K.lookup a = some o
noncomputable def ITup (I : Addr → Obj → Prop) (a : Addr) (vs : List Value) : Prop := ∃ o n, I a o ∧ o.cls = .type "tuple" ∧ o.data = .seq vs.toArray n
noncomputable abbrev lstObj (vs : List Value) (n : Nat) : Obj := { cls := .type "list", data := .seq vs.toArray n }
noncomputable def IList (I : Addr → Obj → Prop) (a : Addr) (vs : List Value) : Prop := ∃ o n, I a o ∧ o.cls = .type "list" ∧ o.data = .seq vs.toArray n
theorem IList.of {I : Addr → Obj → Prop} {a : Addr} {vs : List Value} {n : Nat} (h : I a (lstObj vs n)) : IList I a vs := ⟨_, n, h, rfl, rfl⟩
inductive EsAre : List Str → List DictEntry → List Value → Prop
  | nil : EsAre [] [] []
  | cons {x h t v xs es vs} : EsAre xs es vs → EsAre (x :: xs) (⟨h, .str x t, v⟩ :: es) (v :: vs)
structure Gx where
  prog : Program
  w : World
  cA : Nat → Addr
  Fd : Nat → FuncData → Prop
noncomputable def IFun (G : Gx) (I : Addr → Obj → Prop) (a : Addr) (i : Nat) : Prop := ∃ o fd c oc vs t, I a o ∧ o.data = .func fd ∧ G.Fd i fd ∧
  fd.code = .ref c ∧ I c oc ∧ oc.data = .fields vs ∧ vs[1]? = some (.str fd.qualname t)

mutual
inductive VR (G : Gx) (I : Addr → Obj → Prop) (ce : List Addr) : Value → V → Prop
  | none : VR G I ce .none .none
  | bool {b} : VR G I ce (.bool b) (.bool b)
  | int {i t} : VR G I ce (.int i t) (.int i)
  | str {s t} : VR G I ce (.str s t) (.str s)
  | tup {a vs ds} : ITup I a vs → VRs G I ce vs ds → VR G I ce (.ref a) (.tup ds)
  | list {a vs ds} : IList I a vs → VRs G I ce vs ds → VR G I ce (.ref a) (.list ds)
  | inst {a dx c es n vs fs} : I a (instObj (G.cA c) dx) → I dx (dictOf es n) → EsAre (classFields c) es vs → VRs G I ce vs fs → VR G I ce (.ref a) (.inst c fs)
  | dict {a o ks vs ds} : I a o → o.IsDictOf (PySem.strKind G.prog G.w) (ks.zip vs) → ks.length = vs.length → (a == sysModules) = false → VRs G I ce vs ds → VR G I ce (.ref a) (.dict ks ds)
  | rng {a n t u v} : I a { cls := .type "range", dict := none, data := .fields #[.int 0 t, .int (Int.ofNat n) u, .int 1 v], slots := #[] } → VR G I ce (.ref a) (.rng n)
  | fn {a i} : IFun G I a i → VR G I ce (.ref a) (.fn i)
  | cls {c} : VR G I ce (.ref (G.cA c)) (.cls c)
  | typ {n} : VR G I ce (.type n) (.typ n)
  | blt {n} : VR G I ce (.builtin n) (.blt n)
  | cell {a i} : ce[i]? = some a → VR G I ce (.ref a) (.cell i)
inductive VRs (G : Gx) (I : Addr → Obj → Prop) (ce : List Addr) : List Value → List V → Prop
  | nil : VRs G I ce [] []
  | cons {v d vs ds} : VR G I ce v d → VRs G I ce vs ds → VRs G I ce (v :: vs) (d :: ds)
end

section
variable {G : Gx} {I J : Addr → Obj → Prop} {ce cf : List Addr}
theorem ITup.mono {a vs} (h : ∀ a o, I a o → J a o) : ITup I a vs → ITup J a vs := fun ⟨o, n, x, y⟩ => ⟨o, n, h _ _ x, y⟩
theorem IList.mono {a vs} (h : ∀ a o, I a o → J a o) : IList I a vs → IList J a vs := fun ⟨o, n, x, y⟩ => ⟨o, n, h _ _ x, y⟩
theorem IFun.mono {a i} (h : ∀ a o, I a o → J a o) (q : IFun G I a i) : IFun G J a i := by
  obtain ⟨o, fd, c, oc, vs, t, x, y, z, u, w, r⟩ := q
  exact ⟨o, fd, c, oc, vs, t, h _ _ x, y, z, u, h _ _ w, r⟩
theorem VR.mono (h : ∀ a o, I a o → J a o) (hc : ∀ (i : Nat) a, ce[i]? = some a → cf[i]? = some a) {v d} (r : VR G I ce v d) : VR G J cf v d :=
  VR.rec (motive_1 := fun v d u9 => VR G J cf v d) (motive_2 := fun vs ds u9 => VRs G J cf vs ds) .none .bool .int .str (fun a u9 ih => .tup (a.mono h) ih) (fun a u9 ih => .list (a.mono h) ih) (fun a b c u9 ih => .inst (h _ _ a) (h _ _ b) c ih)
    (fun a b l q u9 ih => .dict (h _ _ a) b l q ih) (fun a => .rng (h _ _ a)) (fun a => .fn (a.mono h)) .cls .typ .blt (fun a => .cell (hc _ _ a)) .nil (fun u9 u9 i j => .cons i j) r
theorem VRs.mono (h : ∀ a o, I a o → J a o) (hc : ∀ (i : Nat) a, ce[i]? = some a → cf[i]? = some a) {vs ds} (r : VRs G I ce vs ds) : VRs G J cf vs ds :=
  VRs.rec (motive_1 := fun v d u9 => VR G J cf v d) (motive_2 := fun vs ds u9 => VRs G J cf vs ds) .none .bool .int .str (fun a u9 ih => .tup (a.mono h) ih) (fun a u9 ih => .list (a.mono h) ih) (fun a b c u9 ih => .inst (h _ _ a) (h _ _ b) c ih)
    (fun a b l q u9 ih => .dict (h _ _ a) b l q ih) (fun a => .rng (h _ _ a)) (fun a => .fn (a.mono h)) .cls .typ .blt (fun a => .cell (hc _ _ a)) .nil (fun u9 u9 i j => .cons i j) r
theorem VRs.length {vs ds} (h : VRs G I ce vs ds) : vs.length = ds.length := by
  induction vs generalizing ds with
  | nil => cases h; rfl
  | cons v vs ih => cases h with | cons a b => simp [ih b]
theorem VRs.get {vs ds} (h : VRs G I ce vs ds) {i : Nat} {d : V} (e : ds[i]? = some d) : ∃ v, vs[i]? = some v ∧ VR G I ce v d := by
  induction vs generalizing ds i with
  | nil => cases h; simp at e
  | cons v vs ih =>
    cases h with
    | cons a b =>
      cases i with
      | zero => simp at e; subst e; exact ⟨v, rfl, a⟩
      | succ i => simp at e; exact ih b e
theorem VRs.append {vs ds us es} (h : VRs G I ce vs ds) (k : VRs G I ce us es) : VRs G I ce (vs ++ us) (ds ++ es) := by
  induction vs generalizing ds with
  | nil => cases h; exact k
  | cons v vs ih => cases h with | cons a b => exact .cons a (ih b)
theorem VRs.take {vs ds} (h : VRs G I ce vs ds) (n : Nat) : VRs G I ce (vs.take n) (ds.take n) := by
  induction n generalizing vs ds with
  | zero => exact .nil
  | succ n ih => cases h with
    | nil => exact .nil
    | cons a b => exact .cons a (ih b)
theorem VRs.drop {vs ds} (h : VRs G I ce vs ds) (n : Nat) : VRs G I ce (vs.drop n) (ds.drop n) := by
  induction n generalizing vs ds with
  | zero => exact h
  | succ n ih => cases h with
    | nil => exact .nil
    | cons a b => exact ih b
theorem VRs.set {vs ds} (h : VRs G I ce vs ds) {v d} (k : VR G I ce v d) : ∀ n, VRs G I ce (vs.set n v) (ds.set n d) := by
  induction vs generalizing ds with
  | nil => cases h; intro n; exact .nil
  | cons u vs ih =>
    cases h with
    | cons a b =>
      intro n
      cases n with
      | zero => exact .cons k b
      | succ n => exact .cons a (ih b n)
end

/-! ### where one stands -/
structure Cells (G : Gx) (K : Frag) (ow : List Addr) (led : List (Addr × Obj)) (ce : List Addr) (μ : Mu) : Prop where
  len : ce.length = μ.length
  nodup : ce.Nodup
  off : ∀ a ∈ ce, a ∉ ow
  at_ : ∀ (i : Nat) l, μ[i]? = some l → ∃ a vs n, ce[i]? = some a ∧ (a, lstObj vs n) ∈ led ∧ VRs G (In K ow ce led) ce vs l
structure Now (G : Gx) (K : Frag) (h₀ : Heap) (L : Addr) (m : Str → Option Value) (ow : List Addr) (s₀ : Shared) (led : List (Addr × Obj)) (ce : List Addr) (μ : Mu) (s : Shared) : Prop where
  F : Fr h₀ L s.heap m
  N : News h₀ L s.heap led
  X : K.In h₀
  big : h₀.NoLimit
  C : Cells G K ow led ce μ
  O : ∀ a ∈ ow, ∃ o, (a, o) ∈ led
  sm : ∃ h tk, s = { s₀ with heap := h, toks := tk }
structure Ext (led : List (Addr × Obj)) (ce : List Addr) (led' : List (Addr × Obj)) (ce' : List Addr) : Prop where
  cells : ∃ t, ce' = ce ++ t ∧ ∀ a ∈ t, ∀ p ∈ led, p.1 ≠ a
  keep : ∀ p ∈ led, p.1 ∉ ce → p ∈ led'
theorem Ext.refl {led ce} : Ext led ce led ce := ⟨⟨[], by simp, by simp⟩, fun u9 h u9 => h⟩
theorem Ext.ce_mem {led ce led' ce'} (x : Ext led ce led' ce') {a : Addr} (h : a ∈ ce) : a ∈ ce' := by
  obtain ⟨⟨t, e, u9⟩, u9⟩ := x; rw [e]; exact List.mem_append_left _ h
theorem Ext.off {led ce led' ce'} (x : Ext led ce led' ce') {p : Addr × Obj} (h : p ∈ led) (hc : p.1 ∉ ce) : p.1 ∉ ce' := by
  obtain ⟨⟨t, e, ht⟩, u9⟩ := x
  rw [e, List.mem_append]
  rintro (h1 | h1)
  · exact hc h1
  · exact ht _ h1 p h rfl
theorem Ext.trans {l1 c1 l2 c2 l3 c3} (x : Ext l1 c1 l2 c2) (y : Ext l2 c2 l3 c3) (nd : c3.Nodup) : Ext l1 c1 l3 c3 := by
  refine ⟨?_, fun p hp hc => y.keep p (x.keep p hp hc) (x.off hp hc)⟩
  obtain ⟨⟨t, e, ht⟩, hk⟩ := id x
  obtain ⟨⟨u, f, hu⟩, u9⟩ := id y
  refine ⟨t ++ u, by rw [f, e, List.append_assoc], fun a ha p hp => ?_⟩
  rcases List.mem_append.mp ha with h | h
  · exact ht a h p hp
  · by_cases hc : p.1 ∈ c1
    · rintro rfl
      rw [f, e, List.append_assoc] at nd
      exact (List.nodup_append.mp nd).2.2 _ hc _ (List.mem_append_right _ h) rfl
    · exact hu a h p (hk p hp hc)
theorem Ext.get {led ce led' ce'} (x : Ext led ce led' ce') {i : Nat} {a : Addr} (h : ce[i]? = some a) : ce'[i]? = some a := by
  obtain ⟨⟨t, e, u9⟩, u9⟩ := x
  rw [e, List.getElem?_append_left (List.getElem?_eq_some_iff.mp h).1]; exact h
theorem Ext.inn {K : Frag} {ow led ce led' ce'} (x : Ext led ce led' ce') {a : Addr} {o : Obj} (h : In K ow ce led a o) : In K ow ce' led' a o := by
  rcases h with ⟨h1, h2, h3⟩ | h
  · exact .inl ⟨x.keep _ h1 h3, h2, x.off h1 h3⟩
  · exact .inr h
theorem VR.ext {G : Gx} {K : Frag} {ow led ce led' ce'} (x : Ext led ce led' ce') {v d} (h : VR G (In K ow ce led) ce v d) : VR G (In K ow ce' led') ce' v d :=
  h.mono (fun u9 u9 => x.inn) fun u9 u9 => x.get
theorem VRs.ext {G : Gx} {K : Frag} {ow led ce led' ce'} (x : Ext led ce led' ce') {v d} (h : VRs G (In K ow ce led) ce v d) : VRs G (In K ow ce' led') ce' v d :=
  h.mono (fun u9 u9 => x.inn) fun u9 u9 => x.get

section
variable {G : Gx} {K : Frag} {h₀ : Heap} {L : Addr} {m : Str → Option Value} {ow : List Addr} {s₀ s : Shared} {led : List (Addr × Obj)} {ce : List Addr} {μ : Mu}
theorem Now.get (S : Now G K h₀ L m ow s₀ led ce μ s) {a : Addr} {o : Obj} (h : In K ow ce led a o) : s.heap.get? a = some o := by
  rcases h with ⟨h1, _⟩ | h
  · exact (S.N _ h1).1
  · exact S.F.keep _ _ (S.X _ _ h)
theorem Now.tup (S : Now G K h₀ L m ow s₀ led ce μ s) {a : Addr} {vs : List Value} (h : ITup (In K ow ce led) a vs) : IsTup s.heap a vs.toArray :=
  let ⟨o, n, x, y, z⟩ := h; ⟨o, S.get x, y, n, z⟩
theorem Now.list (S : Now G K h₀ L m ow s₀ led ce μ s) {a : Addr} {vs : List Value} (h : IList (In K ow ce led) a vs) : s.heap.IsList a vs.toArray :=
  let ⟨o, n, x, y, z⟩ := h; ⟨o, S.get x, y, n, z⟩
theorem Now.toks (S : Now G K h₀ L m ow s₀ led ce μ s) (tk : Nat) : Now G K h₀ L m ow s₀ led ce μ { s with toks := tk } :=
  ⟨S.F, S.N, S.X, S.big, S.C, S.O, let ⟨h, _, e⟩ := S.sm; ⟨h, tk, by rw [e]⟩⟩
theorem Now.fresh (S : Now G K h₀ L m ow s₀ led ce μ s) : ∀ p ∈ led, p.1 < s.heap.objs.size := fun p hp => Heap.lt_size (S.N p hp).1
theorem Cells.mem (C : Cells G K ow led ce μ) {a : Addr} (h : a ∈ ce) : ∃ o, (a, o) ∈ led := by
  obtain ⟨i, hi, rfl⟩ := List.getElem_of_mem h
  obtain ⟨a, vs, n, x, y, u9⟩ := C.at_ i (μ[i]'(C.len ▸ hi)) (List.getElem?_eq_getElem _)
  rw [List.getElem?_eq_getElem hi] at x
  cases x
  exact ⟨_, y⟩
theorem Now.newOff (S : Now G K h₀ L m ow s₀ led ce μ s) : s.heap.objs.size ∉ ow ∧ s.heap.objs.size ∉ ce :=
  ⟨fun h => let ⟨_, y⟩ := S.O _ h; Nat.lt_irrefl _ (S.fresh _ y), fun h => let ⟨_, y⟩ := S.C.mem h; Nat.lt_irrefl _ (S.fresh _ y)⟩
theorem Ext.push {led ce} (p : Addr × Obj) : Ext led ce (p :: led) ce := ⟨⟨[], by simp, by simp⟩, fun u9 h u9 => List.mem_cons_of_mem _ h⟩
theorem Cells.ext {led' : List (Addr × Obj)} (C : Cells G K ow led ce μ) (h : ∀ p ∈ led, p ∈ led') : Cells G K ow led' ce μ :=
  ⟨C.len, C.nodup, C.off, fun i l e => let ⟨a, vs, n, x, y, z⟩ := C.at_ i l e; ⟨a, vs, n, x, h _ y, z.ext ⟨⟨[], by simp, by simp⟩, fun p hp u9 => h p hp⟩⟩⟩
theorem Now.push (S : Now G K h₀ L m ow s₀ led ce μ s) {h' : Heap} {tk : Nat} {p : Addr × Obj} (F : Fr h₀ L h' m) (N : News h₀ L h' (p :: led)) : Now G K h₀ L m ow s₀ (p :: led) ce μ { s with heap := h', toks := tk } :=
  ⟨F, N, S.X, S.big, S.C.ext fun u9 => List.mem_cons_of_mem _, fun a ha => let ⟨o, h⟩ := S.O a ha; ⟨o, List.mem_cons_of_mem _ h⟩, let ⟨_, _, e⟩ := S.sm; ⟨h', tk, by rw [e]⟩⟩
noncomputable def Then (G : Gx) (K : Frag) (h₀ : Heap) (L : Addr) (m : Str → Option Value) (ow : List Addr) (s₀ : Shared) (led : List (Addr × Obj)) (ce : List Addr) (P : V → Mu → Prop) (Q : Value → Shared → Prop) : Prop :=
  ∀ v d s' led' ce' μ', Now G K h₀ L m ow s₀ led' ce' μ' s' → Ext led ce led' ce' → VR G (In K ow ce' led') ce' v d → P d μ' → Q v s'
noncomputable abbrev One (d : V) (μ : Mu) : V → Mu → Prop := fun d' μ' => d' = d ∧ μ' = μ
end
end Mine

end

section
namespace Mine
open PySem PySem.W PySem.Calls PyProof.Rows
section
variable {A : Around} {E : Value → Shared → Prop} {Q : Value → Shared → Prop}
variable {G : Gx} {K : Frag} {h₀ : Heap} {L : Addr} {m : Str → Option Value} {ow : List Addr} {s₀ s : Shared} {led : List (Addr × Obj)} {ce : List Addr} {μ : Mu}
theorem leq_iff : ∀ {a b : List Nat}, leq a b = true ↔ a = b
  | [], [] => by simp [leq]
  | [], _ :: _ => by simp [leq]
  | _ :: _, [] => by simp [leq]
  | a :: l, b :: r => by
    unfold leq
    cases h : Nat.beq a b with
    | true => have := Nat.eq_of_beq_eq_true h; subst this; simp [leq_iff]
    | false => have := Nat.ne_of_beq_eq_false h; simp [this]
theorem seq_iff {a b : Str} : seq a b = true ↔ a = b := by
  unfold seq
  rw [leq_iff]
  obtain ⟨⟨a⟩⟩ := a; obtain ⟨⟨b⟩⟩ := b
  simp
theorem seq_beq (a b : Str) : (a == b) = seq a b := by
  cases h : seq a b with
  | true => rw [seq_iff.mp h]; simp
  | false =>
    cases q : a == b with
    | false => rfl
    | true => rw [beq_iff_eq] at q; subst q; rw [seq_iff.mpr rfl] at h; cases h
theorem sizeLine_big : 200000 ≤ sizeLine := by decide
theorem Now.yield (S : Now G K h₀ L m ow s₀ led ce μ s) {v : Value} {d : V} {tk : Nat} (hv : VR G (In K ow ce led) ce v d) (hQ : Then G K h₀ L m ow s₀ led ce (One d μ) Q) : Q v { s with toks := tk } :=
  hQ _ _ _ _ _ _ (S.toks tk) .refl hv ⟨rfl, rfl⟩
theorem Now.yield0 (S : Now G K h₀ L m ow s₀ led ce μ s) {v : Value} {d : V} (hv : VR G (In K ow ce led) ce v d) (hQ : Then G K h₀ L m ow s₀ led ce (One d μ) Q) : Q v s :=
  hQ _ _ _ _ _ _ S .refl hv ⟨rfl, rfl⟩
theorem In.head {p : Addr × Obj} (h1 : p.1 ∉ ow) (h2 : p.1 ∉ ce) : In K ow ce (p :: led) p.1 p.2 := .inl ⟨List.Mem.head _, h1, h2⟩
theorem Now.made (S : Now G K h₀ L m ow s₀ led ce μ s) {o : Obj} : In K ow ce ((s.heap.objs.size, o) :: led) s.heap.objs.size o := .inl ⟨List.Mem.head _, S.newOff.1, S.newOff.2⟩
theorem Now.make (S : Now G K h₀ L m ow s₀ led ce μ s) {o : Obj} {d : V} {h' : Heap} {tk : Nat} (F : Fr h₀ L h' m) (N : News h₀ L h' ((s.heap.objs.size, o) :: led))
    (hv : VR G (In K ow ce ((s.heap.objs.size, o) :: led)) ce (.ref s.heap.objs.size) d) (hQ : Then G K h₀ L m ow s₀ led ce (One d μ) Q) : Q (.ref s.heap.objs.size) { s with heap := h', toks := tk } :=
  hQ _ _ _ _ _ _ (S.push F N) (.push _) hv ⟨rfl, rfl⟩
theorem Then.after {led' : List (Addr × Obj)} {ce' : List Addr} {P : V → Mu → Prop} (hQ : Then G K h₀ L m ow s₀ led ce P Q) (x : Ext led ce led' ce') : Then G K h₀ L m ow s₀ led' ce' P Q :=
  fun v d s' l c μ' S e r p => hQ v d s' l c μ' S (x.trans e S.C.nodup) r p

theorem st {r : Res} {p : Prop} (h : Res.stuck = r) (hr : r ≠ .stuck) : p := absurd h.symm hr
theorem no_of {α : Type} {c : α} {p : Prop} (h : (none : Option α) = some c) : p := nomatch h
noncomputable def VRi (G : Gx) (I : Addr → Obj → Prop) (ce : List Addr) (v : Value) : V → Prop
  | .none => ∃ _ : Unit, v = .none
  | .bool b => ∃ _ : Unit, v = .bool b
  | .int i => ∃ t, v = .int i t
  | .str s => ∃ t, v = .str s t
  | .tup ds => ∃ a vs, v = .ref a ∧ ITup I a vs ∧ VRs G I ce vs ds
  | .list ds => ∃ a vs, v = .ref a ∧ IList I a vs ∧ VRs G I ce vs ds
  | .inst c fs => ∃ a dx es n vs, v = .ref a ∧ I a (instObj (G.cA c) dx) ∧ I dx (dictOf es n) ∧ EsAre (classFields c) es vs ∧ VRs G I ce vs fs
  | .dict ks ds => ∃ a o vs, v = .ref a ∧ I a o ∧ o.IsDictOf (PySem.strKind G.prog G.w) (ks.zip vs) ∧ ks.length = vs.length ∧ (a == sysModules) = false ∧ VRs G I ce vs ds
  | .rng n => ∃ a t u w, v = .ref a ∧ I a { cls := .type "range", dict := none, data := .fields #[.int 0 t, .int (Int.ofNat n) u, .int 1 w], slots := #[] }
  | .fn i => ∃ a, v = .ref a ∧ IFun G I a i
  | .cls c => ∃ _ : Unit, v = .ref (G.cA c)
  | .typ n => ∃ _ : Unit, v = .type n
  | .blt n => ∃ _ : Unit, v = .builtin n
  | .cell i => ∃ a, v = .ref a ∧ ce[i]? = some a
theorem VR.inv {I : Addr → Obj → Prop} {v : Value} {d : V} (h : VR G I ce v d) : VRi G I ce v d := by
  cases h with
  | none => exact ⟨(), rfl⟩
  | bool => exact ⟨(), rfl⟩
  | int => exact ⟨_, rfl⟩
  | str => exact ⟨_, rfl⟩
  | tup a b => exact ⟨_, _, rfl, a, b⟩
  | list a b => exact ⟨_, _, rfl, a, b⟩
  | inst a b c d => exact ⟨_, _, _, _, _, rfl, a, b, c, d⟩
  | dict a b c d e => exact ⟨_, _, _, rfl, a, b, c, d, e⟩
  | rng a => exact ⟨_, _, _, _, rfl, a⟩
  | fn a => exact ⟨_, rfl, a⟩
  | cls => exact ⟨(), rfl⟩
  | typ => exact ⟨(), rfl⟩
  | blt => exact ⟨(), rfl⟩
  | cell a => exact ⟨_, rfl, a⟩
theorem VRs.one {I : Addr → Obj → Prop} {vs : List Value} {d : V} (h : VRs G I ce vs [d]) : ∃ v, vs = [v] ∧ VR G I ce v d := by
  cases h with
  | cons a b => cases b; exact ⟨_, rfl, a⟩
theorem VRs.two {I : Addr → Obj → Prop} {vs : List Value} {d e : V} (h : VRs G I ce vs [d, e]) : ∃ v w, vs = [v, w] ∧ VR G I ce v d ∧ VR G I ce w e := by
  cases h with
  | cons a b => obtain ⟨w, rfl, r⟩ := b.one; exact ⟨_, w, rfl, a, r⟩
noncomputable def asI : V → Option Int
  | .int i => some i
  | _ => none
noncomputable def asS : V → Option Str
  | .str s => some s
  | _ => none
theorem asI_is {a : V} {i : Int} (h : asI a = some i) : a = .int i := by
  cases a <;> first | exact no_of h | exact congrArg V.int (Option.some.inj h)
theorem asS_is {a : V} {x : Str} (h : asS a = some x) : a = .str x := by
  cases a <;> first | exact no_of h | exact congrArg V.str (Option.some.inj h)
theorem two_ints {a b d : V} {f : Int → Int → Option V} (h : (match a, b with | .int x, .int y => f x y | _, _ => none) = some d) : ∃ x y, a = .int x ∧ b = .int y ∧ f x y = some d := by
  cases a with
  | int x => cases b with
    | int y => exact ⟨x, y, rfl, rfl, h⟩
    | _ => exact no_of h
  | _ => exact no_of h
theorem ints_of {a b d : V} {va vb : Value} {I : Addr → Obj → Prop} {f : Int → Int → Option V} (h : (match a, b with | .int x, .int y => f x y | _, _ => none) = some d) (ha : VR G I ce va a) (hb : VR G I ce vb b) :
    ∃ x y t u, va = .int x t ∧ vb = .int y u ∧ f x y = some d := by
  refine byC fun hg => ?_
  refine eEEAA (two_ints h) fun x y ee2 ee3 h => ?_
  subst ee2
  subst ee3
  obtain ⟨t, e⟩ := ha.inv
  obtain ⟨u, e'⟩ := hb.inv
  refine hg ?_
  clear hg
  exact ⟨x, y, t, u, e, e', h⟩
theorem ite_of {b : Bool} {x d : V} (h : (match b with | true => some x | false => none) = some d) : b = true ∧ x = d := by
  cases b with
  | true => exact ⟨rfl, Option.some.inj h⟩
  | false => exact no_of h
theorem itf_of {b : Bool} {x d : V} (h : (match b with | true => none | false => some x) = some d) : b = false ∧ x = d := by
  cases b with
  | false => exact ⟨rfl, Option.some.inj h⟩
  | true => exact no_of h
theorem bit_of {b : Bool} {x d : V} (h : (match true, b with | true, true => some x | _, _ => none) = some d) : b = true ∧ x = d := by
  cases b with
  | true => exact ⟨rfl, Option.some.inj h⟩
  | false => exact no_of h
theorem bit2_of {b c : Bool} {x d : V} (h : (match b, c with | true, false => some x | _, _ => none) = some d) : b = true ∧ c = false ∧ x = d := by
  cases b <;> cases c <;> first | exact no_of h | exact ⟨rfl, rfl, Option.some.inj h⟩
theorem add_kinds {a b d : V} (h : binV .Add a b = some d) : (∃ x y, a = .int x ∧ b = .int y ∧ d = .int (x + y)) ∨ (∃ x y, a = .str x ∧ b = .str y ∧ Nat.ble (x.length + y.length) 100000 = true ∧ d = .str (x ++ y)) ∨
    (∃ x y, a = .list x ∧ b = .list y ∧ Nat.ble (x.length + y.length) 100000 = true ∧ d = .list (x ++ y)) := by
  cases a with
  | int x => cases b with
    | int y => exact .inl ⟨x, y, rfl, rfl, (Option.some.inj h).symm⟩
    | _ => exact no_of h
  | str x => cases b with
    | str y => exact let ⟨p, q⟩ := ite_of h; .inr (.inl ⟨x, y, rfl, rfl, p, q.symm⟩)
    | _ => exact no_of h
  | list x => cases b with
    | list y => exact let ⟨p, q⟩ := ite_of h; .inr (.inr ⟨x, y, rfl, rfl, p, q.symm⟩)
    | _ => exact no_of h
  | _ => exact no_of h
theorem add_sound {a b d : V} {va vb : Value} (h : binV .Add a b = some d) (S : Now G K h₀ L m ow s₀ led ce μ s)
    (ha : VR G (In K ow ce led) ce va a) (hb : VR G (In K ow ce led) ce vb b) (hQ : Then G K h₀ L m ow s₀ led ce (One d μ) Q) : wpAny (model G.prog G.w) A (binaryOp .Add va vb) Q E s := by
  rcases add_kinds h with ⟨x, y, rfl, rfl, rfl⟩ | ⟨x, y, rfl, rfl, hl, rfl⟩ | ⟨x, y, rfl, rfl, hl, rfl⟩
  · obtain ⟨t, rfl⟩ := ha.inv
    obtain ⟨u, rfl⟩ := hb.inv
    exact add_int (S.yield .int hQ)
  · obtain ⟨t, rfl⟩ := ha.inv
    obtain ⟨u, rfl⟩ := hb.inv
    exact add_str (fun t' tk => S.yield .str hQ) (Nat.le_trans (Nat.le_of_ble_eq_true hl) (Nat.le_trans (by decide) sizeLine_big))
  · refine eEEAA (ha.inv) fun p vs ee2 l1 r1 => ?_
    subst ee2
    refine byC fun hg => ?_
    refine eEEAA (hb.inv) fun q ws ee2 l2 r2 => ?_
    subst ee2
    refine hg ?_
    clear hg
    refine add_arrays S.F S.N (S.list l1) (S.list l2) (fun h' F N => ?_) (by
      rw [List.size_toArray, List.size_toArray, r1.length, r2.length]
      exact Nat.le_trans (Nat.le_of_ble_eq_true hl) (Nat.le_trans (by decide) sizeLine_big))
    refine S.make F N (.list (.of (n := 0) S.made) ?_) hQ
    exact VRs.append (r1.ext (.push _)) (r2.ext (.push _))
theorem bin_sound {op : Operator} {a b d : V} {va vb : Value} (h : binV op a b = some d) (S : Now G K h₀ L m ow s₀ led ce μ s)
    (ha : VR G (In K ow ce led) ce va a) (hb : VR G (In K ow ce led) ce vb b) (hQ : Then G K h₀ L m ow s₀ led ce (One d μ) Q) : wpAny (model G.prog G.w) A (binaryOp op va vb) Q E s := by
  cases op with
  | Add => exact add_sound h S ha hb hQ
  | Sub =>
    refine byC fun hg => ?_
    refine eEEEEAA (ints_of (f := fun x y => some (.int (x - y))) h ha hb) fun x y t u ee4 ee5 h => ?_
    subst ee4
    subst ee5
    refine hg ?_
    clear hg
    exact sub_int (S.yield (Option.some.inj h ▸ .int) hQ)
  | Mult =>
    refine byC fun hg => ?_
    refine eEEEEAA (ints_of (f := fun x y => match small x, small y with | true, true => some (.int (x * y)) | _, _ => none) h ha hb) fun x y t u ee4 ee5 h => ?_
    subst ee4
    subst ee5
    refine hg ?_
    clear hg
    cases hx : small x with
    | false => rw [hx] at h; exact no_of h
    | true =>
      rw [hx] at h
      obtain ⟨hy, rfl⟩ := bit_of h
      have hx' : x.natAbs < 2 ^ 40 := of_decide_eq_true hx
      exact mul_int (S.yield .int hQ) (PySem.IntMulOk.of_left (PySem.intBits_le_64 (by omega) (by omega)))
  | FloorDiv =>
    refine byC fun hg => ?_
    refine eEEEEAA (ints_of (f := fun x y => match small y, decide (y = 0) with | true, false => some (.int (x.fdiv y)) | _, _ => none) h ha hb) fun x y t u ee4 ee5 h => ?_
    subst ee4
    subst ee5
    refine eAA (bit2_of h) fun hy h0 ee2 => ?_
    subst ee2
    refine hg ?_
    clear hg
    have hy' : y.natAbs < 2 ^ 40 := of_decide_eq_true hy
    have hl : y.natAbs.log2 < 40 := (Nat.log2_lt (by have := of_decide_eq_false h0; omega)).mpr hy'
    refine floordiv_int (of_decide_eq_false h0) (S.yield .int hQ) (.inl ?_)
    unfold Builtin.divisionGoesByPylong
    simp only [Bool.and_eq_false_iff, decide_eq_false_iff_not]
    left
    split <;> omega
  | Mod =>
    refine byC fun hg => ?_
    refine eEEEEAA (ints_of (f := fun x y => match decide (y = 0) with | true => none | false => some (.int (x.fmod y))) h ha hb) fun x y t u ee4 ee5 h => ?_
    subst ee4
    subst ee5
    obtain ⟨h0, rfl⟩ := itf_of h
    refine hg ?_
    clear hg
    exact PyProof.Rows.mod_int (of_decide_eq_false h0) (S.yield .int hQ)
  | Pow =>
    refine byC fun hg => ?_
    refine eEEEEAA (ints_of (f := fun x y => match decide (0 ≤ y ∧ y < 65536 ∧ x.natAbs < 65536) with | true => some (.int (x ^ y.toNat)) | false => none) h ha hb) fun x y t u ee4 ee5 h => ?_
    subst ee4
    subst ee5
    obtain ⟨h0, rfl⟩ := ite_of h
    refine hg ?_
    clear hg
    have hb' := of_decide_eq_true h0
    refine pow_int hb'.1 ?_ (S.yield .int hQ)
    have h16 : Builtin.Int.intBits x ≤ 16 := PyProof.Rows.intBits_le (k := 16) hb'.2.2
    have h1 : (Builtin.Int.intBits x : Int) * y ≤ 16 * y := Int.mul_le_mul_of_nonneg_right (by omega) hb'.1
    omega
  | LShift =>
    refine byC fun hg => ?_
    refine eEEEEAA (ints_of (f := fun x y => match decide (0 ≤ y ∧ y < 65536 ∧ x.natAbs < 65536) with | true => some (.int (x * 2 ^ y.toNat)) | false => none) h ha hb) fun x y t u ee4 ee5 h => ?_
    subst ee4
    subst ee5
    obtain ⟨h0, rfl⟩ := ite_of h
    refine hg ?_
    clear hg
    have hb' := of_decide_eq_true h0
    exact lshift_int_small hb'.1 (by omega) (by omega) (S.yield .int hQ)
  | _ => exact no_of h
end
end Mine

end

section
namespace Mine
open PySem PySem.W PySem.Calls PyProof.Rows PySem.SeqAt PySem.MeetsSeq
theorem tuple_upTo (l b : Addr) (xs ys : Array Value) (n n2 : Nat) (dd dd2 : Option Addr) (sl sl2 : Array (Option Value)) (e : Nat → Bool) :
    Meets (Builtin.«tuple.__eq__» ⟨[.ref l, .ref b], []⟩)
      (fun A R s => s.heap.get? l = some { cls := .type "tuple", dict := dd, data := .seq xs n, slots := sl } ∧ s.heap.get? b = some { cls := .type "tuple", dict := dd2, data := .seq ys n2, slots := sl2 } ∧
        (∀ j (h1 : j < xs.size) (h2 : j < ys.size), (∀ i, i < j → e i = true) → EqAt A.in1 s xs[j] ys[j] (e j)) ∧
        R (.ok (.ret (.bool ((List.range (min xs.size ys.size)).all e && xs.size == ys.size)))) s) :=
  .of_wp fun prog w A R s h => by
    refine byC fun hg => ?_
    obtain ⟨hp, g, d, tk, os⟩ := s; obtain ⟨hl, hb, he, h⟩ := h
    refine hg ?_
    clear hg
    have f2 := AutoSeq1.sub_tuple_tuple
    have hZ : (xs.toList.zip ys.toList).length = min xs.size ys.size := by simp
    wp_walk using PySem.AutoSeq1.wpAny_loadPart' hl, PySem.AutoSeq1.wpAny_loadPart' hb, wpAny_forIn_list _ (fun rest b s' => b.1 = none ∧ s' = ⟨hp, g, d, tk, os⟩ ∧ ∃ i, rest = (xs.toList.zip ys.toList).drop i ∧ (∀ j, j < i → e j = true) ∧
      R (.ok (.ret (.bool (((List.range (min xs.size ys.size)).drop i).all e && xs.size == ys.size)))) ⟨hp, g, d, tk, os⟩) _
    case turn =>
      rintro ⟨y, x⟩ rest b s' ⟨hb', rfl, i, hz, hpre, hR⟩
      have hlt : i < (xs.toList.zip ys.toList).length := by
        rcases Nat.lt_or_ge i (xs.toList.zip ys.toList).length with h' | h'
        · exact h'
        · rw [List.drop_of_length_le h'] at hz; cases hz
      have hm : i < min xs.size ys.size := hZ ▸ hlt
      have h1 : i < xs.size := Nat.lt_of_lt_of_le hm (Nat.min_le_left _ _)
      have h2 : i < ys.size := Nat.lt_of_lt_of_le hm (Nat.min_le_right _ _)
      rw [List.drop_eq_getElem_cons hlt] at hz
      injection hz with hyx hrest
      have hy : y = xs[i] := by have := congrArg Prod.fst hyx; simpa using this
      have hx : x = ys[i] := by have := congrArg Prod.snd hyx; simpa using this
      subst hy hx
      have hd : (List.range (min xs.size ys.size)).drop i = i :: (List.range (min xs.size ys.size)).drop (i + 1) := by simp [List.drop_eq_getElem_cons, hm]
      rw [hd, List.all_cons] at hR
      refine wpAny_bind (he i h1 h2 hpre prog w _ _ ?_)
      cases hy : e i with
      | true =>
        rw [hy] at hR
        wp_walk
        exact ⟨rfl, rfl, i + 1, hrest, fun j hj => by
          rcases Nat.lt_succ_iff_lt_or_eq.mp hj with q | q
          · exact hpre j q
          · rw [q]; exact hy, by simpa using hR⟩
      | false =>
        rw [hy] at hR
        wp_walk
        exact iEA _ rfl (by simpa using hR)
    case fin =>
      rintro ⟨b1, b2⟩ s' ⟨hb', rfl, i, hz, u9, hR⟩
      simp only at hb'
      subst hb'
      have hge : min xs.size ys.size ≤ i := by
        rcases Nat.lt_or_ge i (xs.toList.zip ys.toList).length with h' | h'
        · rw [List.drop_eq_getElem_cons h'] at hz; cases hz
        · exact hZ ▸ h'
      rw [List.drop_of_length_le (by simpa using hge)] at hR
      wp_walk
      exact iEA _ rfl (by simpa [Builtin.Tuple.tupleCompareSizes] using hR)
    case h =>
      exact iAAEAA rfl rfl 0 rfl (fun j hj => by lia) (by simpa using h)
theorem rc_upTo {A : Around} {s : Shared} {l b : Addr} {xs ys : Array Value} {e : Nat → Bool} (hl : s.heap.IsTuple l xs) (hb : s.heap.IsTuple b ys) (hu : A.units < cLine)
    (he : ∀ j (h1 : j < xs.size) (h2 : j < ys.size), (∀ i, i < j → e i = true) → EqAt A.in1 s xs[j] ys[j] (e j)) : RcAt A s (.ref l) (.ref b) ((List.range (min xs.size ys.size)).all e && xs.size == ys.size) := fun prog w E Q h => by
  refine byC fun hg => ?_
  obtain ⟨⟨cls, dd, data, sl⟩, ho, hc, n, hd⟩ := id hl
  obtain ⟨⟨cls2, dd2, data2, sl2⟩, ho2, hc2, n2, hd2⟩ := id hb
  refine hg ?_
  clear hg
  simp only at hc hd hc2 hd2
  subst hc hd hc2 hd2
  exact richCompare_meets_room (op := .Eq) ⟨_, ho, rfl⟩ ⟨_, ho2, rfl⟩ F.slot_tuple_eq F.entry_tuple_eq (F.args_tuple_eq_2 _ _) (tuple_upTo l b xs ys n n2 dd dd2 sl sl2 e)
    ⟨ho, ho2, he, show Value.bool ((List.range (min xs.size ys.size)).all e && xs.size == ys.size) ≠ Value.notImplemented ∧ Q (.bool ((List.range (min xs.size ys.size)).all e && xs.size == ys.size)) s from ⟨(fun x => nomatch x), h⟩⟩ hu
section
variable {A : Around} {E : Value → Shared → Prop} {Q : Value → Shared → Prop}
variable {G : Gx} {K : Frag} {h₀ : Heap} {L : Addr} {m : Str → Option Value} {ow : List Addr} {s₀ s : Shared} {led : List (Addr × Obj)} {ce : List Addr} {μ : Mu}
noncomputable def ansAt (f : V → V → Option Bool) (a b : List V) (j : Nat) : Bool := match a[j]?, b[j]? with
  | some x, some y => (f x y).getD false
  | _, _ => false
theorem all_range_succ (n : Nat) (e : Nat → Bool) : (List.range (n + 1)).all e = (e 0 && (List.range n).all fun j => e (j + 1)) := by
  rw [List.range_succ_eq_map, List.all_cons, List.all_map]; rfl
theorem ans_zero {f : V → V → Option Bool} {p q : V} {a b : List V} : ansAt f (p :: a) (q :: b) 0 = (f p q).getD false := rfl
theorem ans_succ {f : V → V → Option Bool} {p q : V} {a b : List V} (j : Nat) : ansAt f (p :: a) (q :: b) (j + 1) = ansAt f a b j := rfl
theorem ans_cons {f : V → V → Option Bool} {p q : V} {a b : List V} : ((List.range (min (p :: a).length (q :: b).length)).all (ansAt f (p :: a) (q :: b)) && (p :: a).length == (q :: b).length) =
    ((f p q).getD false && ((List.range (min a.length b.length)).all (ansAt f a b) && a.length == b.length)) := by
  rw [show min (p :: a).length (q :: b).length = min a.length b.length + 1 from Nat.succ_min_succ .., all_range_succ, show ((p :: a).length == (q :: b).length) = (a.length == b.length) from by simp, Bool.and_assoc]
  rfl
theorem eqUp_is {f : V → V → Option Bool} {a : List V} : ∀ {b : List V} {c : Bool}, eqUp f a b = some c →
    c = ((List.range (min a.length b.length)).all (ansAt f a b) && a.length == b.length) ∧ ∀ (j : Nat) x y, a[j]? = some x → b[j]? = some y → (∀ i, i < j → ansAt f a b i = true) → ∃ q, f x y = some q := by
  induction a with
  | nil => intro b c h; cases b with
    | nil => exact ⟨(Option.some.inj h).symm, fun u9 u9 u9 e => no_of e⟩
    | cons _ _ => exact ⟨(Option.some.inj h).symm, fun u9 u9 u9 e => no_of e⟩
  | cons p a ih => intro b c h; cases b with
    | nil => exact ⟨(Option.some.inj h).symm, fun u9 u9 u9 u9 e => no_of e⟩
    | cons q b =>
      replace h : (match f p q with | some true => eqUp f a b | some false => some false | none => none) = some c := h
      rw [ans_cons]
      cases hf : f p q with
      | none => rw [hf] at h; exact no_of h
      | some t =>
        rw [hf] at h
        cases t with
        | true =>
          refine ⟨(ih h).1, fun j x y hx hy hpre => ?_⟩
          cases j with
          | zero => exact ⟨true, (Option.some.inj hx) ▸ (Option.some.inj hy) ▸ hf⟩
          | succ j => exact (ih h).2 j x y hx hy fun i hi => hpre (i + 1) (Nat.succ_lt_succ hi)
        | false =>
          refine ⟨(Option.some.inj h).symm, fun j x y hx hy hpre => ?_⟩
          cases j with
          | zero => exact ⟨false, (Option.some.inj hx) ▸ (Option.some.inj hy) ▸ hf⟩
          | succ j => exact Bool.noConfusion ((hpre 0 (Nat.succ_pos j)).symm.trans (ans_zero.trans (congrArg (·.getD false) hf)))
theorem eqAll_is {f : V → V → Option Bool} {a : List V} : ∀ {b : List V} {c : Bool}, eqAll f a b = some c →
    c = ((List.range (min a.length b.length)).all (ansAt f a b) && a.length == b.length) ∧ (a.length = b.length → ∀ (j : Nat) x y, a[j]? = some x → b[j]? = some y → ∃ q, f x y = some q) := by
  induction a with
  | nil => intro b c h; cases b with
    | nil => exact ⟨(Option.some.inj h).symm, fun u9 u9 u9 u9 e => no_of e⟩
    | cons _ _ => exact ⟨(Option.some.inj h).symm, fun u9 u9 u9 u9 e => no_of e⟩
  | cons p a ih => intro b c h; cases b with
    | nil => exact ⟨(Option.some.inj h).symm, fun u9 u9 u9 u9 u9 e => no_of e⟩
    | cons q b =>
      replace h : (match f p q with | some t => (match eqAll f a b with | some u => some (t && u) | none => none) | none => none) = some c := h
      rw [ans_cons]
      cases hf : f p q with
      | none => rw [hf] at h; exact no_of h
      | some t =>
        rw [hf] at h
        cases hu : eqAll f a b with
        | none => replace h : (match eqAll f a b with | some u => some (t && u) | none => none) = some c := h; rw [hu] at h; exact no_of h
        | some u =>
          replace h : (match eqAll f a b with | some u => some (t && u) | none => none) = some c := h
          rw [hu] at h
          refine ⟨(Option.some.inj h).symm.trans (congrArg (t && ·) (ih hu).1), fun hl j x y hx hy => ?_⟩
          cases j with
          | zero => exact ⟨t, (Option.some.inj hx) ▸ (Option.some.inj hy) ▸ hf⟩
          | succ j => exact (ih hu).2 (Nat.succ.inj hl) j x y hx hy
theorem getElem_of? {vs : List Value} {j : Nat} (h : j < vs.toArray.size) {v : Value} (e : vs[j]? = some v) : vs.toArray[j] = v := by
  have h' : j < vs.length := by simpa using h
  rw [List.getElem?_eq_getElem h'] at e
  simpa using Option.some.inj e
theorem ansAt_is {f : V → V → Option Bool} {a b : List V} {j : Nat} {x y : V} {q : Bool} (hx : a[j]? = some x) (hy : b[j]? = some y) (h : f x y = some q) : ansAt f a b j = q := by simp [ansAt, hx, hy, h]
theorem tup_one {h : Heap} {a : Addr} {xs ys : Array Value} (x : IsTup h a xs) (y : IsTup h a ys) : xs = ys := by
  refine byC fun hg => ?_
  obtain ⟨o, h1, u9, n, h2⟩ := x
  obtain ⟨o', h3, u9, n', h4⟩ := y
  refine hg ?_
  clear hg
  rw [h1] at h3; cases h3
  rw [h2] at h4; cases h4; rfl
theorem lst_one {h : Heap} {a : Addr} {xs ys : Array Value} (x : h.IsList a xs) (y : h.IsList a ys) : xs = ys := by
  refine byC fun hg => ?_
  obtain ⟨o, h1, u9, n, h2⟩ := x
  obtain ⟨o', h3, u9, n', h4⟩ := y
  refine hg ?_
  clear hg
  rw [h1] at h3; cases h3
  rw [h2] at h4; cases h4; rfl
inductive EqK (n : Nat) : V → V → Bool → Prop where
  | ii (i j : Int) : EqK n (.int i) (.int j) (decide (i = j))
  | bb (p q : Bool) : EqK n (.bool p) (.bool q) (p == q)
  | ss (p q : Str) : EqK n (.str p) (.str q) (seq p q)
  | si (p : Str) (j : Int) : EqK n (.str p) (.int j) false
  | is (i : Int) (q : Str) : EqK n (.int i) (.str q) false
  | st (p : Str) (l : List V) : EqK n (.str p) (.tup l) false
  | ts (l : List V) (p : Str) : EqK n (.tup l) (.str p) false
  | tt {l r : List V} {c : Bool} (h : eqUp (eqV n) l r = some c) : EqK n (.tup l) (.tup r) c
  | ll {l r : List V} {c : Bool} (h : eqAll (eqV n) l r = some c) : EqK n (.list l) (.list r) c
theorem eqK {n : Nat} {x y : V} {c : Bool} (h : eqV (n + 1) x y = some c) : EqK n x y c := by
  cases x with
  | int i => cases y with
    | int j => exact Option.some.inj h ▸ .ii i j
    | str q => exact Option.some.inj h ▸ .is i q
    | _ => exact no_of h
  | bool p => cases y with
    | bool q => exact Option.some.inj h ▸ .bb p q
    | _ => exact no_of h
  | str p => cases y with
    | int j => exact Option.some.inj h ▸ .si p j
    | str q => exact Option.some.inj h ▸ .ss p q
    | tup l => exact Option.some.inj h ▸ .st p l
    | _ => exact no_of h
  | tup l => cases y with
    | str q => exact Option.some.inj h ▸ .ts l q
    | tup r => exact .tt h
    | _ => exact no_of h
  | list l => cases y with
    | list r => exact .ll h
    | _ => exact no_of h
  | _ => exact no_of h
theorem eq_same_all {n : Nat} (ih : ∀ {v : Value} {x y : V} {c : Bool}, eqV n x y = some c → VR G (In K ow ce led) ce v x → VR G (In K ow ce led) ce v y → c = true)
    {us ws : List Value} {l r : List V} (e : us = ws) (r1 : VRs G (In K ow ce led) ce us l) (r2 : VRs G (In K ow ce led) ce ws r) : l.length = r.length ∧ ∀ (j : Nat) p q c, l[j]? = some p → r[j]? = some q → eqV n p q = some c → c = true := by
  subst e
  refine ⟨r1.length.symm.trans r2.length, fun j p q c e1 e2 e3 => ?_⟩
  refine byC fun hg => ?_
  refine eEA (r1.get e1) fun v1 g1 q1 => ?_
  refine eEA (r2.get e2) fun v2 g2 q2 => ?_
  refine hg ?_
  clear hg
  rw [g1] at g2
  exact ih e3 q1 (Option.some.inj g2 ▸ q2)
theorem all_true {n : Nat} {l r : List V} (h1 : l.length = r.length) (h : ∀ j, j < r.length → ansAt (eqV n) l r j = true) : ((List.range (min l.length r.length)).all (ansAt (eqV n) l r) && l.length == r.length) = true := by
  rw [h1]
  simp only [Nat.min_self, beq_self_eq_true, Bool.and_true, List.all_eq_true, List.mem_range]
  exact h
theorem eq_same (S : Now G K h₀ L m ow s₀ led ce μ s) {n : Nat} : ∀ {v : Value} {x y : V} {c : Bool}, eqV n x y = some c → VR G (In K ow ce led) ce v x → VR G (In K ow ce led) ce v y → c = true := by
  induction n with
  | zero => intro v x y c h; exact no_of h
  | succ n ih =>
    intro v x y c h rx ry
    cases eqK h with
    | ii i j => obtain ⟨t, rfl⟩ := rx.inv; obtain ⟨u, e⟩ := ry.inv; exact decide_eq_true (Value.int.inj e).1
    | bb p q => obtain ⟨t, rfl⟩ := rx.inv; obtain ⟨u, e⟩ := ry.inv; rw [Value.bool.inj e]; exact beq_self_eq_true q
    | ss p q => obtain ⟨t, rfl⟩ := rx.inv; obtain ⟨u, e⟩ := ry.inv; exact seq_iff.mpr (Value.str.inj e).1
    | si p j => obtain ⟨t, rfl⟩ := rx.inv; obtain ⟨u, e⟩ := ry.inv; exact Value.noConfusion e
    | is i q => obtain ⟨t, rfl⟩ := rx.inv; obtain ⟨u, e⟩ := ry.inv; exact Value.noConfusion e
    | st p l => obtain ⟨t, rfl⟩ := rx.inv; obtain ⟨a, vs, e, _⟩ := ry.inv; exact Value.noConfusion e
    | ts l p => obtain ⟨a, vs, rfl, _⟩ := rx.inv; obtain ⟨u, e⟩ := ry.inv; exact Value.noConfusion e
    | @tt l r c hc =>
      refine byC fun hg => ?_
      refine eEEAA (rx.inv) fun a us ee2 t1 t2 => ?_
      subst ee2
      refine eEEAA (ry.inv) fun b ws e u1 u2 => ?_
      refine hg ?_
      clear hg
      rw [← Value.ref.inj e] at u1
      refine byC fun hg => ?_
      obtain ⟨h1, h2⟩ := eq_same_all ih (List.toArray_inj (tup_one (S.tup t1) (S.tup u1))) t2 u2
      obtain ⟨hc, hq⟩ := eqUp_is hc
      refine hg ?_
      clear hg
      rw [hc]
      refine all_true h1 fun j => ?_
      induction j using Nat.strongRecOn with
      | ind j ih =>
        intro hj
        have e1 := List.getElem?_eq_getElem (h1 ▸ hj : j < l.length)
        have e2 := List.getElem?_eq_getElem hj
        obtain ⟨q, e3⟩ := hq j _ _ e1 e2 fun i hi => ih i hi (Nat.lt_trans hi hj)
        rw [ansAt_is e1 e2 e3]
        exact h2 j _ _ _ e1 e2 e3
    | @ll l r c hc =>
      refine byC fun hg => ?_
      refine eEEAA (rx.inv) fun a us ee2 t1 t2 => ?_
      subst ee2
      refine eEEAA (ry.inv) fun b ws e u1 u2 => ?_
      refine hg ?_
      clear hg
      rw [← Value.ref.inj e] at u1
      refine byC fun hg => ?_
      obtain ⟨h1, h2⟩ := eq_same_all ih (List.toArray_inj (lst_one (S.list t1) (S.list u1))) t2 u2
      obtain ⟨hc, hq⟩ := eqAll_is hc
      refine hg ?_
      clear hg
      rw [hc]
      refine all_true h1 fun j hj => ?_
      have e1 := List.getElem?_eq_getElem (h1 ▸ hj : j < l.length)
      have e2 := List.getElem?_eq_getElem hj
      obtain ⟨q, e3⟩ := hq h1 j _ _ e1 e2
      rw [ansAt_is e1 e2 e3]
      exact h2 j _ _ _ e1 e2 e3
end
end Mine

end

section
namespace Mine
open PySem PySem.W PySem.Calls PyProof.Rows PySem.SeqAt PySem.MeetsSeq
section
variable {A : Around} {E : Value → Shared → Prop} {Q : Value → Shared → Prop}
variable {G : Gx} {K : Frag} {h₀ : Heap} {L : Addr} {m : Str → Option Value} {ow : List Addr} {s₀ s : Shared} {led : List (Addr × Obj)} {ce : List Addr} {μ : Mu}
theorem dec_beq (a b : Int) : decide (a = b) = (a == b) := by
  by_cases h : a = b <;> simp [h]
theorem items_of {vs : List Value} {l : List V} {I} (r : VRs G I ce vs l) {j : Nat} (h : j < vs.toArray.size) : ∃ d, l[j]? = some d ∧ VR G I ce vs.toArray[j] d := by
  have h' : j < l.length := by have := r.length; simp at h; lia
  refine byC fun hg => ?_
  refine eEA (r.get (List.getElem?_eq_getElem h')) fun v g rv => ?_
  refine hg ?_
  clear hg
  exact iEA _ (List.getElem?_eq_getElem h') ((getElem_of? h g).symm ▸ rv)
theorem size_of {vs : List Value} {l : List V} {I} (r : VRs G I ce vs l) : vs.toArray.size = l.length := (show vs.toArray.size = vs.length from List.size_toArray).trans r.length
theorem pairs_eq {A : Around} {f : V → V → Option Bool} {us ws : List Value} {l r : List V}
    (ih : ∀ {v w : Value} {x y : V} {c : Bool}, f x y = some c → VR G (In K ow ce led) ce v x → VR G (In K ow ce led) ce w y → EqAt A s v w c ∧ RcAt A s v w c)
    (t2 : VRs G (In K ow ce led) ce us l) (u2 : VRs G (In K ow ce led) ce ws r) (hq : ∀ (j : Nat) x y, l[j]? = some x → r[j]? = some y → (∀ i, i < j → ansAt f l r i = true) → ∃ q, f x y = some q) :
    ∀ j (h1 : j < us.toArray.size) (h2 : j < ws.toArray.size), (∀ i, i < j → ansAt f l r i = true) → EqAt A s us.toArray[j] ws.toArray[j] (ansAt f l r j) := fun j h1 h2 hpre => by
  refine byC fun hg => ?_
  refine eEA (items_of t2 h1) fun d1 e1 r1 => ?_
  refine eEA (items_of u2 h2) fun d2 e2 r2 => ?_
  obtain ⟨q, e3⟩ := hq j _ _ e1 e2 hpre
  refine hg ?_
  clear hg
  rw [ansAt_is e1 e2 e3]
  exact (ih e3 r1 r2).1
theorem lists_rc {A : Around} {n : Nat} {a b : Addr} {us ws : List Value} {l r : List V} {c : Bool} (t1 : s.heap.IsList a us.toArray) (u1 : s.heap.IsList b ws.toArray)
    (ih : ∀ {v w : Value} {x y : V} {c : Bool}, eqV n x y = some c → VR G (In K ow ce led) ce v x → VR G (In K ow ce led) ce w y → EqAt A.in1 s v w c ∧ RcAt A.in1 s v w c)
    (t2 : VRs G (In K ow ce led) ce us l) (u2 : VRs G (In K ow ce led) ce ws r) (h : eqAll (eqV n) l r = some c) (hu0 : A.units < cLine) : RcAt A s (.ref a) (.ref b) c ∧ RcNeAt A s (.ref a) (.ref b) (!c) := by
  obtain ⟨hc, hq⟩ := eqAll_is h
  have n1 := size_of t2
  have n2 := size_of u2
  by_cases hl : l.length = r.length
  · have e : c = (List.range us.toArray.size).all (ansAt (eqV n) l r) := by rw [hc, n1, hl]; simp
    have he : ∀ j (h1 : j < us.toArray.size) (h2 : j < ws.toArray.size), EqAt A.in1 s us.toArray[j] ws.toArray[j] (ansAt (eqV n) l r j) := fun j h1 h2 => by
      refine byC fun hg => ?_
      refine eEA (items_of t2 h1) fun d1 e1 r1 => ?_
      refine eEA (items_of u2 h2) fun d2 e2 r2 => ?_
      obtain ⟨q, e3⟩ := hq hl j _ _ e1 e2
      refine hg ?_
      clear hg
      rw [ansAt_is e1 e2 e3]
      exact (ih e3 r1 r2).1
    rw [e]
    exact ⟨RcAt.lists t1 u1 (by rw [n1, n2, hl]) hu0 he, RcNeAt.lists t1 u1 (by rw [n1, n2, hl]) hu0 he⟩
  · have e : c = false := by rw [hc]; simp [hl]
    rw [e]
    exact ⟨RcAt.lists_lengths t1 u1 (by rw [n1, n2]; simp [hl]) hu0, RcNeAt.lists_lengths t1 u1 (by rw [n1, n2]; simp [hl]) hu0⟩
theorem eq_refs {A : Around} {a b : Addr} {c : Bool} (rc : RcAt A s (.ref a) (.ref b) c) (hs : Value.ref a = .ref b → c = true) : EqAt A s (.ref a) (.ref b) c ∧ RcAt A s (.ref a) (.ref b) c := by
  refine ⟨?_, rc⟩
  by_cases hab : a = b
  · rw [hs (congrArg Value.ref hab), hab]; exact EqAt.same _
  · exact EqAt.of_refs hab rc
theorem eq_both (S : Now G K h₀ L m ow s₀ led ce μ s) {n : Nat} : ∀ {A : Around} {v w : Value} {x y : V} {c : Bool}, eqV n x y = some c → VR G (In K ow ce led) ce v x → VR G (In K ow ce led) ce w y → A.units + n < cLine → EqAt A s v w c ∧ RcAt A s v w c := by
  induction n with
  | zero => intro A v w x y c h; exact no_of h
  | succ n ih =>
    intro A v w x y c h rx ry hu
    have hu0 : A.units < cLine := Nat.lt_of_le_of_lt (Nat.le_add_right ..) hu
    have hu1 : A.in1.units + n < cLine := Nat.lt_of_le_of_lt (Nat.le_of_eq (Nat.add_right_comm A.units 1 n)) hu
    have hs := fun (e : v = w) => eq_same S h rx (e ▸ ry)
    cases eqK h with
    | ii i j => obtain ⟨t, rfl⟩ := rx.inv; obtain ⟨u, rfl⟩ := ry.inv; rw [dec_beq]; exact ⟨EqAt.int_int _ _ _ _, RcAt.int_int _ _ _ _⟩
    | bb p q => obtain ⟨t, rfl⟩ := rx.inv; obtain ⟨u, rfl⟩ := ry.inv; exact ⟨EqAt.bool_bool _ _, RcAt.bool_bool _ _⟩
    | ss p q => obtain ⟨t, rfl⟩ := rx.inv; obtain ⟨u, rfl⟩ := ry.inv; rw [← seq_beq]; exact ⟨EqAt.str_str _ _ _ _, RcAt.str_str _ _ _ _⟩
    | si p j => obtain ⟨t, rfl⟩ := rx.inv; obtain ⟨u, rfl⟩ := ry.inv; exact ⟨EqAt.str_int _ _ _ _, RcAt.str_int _ _ _ _⟩
    | is i q => obtain ⟨t, rfl⟩ := rx.inv; obtain ⟨u, rfl⟩ := ry.inv; exact ⟨EqAt.int_str _ _ _ _, RcAt.int_str _ _ _ _⟩
    | st p l => obtain ⟨t, rfl⟩ := rx.inv; obtain ⟨a, vs, rfl, u1, u2⟩ := ry.inv; exact ⟨EqAt.str_tuple _ _ (S.tup u1) hu0, RcAt.str_tuple _ _ (S.tup u1) hu0⟩
    | ts l p => obtain ⟨a, vs, rfl, u1, u2⟩ := rx.inv; obtain ⟨t, rfl⟩ := ry.inv; exact ⟨EqAt.tuple_str _ _ (S.tup u1) hu0, RcAt.tuple_str _ _ (S.tup u1) hu0⟩
    | @tt l r c hc =>
      refine byC fun hg => ?_
      refine eEEAA (rx.inv) fun a us ee2 t1 t2 => ?_
      subst ee2
      refine eEEAA (ry.inv) fun b ws ee2 u1 u2 => ?_
      subst ee2
      obtain ⟨hc, hq⟩ := eqUp_is hc
      refine hg ?_
      clear hg
      refine eq_refs ?_ hs
      rw [hc, ← size_of t2, ← size_of u2]
      exact rc_upTo (S.tup t1) (S.tup u1) hu0 (pairs_eq (fun e r1 r2 => ih e r1 r2 hu1) t2 u2 hq)
    | @ll l r c hc =>
      refine byC fun hg => ?_
      refine eEEAA (rx.inv) fun a us ee2 t1 t2 => ?_
      subst ee2
      refine eEEAA (ry.inv) fun b ws ee2 u1 u2 => ?_
      subst ee2
      refine hg ?_
      clear hg
      exact eq_refs (lists_rc (S.list t1) (S.list u1) (fun e r1 r2 => ih e r1 r2 hu1) t2 u2 hc hu0).1 hs
theorem cells_eq (S : Now G K h₀ L m ow s₀ led ce μ s) {n i j : Nat} {a b : List V} {va vb : Value} {c : Bool} (h : eqAll (eqV n) a b = some c) (ha : μ[i]? = some a) (hb : μ[j]? = some b) (ra : VR G (In K ow ce led) ce va (.cell i)) (rb : VR G (In K ow ce led) ce vb (.cell j)) (hu : A.units + n + 1 < cLine) :
    RcAt A s va vb c ∧ RcNeAt A s va vb (!c) := by
  refine byC fun hg => ?_
  refine eEA (ra.inv) fun x ee1 xa => ?_
  subst ee1
  refine eEA (rb.inv) fun y ee1 yb => ?_
  subst ee1
  refine eEEEAA (S.C.at_ i a ha) fun x' us k1 e1 m1 t2 => ?_
  refine eEEEAA (S.C.at_ j b hb) fun y' ws k2 e2 m2 u2 => ?_
  obtain rfl := Option.some.inj (xa.symm.trans e1)
  obtain rfl := Option.some.inj (yb.symm.trans e2)
  refine hg ?_
  clear hg
  exact lists_rc ⟨_, (S.N _ m1).1, rfl, _, rfl⟩ ⟨_, (S.N _ m2).1, rfl, _, rfl⟩ (fun e r1 r2 => eq_both S e r1 r2 (Nat.lt_of_le_of_lt (Nat.le_of_eq (Nat.add_right_comm A.units 1 n)) hu)) t2 u2 h (Nat.lt_of_le_of_lt (Nat.le_trans (Nat.le_add_right ..) (Nat.le_add_right ..)) hu)
inductive EqT (μ : Mu) : V → V → Bool → Prop where
  | cc {i j : Nat} {l r : List V} {c : Bool} (h1 : μ[i]? = some l) (h2 : μ[j]? = some r) (h : eqAll (eqV 90) l r = some c) : EqT μ (.cell i) (.cell j) c
  | vv {a b : V} {c : Bool} (h : eqV 100 a b = some c) : EqT μ a b c
theorem eqT_cells {i j : Nat} {c : Bool} (h : (match μ[i]?, μ[j]? with | some a, some b => eqAll (eqV 90) a b | _, _ => none) = some c) : ∃ l r, μ[i]? = some l ∧ μ[j]? = some r ∧ eqAll (eqV 90) l r = some c := by
  cases e1 : μ[i]? with
  | none => rw [e1] at h; exact no_of h
  | some l => cases e2 : μ[j]? with
    | none => rw [e1, e2] at h; exact no_of h
    | some r => rw [e1, e2] at h; exact ⟨l, r, rfl, rfl, h⟩
theorem eqT_kinds {a b : V} {c : Bool} (h : eqT μ a b = some c) : EqT μ a b c := by
  cases a with
  | cell i => cases b with
    | cell j => exact let ⟨_, _, h1, h2, h⟩ := eqT_cells h; .cc h1 h2 h
    | _ => exact .vv h
  | _ => exact .vv h
theorem eqT_sound {a b : V} {c : Bool} {va vb : Value} (h : eqT μ a b = some c) (S : Now G K h₀ L m ow s₀ led ce μ s) (hu : A.units + 200 < cLine)
    (ha : VR G (In K ow ce led) ce va a) (hb : VR G (In K ow ce led) ce vb b) (hQ : Q (.bool c) s) : wpAny (model G.prog G.w) A (compareOp .Eq va vb) Q E s := by
  cases eqT_kinds h with
  | cc h1 h2 h3 => exact (cells_eq S h3 h1 h2 ha hb (Nat.lt_of_le_of_lt (Nat.le_add_right ..) (show A.units + 91 + 109 < cLine from hu))).1 G.prog G.w E Q hQ
  | vv h => exact (eq_both S h ha hb (Nat.lt_of_le_of_lt (Nat.le_add_right ..) (show A.units + 100 + 100 < cLine from hu))).2 G.prog G.w E Q hQ
inductive NeT (μ : Mu) : V → V → Bool → Prop where
  | cc {i j : Nat} {l r : List V} {d : Bool} (h1 : μ[i]? = some l) (h2 : μ[j]? = some r) (h : eqAll (eqV 90) l r = some d) : NeT μ (.cell i) (.cell j) (!d)
  | ii (x y : Int) : NeT μ (.int x) (.int y) (!(decide (x = y)))
  | ss (x y : Str) : NeT μ (.str x) (.str y) (!(seq x y))
theorem neT_kinds {a b : V} {c : Bool} (h : neT μ a b = some c) : NeT μ a b c := by
  cases a with
  | cell i => cases b with
    | cell j =>
      refine byC fun hg => ?_
      refine eEA (Option.map_eq_some_iff.mp (show (eqT μ (.cell i) (.cell j)).map (!·) = some c from h)) fun d hd ee2 => ?_
      subst ee2
      refine hg ?_
      clear hg
      exact let ⟨_, _, h1, h2, h⟩ := eqT_cells hd; .cc h1 h2 h
    | _ => exact no_of h
  | int x => cases b with
    | int y => exact Option.some.inj h ▸ .ii x y
    | _ => exact no_of h
  | str x => cases b with
    | str y => exact Option.some.inj h ▸ .ss x y
    | _ => exact no_of h
  | _ => exact no_of h
theorem neT_sound {a b : V} {c : Bool} {va vb : Value} (h : neT μ a b = some c) (S : Now G K h₀ L m ow s₀ led ce μ s) (hu : A.units + 200 < cLine)
    (ha : VR G (In K ow ce led) ce va a) (hb : VR G (In K ow ce led) ce vb b) (hQ : Q (.bool c) s) : wpAny (model G.prog G.w) A (compareOp .NotEq va vb) Q E s := by
  cases neT_kinds h with
  | cc h1 h2 h3 => exact (cells_eq S h3 h1 h2 ha hb (Nat.lt_of_le_of_lt (Nat.le_add_right ..) (show A.units + 91 + 109 < cLine from hu))).2 G.prog G.w E Q hQ
  | ii x y =>
    obtain ⟨t, rfl⟩ := ha.inv; obtain ⟨u, rfl⟩ := hb.inv
    rw [dec_beq] at hQ
    exact PyProof.Rows.ne_int hQ
  | ss x y =>
    obtain ⟨t, rfl⟩ := ha.inv; obtain ⟨u, rfl⟩ := hb.inv
    rw [← seq_beq] at hQ
    exact PyProof.Rows.ne_str hQ
end
end Mine

end

section
namespace Mine
open PySem PySem.W PySem.Calls PyProof.Rows PySem.SeqAt PySem.MeetsSeq
noncomputable def eqFlat (x : Value) : Value → Bool
  | .int a _ => match x with | .int b _ => decide (a = b) | _ => false
  | .str a _ => match x with | .str b _ => seq a b | _ => false
  | _ => false
theorem isIn_mem (c : Nat) : ∀ l : List Nat, isIn c l = decide (c ∈ l)
  | [] => by simp [isIn]
  | d :: r => by
    unfold isIn
    cases h : Nat.beq c d with
    | true => have := Nat.eq_of_beq_eq_true h; subst this; simp
    | false => have := Nat.ne_of_beq_eq_false h; simp [isIn_mem c r, this]
theorem inKs_valueAt (x : Str) : ∀ (ks : List Str) (vs : List Value), ks.length = vs.length → (valueAt (ks.zip vs) x).isSome = inKs x ks
  | [], [], _ => rfl
  | k :: ks, v :: vs, h => by
    have ih := inKs_valueAt x ks vs (by simpa using h)
    unfold inKs
    cases hk : seq x k with
    | true => have := seq_iff.mp hk; subst this; simp [valueAt]
    | false =>
      have hne : ¬ k = x := fun e => by subst e; rw [seq_iff.mpr rfl] at hk; cases hk
      simp only [List.zip_cons_cons]
      rw [← ih]
      simp [valueAt, hne]
  | [], _ :: _, h => by simp at h
  | _ :: _, [], h => by simp at h
section
variable {A : Around} {E : Value → Shared → Prop} {Q : Value → Shared → Prop}
variable {G : Gx} {K : Frag} {h₀ : Heap} {L : Addr} {m : Str → Option Value} {ow : List Addr} {s₀ s : Shared} {led : List (Addr × Obj)} {ce : List Addr} {μ : Mu}
inductive In1 : V → V → Bool → Prop where
  | ii (x y : Int) : In1 (.int x) (.int y) (decide (x = y))
  | ss (x y : Str) : In1 (.str x) (.str y) (seq x y)
  | si (x : Str) (y : Int) : In1 (.str x) (.int y) false
  | is (x : Int) (y : Str) : In1 (.int x) (.str y) false
noncomputable def inR (v : V) (l : List V) (p : Bool) : Option Bool := match p with
  | true => (inL v l).map fun u9 => true
  | false => inL v l
theorem inL_cons {v a : V} {l : List V} {c : Bool} (h : inL v (a :: l) = some c) : ∃ p, In1 a v p ∧ inR v l p = some c := by
  cases a with
  | int x => cases v with
    | int y => exact ⟨_, .ii x y, h⟩
    | str y => exact ⟨_, .is x y, h⟩
    | _ => exact no_of h
  | str x => cases v with
    | int y => exact ⟨_, .si x y, h⟩
    | str y => exact ⟨_, .ss x y, h⟩
    | _ => exact no_of h
  | _ => exact no_of h
theorem flat1 {v d : V} {p : Bool} {vx va : Value} {I : Addr → Obj → Prop} {A : Around} (h : In1 d v p) (ra : VR G I ce va d) (rx : VR G I ce vx v) : EqAt A s va vx (eqFlat vx va) ∧ eqFlat vx va = p := by
  cases h with
  | ii x y =>
    obtain ⟨t, rfl⟩ := ra.inv; obtain ⟨u, rfl⟩ := rx.inv
    exact ⟨by show EqAt _ _ _ _ (decide _); rw [dec_beq]; exact EqAt.int_int _ _ _ _, rfl⟩
  | ss x y =>
    obtain ⟨t, rfl⟩ := ra.inv; obtain ⟨u, rfl⟩ := rx.inv
    exact ⟨by show EqAt _ _ _ _ (seq _ _); rw [← seq_beq]; exact EqAt.str_str _ _ _ _, rfl⟩
  | si x y =>
    obtain ⟨t, rfl⟩ := ra.inv; obtain ⟨u, rfl⟩ := rx.inv
    exact ⟨EqAt.str_int _ _ _ _, rfl⟩
  | is x y =>
    obtain ⟨t, rfl⟩ := ra.inv; obtain ⟨u, rfl⟩ := rx.inv
    exact ⟨EqAt.int_str _ _ _ _, rfl⟩
theorem in_flat {v : V} {vx : Value} {I : Addr → Obj → Prop} {A : Around} (rx : VR G I ce vx v) {l : List V} : ∀ {vs : List Value} {c : Bool}, inL v l = some c → VRs G I ce vs l → (∀ y ∈ vs, EqAt A s y vx (eqFlat vx y)) ∧ vs.any (eqFlat vx) = c := by
  induction l with
  | nil => intro vs c h r; cases r; exact ⟨fun u9 h => absurd h List.not_mem_nil, Option.some.inj h⟩
  | cons a l ih =>
    intro vs c h r
    cases r with
    | @cons va _ vs _ ra rs =>
    refine byC fun hg => ?_
    refine eEA (inL_cons h) fun p hp hh => ?_
    obtain ⟨he, ep⟩ := flat1 (A := A) (s := s) hp ra rx
    refine hg ?_
    clear hg
    have fin : ∀ {d : Bool}, inL v l = some d → (∀ y ∈ va :: vs, EqAt A s y vx (eqFlat vx y)) ∧ (va :: vs).any (eqFlat vx) = (p || d) := fun hd =>
      ⟨List.forall_mem_cons.mpr ⟨he, (ih hd rs).1⟩, by rw [List.any_cons, ep, (ih hd rs).2]⟩
    cases p with
    | true =>
      refine byC fun hg => ?_
      refine eEA (Option.map_eq_some_iff.mp hh) fun d hd e => ?_
      refine hg ?_
      clear hg
      exact e ▸ fin hd
    | false => exact fin hh
set_option tactic.hygienic true in
theorem leS_is {a b : Str} {c : Bool} (h : leS a b = some c) : (!(decide (b.cps.toList < a.cps.toList))) = c := by
  unfold leS at h
  split at h
  · rename_i x y hx hy
    cases h
    rw [hx, hy]
    have : ([y] < [x]) ↔ y < x := by simp [List.cons_lt_cons_iff]
    rw [Bool.eq_iff_iff, Bool.not_eq_true', decide_eq_false_iff_not, this, Nat.ble_eq]
    lia
  · cases h
inductive InK : V → V → Bool → Prop where
  | tup {v : V} {l : List V} {c : Bool} (h : inL v l = some c) : InK v (.tup l) c
  | dict (x : Str) (ks : List Str) (ds : List V) : InK (.str x) (.dict ks ds) (inKs x ks)
  | str (d : Nat) (x : Str) : InK (.str ⟨⟨[d]⟩⟩) (.str x) (isIn d x.cps.toList)
theorem inK {v w : V} {c : Bool} (h : inV v w = some c) : InK v w c := by
  cases w with
  | tup l => exact .tup h
  | dict ks ds => cases v with
    | str x => exact Option.some.inj h ▸ .dict x ks ds
    | _ => exact no_of h
  | str x => cases v with
    | str y =>
      obtain ⟨⟨yl⟩⟩ := y
      match yl, h with
      | [d], h => exact Option.some.inj h ▸ .str d x
      | [], h => exact no_of h
      | _ :: _ :: _, h => exact no_of h
    | _ => exact no_of h
  | _ => exact no_of h
theorem in_sound {a b : V} {c : Bool} {va vb : Value} (h : inV a b = some c) (S : Now G K h₀ L m ow s₀ led ce μ s)
    (ha : VR G (In K ow ce led) ce va a) (hb : VR G (In K ow ce led) ce vb b) (hQ : Q (.bool c) s) (hQ' : Q (.bool c) { s with toks := s.toks + 1 }) : wpAny (model G.prog G.w) A (compareOp .In va vb) Q E s := by
  cases inK h with
  | tup h =>
    refine byC fun hg => ?_
    refine eEEAA (hb.inv) fun p vs ee2 t1 t2 => ?_
    subst ee2
    obtain ⟨h1, h2⟩ := in_flat (s := s) (A := A.in1) ha h t2
    refine hg ?_
    clear hg
    exact in_tupleAt (eqFlat va) (S.tup t1) (fun y hy => h1 y (List.mem_toArray.1 hy)) (by rw [show Array.any _ (eqFlat va) = c from by rw [← h2, List.any_toArray]]; exact hQ)
  | dict x ks ds =>
    refine byC fun hg => ?_
    obtain ⟨t, rfl⟩ := ha.inv
    refine eEEEAAAAA (hb.inv) fun p o vs ee3 o1 o2 o3 o4 o5 => ?_
    subst ee3
    refine hg ?_
    clear hg
    refine wpAny_in_of (knd := PySem.strKind G.prog G.w) (k := x) (by simp [PySem.strKind, Value.isStrOf]) o4 (Heap.DictOf.mapOf (Heap.dictOf_iff.mpr ⟨_, S.get o1, o2⟩)) ?_
    rw [inKs_valueAt _ _ _ o3]; exact hQ'
  | str d x =>
    obtain ⟨t, rfl⟩ := ha.inv; obtain ⟨u, rfl⟩ := hb.inv
    refine PyProof.Rows.in_str ?_
    rw [show (⟨⟨[d]⟩⟩ : Str) = ⟨#[d]⟩ from rfl, StrLaws.found_one, ← isIn_mem]; exact hQ
theorem notIn_sound {a b : V} {c : Bool} {va vb : Value} (h : inV a b = some c) (S : Now G K h₀ L m ow s₀ led ce μ s)
    (ha : VR G (In K ow ce led) ce va a) (hb : VR G (In K ow ce led) ce vb b) (hQ : Q (.bool (!c)) s) (hQ' : Q (.bool (!c)) { s with toks := s.toks + 1 }) : wpAny (model G.prog G.w) A (compareOp .NotIn va vb) Q E s := by
  cases inK h with
  | tup h =>
    refine byC fun hg => ?_
    refine eEEAA (hb.inv) fun p vs ee2 t1 t2 => ?_
    subst ee2
    obtain ⟨h1, h2⟩ := in_flat (s := s) (A := A.in1) ha h t2
    refine hg ?_
    clear hg
    exact notIn_tupleAt (eqFlat va) (S.tup t1) (fun y hy => h1 y (List.mem_toArray.1 hy)) (by rw [show Array.any _ (eqFlat va) = c from by rw [← h2, List.any_toArray]]; exact hQ)
  | dict x ks ds =>
    refine byC fun hg => ?_
    obtain ⟨t, rfl⟩ := ha.inv
    refine eEEEAAAAA (hb.inv) fun p o vs ee3 o1 o2 o3 o4 o5 => ?_
    subst ee3
    refine hg ?_
    clear hg
    refine wpAny_notIn_of (knd := PySem.strKind G.prog G.w) (k := x) (by simp [PySem.strKind, Value.isStrOf]) o4 (Heap.DictOf.mapOf (Heap.dictOf_iff.mpr ⟨_, S.get o1, o2⟩)) ?_
    rw [inKs_valueAt _ _ _ o3]; exact hQ'
  | str d x =>
    obtain ⟨t, rfl⟩ := ha.inv; obtain ⟨u, rfl⟩ := hb.inv
    refine PyProof.Rows.notIn_str ?_
    rw [show (⟨⟨[d]⟩⟩ : Str) = ⟨#[d]⟩ from rfl, StrLaws.found_one, ← isIn_mem]; exact hQ
noncomputable def isNoneV : V → Bool
  | .none => true
  | _ => false
inductive CmpK (μ : Mu) : CmpOp → V → V → Bool → Prop where
  | eq {a b : V} {c : Bool} (h : eqT μ a b = some c) : CmpK μ .Eq a b c
  | ne {a b : V} {c : Bool} (h : neT μ a b = some c) : CmpK μ .NotEq a b c
  | lt (x y : Int) : CmpK μ .Lt (.int x) (.int y) (decide (x < y))
  | le (x y : Int) : CmpK μ .LtE (.int x) (.int y) (decide (x ≤ y))
  | les {x y : Str} {c : Bool} (h : leS x y = some c) : CmpK μ .LtE (.str x) (.str y) c
  | gt (x y : Int) : CmpK μ .Gt (.int x) (.int y) (decide (y < x))
  | isin {a b : V} {c : Bool} (h : inV a b = some c) : CmpK μ .In a b c
  | notin {a b : V} {c : Bool} (h : inV a b = some c) : CmpK μ .NotIn a b (!c)
  | same {a : V} (h : isKind a = true) : CmpK μ .Is a .none (isNoneV a)
theorem cmpK {op : CmpOp} {a b : V} {c : Bool} (h : cmpV op a b μ = some c) : CmpK μ op a b c := by
  cases op with
  | Eq => exact .eq h
  | NotEq => exact .ne h
  | Lt => cases a with
    | int x => cases b with
      | int y => exact Option.some.inj h ▸ .lt x y
      | _ => exact no_of h
    | _ => exact no_of h
  | LtE => cases a with
    | int x => cases b with
      | int y => exact Option.some.inj h ▸ .le x y
      | _ => exact no_of h
    | str x => cases b with
      | str y => exact .les h
      | _ => exact no_of h
    | _ => exact no_of h
  | Gt => cases a with
    | int x => cases b with
      | int y => exact Option.some.inj h ▸ .gt x y
      | _ => exact no_of h
    | _ => exact no_of h
  | In => exact .isin h
  | NotIn =>
    refine byC fun hg => ?_
    refine eEA (Option.map_eq_some_iff.mp (show (inV a b).map (!·) = some c from h)) fun d hd ee2 => ?_
    subst ee2
    refine hg ?_
    clear hg
    exact .notin hd
  | Is => cases b with
    | none =>
      have h : (match isKind a with | true => some (isNoneV a) | false => none) = some c := h
      cases hk : isKind a with
      | true => rw [hk] at h; exact Option.some.inj h ▸ .same hk
      | false => rw [hk] at h; exact no_of h
    | _ => exact no_of h
  | _ => exact no_of h
theorem is_none {a : V} {va : Value} {I : Addr → Obj → Prop} (hk : isKind a = true) (ha : VR G I ce va a) (q : Q (.bool (isNoneV a)) s) : wpAny (model G.prog G.w) A (compareOp .Is va .none) Q E s := by
  cases a with
  | none => obtain ⟨_, rfl⟩ := ha.inv; exact wpAny_is_plain rfl q
  | bool => obtain ⟨_, rfl⟩ := ha.inv; exact wpAny_is_plain rfl q
  | int => obtain ⟨_, rfl⟩ := ha.inv; exact wpAny_is_plain rfl q
  | str => obtain ⟨_, rfl⟩ := ha.inv; exact wpAny_is_plain rfl q
  | tup => obtain ⟨_, _, rfl, _⟩ := ha.inv; exact wpAny_is_plain rfl q
  | list => obtain ⟨_, _, rfl, _⟩ := ha.inv; exact wpAny_is_plain rfl q
  | inst => obtain ⟨_, _, _, _, _, rfl, _⟩ := ha.inv; exact wpAny_is_plain rfl q
  | _ => exact Bool.noConfusion hk
theorem cmp_sound {op : CmpOp} {a b : V} {c : Bool} {va vb : Value} (h : cmpV op a b μ = some c) (S : Now G K h₀ L m ow s₀ led ce μ s) (hu : A.units + 200 < cLine)
    (ha : VR G (In K ow ce led) ce va a) (hb : VR G (In K ow ce led) ce vb b) (hQ : Then G K h₀ L m ow s₀ led ce (One (.bool c) μ) Q) : wpAny (model G.prog G.w) A (compareOp op va vb) Q E s := by
  have q : Q (.bool c) s := S.yield0 .bool hQ
  have q' : Q (.bool c) { s with toks := s.toks + 1 } := S.yield .bool hQ
  clear hQ
  cases cmpK h with
  | eq h => exact eqT_sound h S hu ha hb q
  | ne h => exact neT_sound h S hu ha hb q
  | lt x y => obtain ⟨t, rfl⟩ := ha.inv; obtain ⟨u, rfl⟩ := hb.inv; exact PyProof.Rows.lt_int q
  | le x y => obtain ⟨t, rfl⟩ := ha.inv; obtain ⟨u, rfl⟩ := hb.inv; exact PyProof.Rows.le_int q
  | les h => obtain ⟨t, rfl⟩ := ha.inv; obtain ⟨u, rfl⟩ := hb.inv; exact P.le_str (by rw [leS_is h]; exact q)
  | gt x y => obtain ⟨t, rfl⟩ := ha.inv; obtain ⟨u, rfl⟩ := hb.inv; exact PyProof.Rows.gt_int q
  | isin h => exact in_sound h S ha hb q q'
  | notin h1 => exact notIn_sound h1 S ha hb q q'
  | same hk => obtain ⟨_, rfl⟩ := hb.inv; exact is_none hk ha q
end
end Mine

end

section
namespace Mine
open PySem PySem.W PySem.Calls PyProof.Rows PySem.SeqAt PySem.MeetsSeq
noncomputable def PartIs (v : Value) : Option Int → Prop
  | some i => ∃ t, v = .int i t
  | none => v = .none
theorem nthInt_is {α : Type} {l : List α} {i : Int} {d : α} (h : nthInt l i = some d) : 0 ≤ i ∧ i < 2 ^ 63 ∧ l[i.toNat]? = some d := by
  cases i with
  | negSucc n => exact no_of h
  | ofNat n =>
    replace h : (match Nat.blt n (2 ^ 40) with | true => l[n]? | false => none) = some d := h
    cases q : Nat.blt n (2 ^ 40) with
    | false => rw [q] at h; exact no_of h
    | true => rw [q] at h; exact iAA (Int.natCast_nonneg n) (Int.ofNat_lt.mpr (Nat.lt_trans (Nat.le_of_ble_eq_true q) (by decide : 2 ^ 40 < 2 ^ 63))) h
theorem seq_no {x k : Str} (h : seq x k = false) : x ≠ k := fun e => Bool.noConfusion (h.symm.trans (seq_iff.mpr e))
theorem seq_self {x : Str} : seq x x = true := seq_iff.mpr rfl
theorem look_hit {α : Type} {x : Str} {p : Str × α} {r : List (Str × α)} (h : seq x p.1 = true) : look x (p :: r) = some p.2 := by
  show (match seq x p.1 with | true => some p.2 | false => look x r) = _
  rw [h]
theorem look_miss {α : Type} {x : Str} {p : Str × α} {r : List (Str × α)} (h : seq x p.1 = false) : look x (p :: r) = look x r := by
  show (match seq x p.1 with | true => some p.2 | false => look x r) = _
  rw [h]
theorem valueAt_hit {x k : Str} {v : Value} {l : List (Str × Value)} (h : x = k) : valueAt ((k, v) :: l) x = some v := by simp [valueAt, h]
theorem valueAt_miss {x k : Str} {v : Value} {l : List (Str × Value)} (h : x ≠ k) : valueAt ((k, v) :: l) x = valueAt l x := by simp [valueAt, Ne.symm h]
theorem seqIndex_nat {k : Int} {n : Nat} (h0 : 0 ≤ k) (h : k.toNat < n) : seqIndex? k n = some k.toNat := by
  unfold seqIndex?
  have h1 : ¬ k < 0 := by lia
  have h2 : k < (n : Int) := by lia
  simp [h1, h0, h2]
theorem look_valueAt {α : Type} {x : Str} {f : Value → α → Prop} {ks : List Str} : ∀ {vs : List Value} {ds : List α} {d : α}, ks.length = vs.length → (∀ (i : Nat) e, ds[i]? = some e → ∃ v, vs[i]? = some v ∧ f v e) → look x (ks.zip ds) = some d → ∃ v, valueAt (ks.zip vs) x = some v ∧ f v d := by
  induction ks with
  | nil => exact fun u9 u9 h => no_of h
  | cons k ks ih => intro vs ds d hl hf h; cases vs with
    | nil => exact Nat.noConfusion hl
    | cons v vs => cases ds with
      | nil => exact no_of h
      | cons e ds =>
        cases q : seq x k with
        | true =>
          refine eEA (hf 0 e rfl) fun v' h1 h2 => iEA v' ((valueAt_hit (seq_iff.mp q)).trans h1) ?_
          exact Option.some.inj ((look_hit (p := (k, e)) q).symm.trans h) ▸ h2
        | false =>
          refine eEA (ih (Nat.succ.inj hl) (fun i e he => hf (i + 1) e he) ((look_miss (p := (k, e)) q).symm.trans h)) fun v' h1 h2 => ?_
          exact iEA v' ((valueAt_miss (seq_no q)).trans h1) h2
theorem look_none {α : Type} {x : Str} {ks : List Str} : ∀ {vs : List Value} {ds : List α}, ks.length = vs.length → vs.length = ds.length → look x (ks.zip ds) = none → valueAt (ks.zip vs) x = none := by
  induction ks with
  | nil => exact fun u9 u9 u9 => rfl
  | cons k ks ih => intro vs ds hl hm h; cases vs with
    | nil => exact Nat.noConfusion hl
    | cons v vs => cases ds with
      | nil => exact Nat.noConfusion hm
      | cons e ds =>
        cases q : seq x k with
        | true => exact no_of (h.symm.trans (look_hit (p := (k, e)) q))
        | false => exact (valueAt_miss (seq_no q)).trans (ih (Nat.succ.inj hl) (Nat.succ.inj hm) ((look_miss (p := (k, e)) q).symm.trans h))
section
variable {A : Around} {E : Value → Shared → Prop} {Q : Value → Shared → Prop}
variable {G : Gx} {K : Frag} {h₀ : Heap} {L : Addr} {m : Str → Option Value} {ow : List Addr} {s₀ s : Shared} {led : List (Addr × Obj)} {ce : List Addr} {μ : Mu}
theorem Now.newOff' (S : Now G K h₀ L m ow s₀ led ce μ s) {a : Addr} (ha : s.heap.objs.size ≤ a) : a ∉ ow ∧ a ∉ ce :=
  ⟨fun h => let ⟨_, y⟩ := S.O _ h; Nat.lt_irrefl _ (Nat.lt_of_lt_of_le (S.fresh _ y) ha), fun h => let ⟨_, y⟩ := S.C.mem h; Nat.lt_irrefl _ (Nat.lt_of_lt_of_le (S.fresh _ y) ha)⟩
inductive ItK (μ : Mu) : V → V → V → Prop where
  | tup {l : List V} {k : Int} {d : V} (h : nthInt l k = some d) : ItK μ (.tup l) (.int k) d
  | list {l : List V} {k : Int} {d : V} (h : nthInt l k = some d) : ItK μ (.list l) (.int k) d
  | cell {j : Nat} {l : List V} {k : Int} {d : V} (hl : μ[j]? = some l) (h : nthInt l k = some d) : ItK μ (.cell j) (.int k) d
  | str {x : Str} {k : Int} {c : Nat} (h : nthInt x.cps.toList k = some c) : ItK μ (.str x) (.int k) (.str (ch c))
  | dict {ks : List Str} {vs : List V} {x : Str} {d : V} (h : look x (ks.zip vs) = some d) : ItK μ (.dict ks vs) (.str x) d
theorem itK {o i d : V} (h : itemV μ o i = some d) : ItK μ o i d := by
  cases i with
  | int k => cases o with
    | tup l => exact .tup h
    | list l => exact .list h
    | cell j =>
      have h : (match μ[j]? with | some l => nthInt l k | none => none) = some d := h
      cases hl : μ[j]? with
      | none => rw [hl] at h; exact no_of h
      | some l => rw [hl] at h; exact .cell hl h
    | str x =>
      refine eEA (Option.map_eq_some_iff.mp (show (nthInt x.cps.toList k).map (fun c => V.str (ch c)) = some d from h)) fun c hc ee2 => ?_
      subst ee2
      exact .str hc
    | _ => exact no_of h
  | str x => cases o with
    | dict ks vs => exact .dict h
    | _ => exact no_of h
  | _ => exact no_of h
theorem nth_of {vs : List Value} {l : List V} {I : Addr → Obj → Prop} {k : Int} {d : V} (t2 : VRs G I ce vs l) (h : nthInt l k = some d) : 0 ≤ k ∧ k < 2 ^ 63 ∧ ∃ v, vs[k.toNat]? = some v ∧ vs.toArray[k.toNat]? = some v ∧ k.toNat < vs.length ∧ VR G I ce v d := by
  refine eAA (nthInt_is h) fun h0 h1 h2 => ?_
  refine eEA (t2.get h2) fun v g r => ?_
  exact ⟨h0, h1, v, g, by rw [List.getElem?_toArray]; exact g, (List.getElem?_eq_some_iff.mp g).1, r⟩
theorem item_list {value slice : Expr} {a : Addr} {k : Int} {t : Tok} {vs : List Value} {l : List V} {d : V} (S : Now G K h₀ L m ow s₀ led ce μ s) (hl : s.heap.IsList a vs.toArray) (t2 : VRs G (In K ow ce led) ce vs l) (h : nthInt l k = some d)
    (hs : subscripted slice false (.ref a) (.int k t) = operate [.ref a, .int k t] (getItem (.ref a) (.int k t))) (hQ : Then G K h₀ L m ow s₀ led ce (One d μ) Q) : wpAny (model G.prog G.w) A (subscriptTail value slice (.ref a) (.int k t)) Q E s := by
  obtain ⟨h0, h1, v, g, g', hlt, r⟩ := nth_of t2 h
  exact tail_any hl.typeIs slot_list_getitem.lookup (wpAny_getItem_list hl h0 h1 g' (S.yield0 r hQ)) hs
theorem item_sound {value slice : Expr} {o i d : V} {vo vi : Value} (h : itemV μ o i = some d) (S : Now G K h₀ L m ow s₀ led ce μ s) (ho : VR G (In K ow ce led) ce vo o) (hi : VR G (In K ow ce led) ce vi i)
    (hs : subscripted slice false vo vi = operate [vo, vi] (getItem vo vi)) (hQ : Then G K h₀ L m ow s₀ led ce (One d μ) Q) : wpAny (model G.prog G.w) A (subscriptTail value slice vo vi) Q E s := by
  cases itK h with
  | @tup l k d h =>
    obtain ⟨t, rfl⟩ := hi.inv
    refine eEEAA (ho.inv) fun a vs ee2 t1 t2 => ?_
    subst ee2
    obtain ⟨h0, h1, v, g, g', hlt, r⟩ := nth_of t2 h
    exact tail_any (S.tup t1).typeIs slot_tuple_getitem.lookup (getItem_tuple (S.tup t1) (by lia) h1 (j := k.toNat) (seqIndex_nat h0 (by rw [List.size_toArray]; exact hlt)) g' (S.yield0 r hQ)) hs
  | list h =>
    obtain ⟨t, rfl⟩ := hi.inv
    refine eEEAA (ho.inv) fun a vs ee2 t1 t2 => ?_
    subst ee2
    exact item_list S (S.list t1) t2 h hs hQ
  | cell hl h =>
    obtain ⟨t, rfl⟩ := hi.inv
    refine eEA (ho.inv) fun a ee1 xa => ?_
    subst ee1
    refine eEEEAA (S.C.at_ _ _ hl) fun a' vs n e1 m1 t2 => ?_
    obtain rfl := Option.some.inj (xa.symm.trans e1)
    exact item_list S ⟨_, (S.N _ m1).1, rfl, _, rfl⟩ t2 h hs hQ
  | @str x k c hc =>
    obtain ⟨u, rfl⟩ := hi.inv
    obtain ⟨t, rfl⟩ := ho.inv
    refine eAA (nthInt_is hc) fun h0 h1 h2 => ?_
    have hlt : k.toNat < x.cps.toList.length := (List.getElem?_eq_some_iff.mp h2).1
    have hx : k < (x.length : Int) := by show k < (x.cps.size : Int); rw [← Array.length_toList]; lia
    have e : Txt.item x k = ch c := by
      unfold Txt.item Txt.charAt
      rw [seqIndex_nat h0 (by lia)]
      dsimp only [Option.bind]
      rw [show x.cps[k.toNat]? = some c from by rw [← Array.getElem?_toList]; exact h2]
      rfl
    obtain ⟨T, id, hl, hT, hg⟩ := SB.item (prog := G.prog) (w := G.w) (A := A) (E := E) (s := s) (x := x) (t := t) (i := k) (u := u) (Q := Q) (fitsSsize_of (N := 9223372036854775808) (by lia) (by lia) (Int.le_refl _)) (charAt_isSome (by lia) hx) (S.yield (by rw [e]; exact .str) hQ)
    exact tail_any hT hl hg hs
  | @dict ks ds x d h =>
    obtain ⟨u, rfl⟩ := hi.inv
    refine eEEEAAAAA (ho.inv) fun a o vs ee3 o1 o2 o3 o4 o5 => ?_
    subst ee3
    refine eEA (look_valueAt o3 (fun i e he => o5.get he) h) fun v g r => ?_
    have D := Heap.DictOf.mapOf (Heap.dictOf_iff.mpr ⟨_, S.get o1, o2⟩)
    exact tail_any D.typeIs slot_dict_getitem.lookup (wpAny_getItem_of (knd := PySem.strKind G.prog G.w) (k := x) (by simp [PySem.strKind, Value.isStrOf]) D g (S.yield r hQ)) hs
theorem PartIs.part {v : Value} : ∀ {l : Option Int}, PartIs v l → IsPart v l
  | some _, ⟨_, e⟩ => e ▸ .int _ _
  | none, e => e ▸ .none
inductive CutK : V → Option Int → Option Int → V → Prop where
  | tup {l : List V} {n : Nat} (h0 : fitL l = true) (h1 : Nat.ble 1 n = true) (h2 : Nat.ble n l.length = true) : CutK (.tup l) (some (.ofNat n)) none (.tup (l.drop n))
  | list {l l1 : List V} {lo hi : Option Int} (h0 : fitL l = true) (h : cutL l lo hi = some l1) : CutK (.list l) lo hi (.list l1)
  | str {x : Str} {n : Nat} (h0 : Nat.ble x.length 100000 = true) : CutK (.str x) (some (.ofNat n)) none (.str ⟨(x.cps.toList.drop n).toArray⟩)
noncomputable def loHi {α : Type} (lo hi : Option Int) (f : Nat → Option α) : Option α := match lo, hi with
  | some (.ofNat n), none => f n
  | _, _ => none
theorem fitO_is {α : Type} {b : Bool} {f : Option α} {d : α} (h : fitO b f = some d) : b = true ∧ f = some d := by
  cases b with
  | true => exact ⟨rfl, h⟩
  | false => exact no_of h
theorem lohi {α : Type} {f : Nat → Option α} {lo hi : Option Int} {d : α} (h : loHi lo hi f = some d) : ∃ n : Nat, lo = some (.ofNat n) ∧ hi = none ∧ f n = some d := by
  cases lo with
  | none => exact no_of h
  | some i => cases i with
    | negSucc n => exact no_of h
    | ofNat n => cases hi with
      | none => exact ⟨n, rfl, rfl, h⟩
      | some j => exact no_of h
noncomputable def both {α : Type} (b c : Bool) (f : α) : Option α := match b, c with
  | true, true => some f
  | _, _ => none
theorem both_is {α : Type} {b c : Bool} {f d : α} (h : both b c f = some d) : b = true ∧ c = true ∧ f = d := by
  cases b with
  | false => exact no_of h
  | true => cases c with
    | false => exact no_of h
    | true => exact ⟨rfl, rfl, Option.some.inj h⟩
theorem cutK {o d : V} {l u : Option Int} (h : cutV o l u = some d) : CutK o l u d := by
  cases o with
  | tup xs =>
    obtain ⟨h0, h⟩ := fitO_is (b := fitL xs) (f := loHi l u fun n => both (Nat.ble 1 n) (Nat.ble n xs.length) (V.tup (xs.drop n))) h
    refine eEAA (lohi h) fun n ee1 ee2 h => ?_
    subst ee1
    subst ee2
    refine eAA (both_is h) fun h1 h2 ee2 => ?_
    subst ee2
    exact .tup h0 h1 h2
  | list xs =>
    obtain ⟨h0, h⟩ := fitO_is (b := fitL xs) (f := (cutL xs l u).map V.list) h
    refine eEA (Option.map_eq_some_iff.mp h) fun l1 hc ee2 => ?_
    subst ee2
    exact .list h0 hc
  | str x =>
    obtain ⟨h0, h⟩ := fitO_is (b := Nat.ble x.length 100000) (f := loHi l u fun n => some (V.str ⟨(x.cps.toList.drop n).toArray⟩)) h
    refine eEAA (lohi h) fun n ee1 ee2 h => ?_
    subst ee1
    subst ee2
    exact Option.some.inj h ▸ .str h0
  | _ => exact no_of h
theorem cutL_pick {l l1 : List V} {lo hi : Option Int} {vs : List Value} {I : Addr → Obj → Prop} (hc : cutL l lo hi = some l1) (t2 : VRs G I ce vs l) : ∃ ws, slicePick vs.toArray lo hi none = ws.toArray ∧ VRs G I ce ws l1 := by
  cases lo with
  | none => cases hi with
    | none => exact no_of hc
    | some i => cases i with
      | negSucc n => exact no_of hc
      | ofNat n => exact ⟨_, by rw [show (some (Int.ofNat n) : Option Int) = some ((n : Nat) : Int) from rfl, slicePick_upto'], Option.some.inj hc ▸ t2.take n⟩
  | some i => cases i with
    | negSucc n => exact no_of hc
    | ofNat n => cases hi with
      | none => exact ⟨_, by rw [show (some (Int.ofNat n) : Option Int) = some ((n : Nat) : Int) from rfl, slicePick_from'], Option.some.inj hc ▸ t2.drop n⟩
      | some j => exact no_of hc
theorem Now.cutMade (S : Now G K h₀ L m ow s₀ led ce μ s) {o0 ob : Obj} {d : V} (hf : ob.isFreed = false) (hQ : Then G K h₀ L m ow s₀ led ce (One d μ) Q) (tk : Nat)
    (r : In K ow ce ((s.heap.objs.size + 1, ob) :: led) (s.heap.objs.size + 1) ob → VR G (In K ow ce ((s.heap.objs.size + 1, ob) :: led)) ce (.ref (s.heap.objs.size + 1)) d) :
    Q (.ref (s.heap.push o0).objs.size) { s with heap := (s.heap.push o0).push ob, toks := tk } := by
  have N1 := News.push (S.F.push o0) (S.N.grown fun u9 u9 e => Heap.get?_push_of_some _ e) ob (by first | exact hf | assumption)
  rw [Heap.size_push] at N1
  rw [Heap.size_push]
  exact hQ _ _ _ _ _ _ (S.push ((S.F.push _).push _) N1) (.push _) (r (.inl ⟨.head _, (S.newOff' (Nat.le_succ _)).1, (S.newOff' (Nat.le_succ _)).2⟩)) ⟨rfl, rfl⟩
theorem slice_str {x : Str} {n : Nat} : Txt.slice x (some (Int.ofNat n)) none = ⟨(x.cps.toList.drop n).toArray⟩ := by
  by_cases hn : n ≤ x.length
  · rw [slice_from_eq (b := (x.length : Int)) (by simp) (by show (n : Int) ≤ _; lia) rfl]
    congr 1
    congr 1
    show List.take ((x.length : Int) - (n : Int)).toNat (List.drop n x.cps.toList) = _
    refine List.take_of_length_le ?_
    rw [List.length_drop, Array.length_toList]
    show x.length - n ≤ _
    lia
  · rw [slice_beyond (by show _ ≤ (n : Int); lia), List.drop_eq_nil_of_le (by rw [Array.length_toList]; show x.length ≤ n; lia)]
    rfl
theorem cut_sound {value : PySem.Expr} {lo hi : Option PySem.Expr} {p : Pos} {o d : V} {l u : Option Int} {vo vl vu : Value} (h : cutV o l u = some d) (S : Now G K h₀ L m ow s₀ led ce μ s) (ho : VR G (In K ow ce led) ce vo o)
    (hl : PartIs vl l) (hu : PartIs vu u)
    (hQ : Then G K h₀ L m ow s₀ led ce (One d μ) Q) : wpAny (model G.prog G.w) A (subscriptTail value (.Slice lo hi none p) vo (.ref s.heap.objs.size)) Q E { s with heap := s.heap.push { cls := .type "slice", data := .fields #[vl, vu, .none] } } := by
  have hb : 100000 < sizeLine := Nat.lt_of_lt_of_le (by decide) sizeLine_big
  cases cutK h with
  | @tup l n h0 h1 h2 =>
    obtain ⟨tk, rfl⟩ := hl
    obtain rfl := hu
    refine eEEAA (ho.inv) fun a vs ee2 t1 t2 => ?_
    subst ee2
    have h2' : n ≤ vs.length := by rw [t2.length]; exact Nat.le_of_ble_eq_true h2
    have hl : vs.length ≤ 100000 := by rw [t2.length]; exact Nat.le_of_ble_eq_true h0
    have ht : IsTup (s.heap.push { cls := .type "slice", data := .fields #[.int (Int.ofNat n) tk, .none, .none] }) a vs.toArray := (S.tup t1).keeps fun u9 u9 e => Heap.get?_push_of_some _ e
    refine tail_any (s := { s with heap := s.heap.push _ }) ht.typeIs slot_tuple_getitem.lookup (getItem_tuple_from ht (Heap.IsSliceOf.new ..) (Nat.le_of_ble_eq_true h1) (by rw [List.size_toArray]; exact h2') ?_ (by simp; lia)) rfl
    exact S.cutMade (ob := { cls := .type "tuple", data := .seq (vs.drop n).toArray }) rfl hQ _ fun inn => .tup ⟨_, _, inn, rfl, rfl⟩ ((t2.drop n).ext (.push _))
  | @list l l1 lo hi h0 hc =>
    refine eEEAA (ho.inv) fun a vs ee2 t1 t2 => ?_
    subst ee2
    have hl' : vs.length ≤ 100000 := by rw [t2.length]; exact Nat.le_of_ble_eq_true h0
    have ht : (s.heap.push { cls := .type "slice", data := .fields #[vl, vu, .none] }).IsList a vs.toArray := (S.list t1).push _
    refine eEA (cutL_pick hc t2) fun ws e1 r1 => ?_
    refine tail_any (s := { s with heap := s.heap.push _ }) (Heap.IsList.typeIs (s := { s with heap := s.heap.push _ }) ht) slot_list_getitem.lookup (wpAny_getItem_list_slice ht (Heap.IsSliceOf.new ..) hl.part hu.part .none (by simp) ?_ (by simp; lia)) rfl
    rw [e1]
    exact S.cutMade (ob := { cls := .type "list", data := .seq ws.toArray }) rfl hQ _ fun inn => .list (vs := ws) (.of inn) (r1.ext (.push _))
  | @str x n h0 =>
    obtain ⟨tk, rfl⟩ := hl
    obtain rfl := hu
    obtain ⟨t, rfl⟩ := ho.inv
    have hl' : x.length ≤ 100000 := Nat.le_of_ble_eq_true h0
    obtain ⟨T, id, hl, hT, hg⟩ := SBH.sliceItem_sn (prog := G.prog) (w := G.w) (A := A) (E := E) (s := s) (x := x) (t := t) (i := Int.ofNat n) (ui := tk) (Q := Q) keptFrN ⟨S.F, S.N⟩ (fun h' t' k a => by
      rw [slice_str]
      exact hQ _ _ _ _ _ _ ⟨a.1, a.2, S.X, S.big, S.C, S.O, let ⟨_, _, e⟩ := S.sm; ⟨h', k, by rw [e]⟩⟩ .refl .str ⟨rfl, rfl⟩) (by lia)
    exact tail_any hT hl hg rfl
end
end Mine

end

section
namespace Mine
open PySem PySem.W PySem.Calls PyProof.Rows PySem.SeqAt PySem.MeetsSeq
set_option tactic.hygienic true in
theorem indexL_is {c : Nat} : ∀ {l : List Nat} {i j : Nat}, indexL c l i = some j → ∀ k, l[k]? = some c → i + k = j
  | [], _, _, h => by cases h
  | d :: r, i, j, h => by
    unfold indexL at h
    split at h
    · rename_i hd
      split at h
      · cases h
      · rename_i hn
        cases h
        rw [isIn_mem, decide_eq_false_iff_not] at hn
        intro k hk
        cases k with
        | zero => rfl
        | succ k => exact absurd (List.mem_of_getElem? (by simpa using hk)) hn
    · rename_i hd
      intro k hk
      cases k with
      | zero =>
        simp at hk
        subst hk
        simp at hd
      | succ k => have := indexL_is h k (by simpa using hk); lia
set_option tactic.hygienic true in
theorem indexL_some {c : Nat} : ∀ {l : List Nat} {i j : Nat}, indexL c l i = some j → c ∈ l
  | [], _, _, h => by cases h
  | d :: r, i, j, h => by
    unfold indexL at h
    split at h
    · rename_i hd
      have := Nat.eq_of_beq_eq_true hd
      subst this
      exact .head _
    · exact .tail _ (indexL_some h)
theorem index_occ {x : Str} {c i : Nat} (h : indexL c x.cps.toList 0 = some i) : ∃ rest, Builtin.Str.occurrences x ⟨#[c]⟩ 0 x.length 1 = i :: rest := by
  have h1 := StrLaws.found_one x c
  rw [decide_eq_true (indexL_some h)] at h1
  cases ho : Builtin.Str.occurrences x ⟨#[c]⟩ 0 x.length 1 with
  | nil => rw [ho] at h1; cases h1
  | cons j rest =>
    have h2 := (StrLaws.subAt_one x c j).mp (StrLaws.occ_spec x ⟨#[c]⟩ 0 x.length 1 j (by rw [ho]; exact .head _))
    have := indexL_is h j h2
    exact ⟨rest, by rw [← this, Nat.zero_add]⟩
noncomputable def mixKind (prog : Program) (w : World) : KeyKind prog w (Int ⊕ Str) where
  is := fun k v => match k with | .inl i => Value.isInt i v | .inr x => Value.isStrOf x v
  hash := fun k => match k with | .inl i => hashInt i | .inr x => hashStr w x
  inj := fun v a b ha hb => by
    cases a with
    | inl a =>
      obtain ⟨t, rfl⟩ := Value.isInt_shape ha
      cases b with
      | inl b => rw [Value.isInt_inj _ _ _ ha hb]
      | inr b => obtain ⟨u, hu⟩ := Value.isStrOf_shape hb; cases hu
    | inr a =>
      obtain ⟨t, rfl⟩ := Value.isStrOf_shape ha
      cases b with
      | inl b => obtain ⟨u, hu⟩ := Value.isInt_shape hb; cases hu
      | inr b => rw [Value.isStrOf_inj _ _ _ ha hb]
  byValue := fun k v h => by
    cases k with
    | inl i => obtain ⟨t, rfl⟩ := Value.isInt_shape h; rfl
    | inr x => obtain ⟨t, rfl⟩ := Value.isStrOf_shape h; rfl
  pyHash := fun {A E s k v Q} hv h => by
    cases k with
    | inl i => obtain ⟨t, rfl⟩ := Value.isInt_shape hv; exact wpAny_pyHash_int h
    | inr x => obtain ⟨t, rfl⟩ := Value.isStrOf_shape hv; exact wpAny_pyHash_str h
  eqBool := fun {A E s a b u v Q} hu hv h => by
    cases a with
    | inl a =>
      obtain ⟨t, rfl⟩ := Value.isInt_shape hu
      cases b with
      | inl b =>
        obtain ⟨t', rfl⟩ := Value.isInt_shape hv
        exact wpAny_eqBool_int (by rw [← dec_beq, show decide (a = b) = decide ((.inl a : Int ⊕ Str) = .inl b) from decide_eq_decide.mpr ⟨fun e => by rw [e], Sum.inl.inj⟩]; exact h)
      | inr b =>
        obtain ⟨t', rfl⟩ := Value.isStrOf_shape hv
        exact EqAt.int_str _ _ _ _ _ _ _ _ (by simpa using h)
    | inr a =>
      obtain ⟨t, rfl⟩ := Value.isStrOf_shape hu
      cases b with
      | inl b =>
        obtain ⟨t', rfl⟩ := Value.isInt_shape hv
        exact EqAt.str_int _ _ _ _ _ _ _ _ (by simpa using h)
      | inr b =>
        obtain ⟨t', rfl⟩ := Value.isStrOf_shape hv
        exact wpAny_eqBool_str (by rw [show decide (a = b) = decide ((.inr a : Int ⊕ Str) = .inr b) from decide_eq_decide.mpr ⟨fun e => by rw [e], Sum.inr.inj⟩]; exact h)
  «strs» := fun k x t v h => by
    cases k with
    | inl i => simp [Value.isInt] at h
    | inr y => exact (PySem.strKind prog w).«strs» y x t v h
theorem mapOf_mix {prog : Program} {w : World} {h : Heap} {a : Addr} {f : Str → Option Value} (x : h.MapOf (PySem.strKind prog w) a f) : h.MapOf (mixKind prog w) a (fun k => match k with | .inl _ => none | .inr y => f y) := by
  refine byC fun hg => ?_
  refine eEEEAAAA (x) fun o es ep ho hx hd hk hf => ?_
  try clear x
  refine hg ?_
  clear hg
  refine ⟨o, es, ep, ho, hx, hd, fun e he => ?_, fun k => ?_⟩
  · refine eEA (hk e he) fun k h1 h2 => ?_
    exact iEA (.inr k) h1 h2
  · cases k with
    | inr y => exact hf y
    | inl i =>
      unfold findBy
      rw [Option.map_eq_none_iff, Array.find?_eq_none]
      intro e he hi
      refine byC fun hg => ?_
      refine eEA (hk e he) fun k h1 zz => ?_
      obtain ⟨t, h3⟩ := Value.isStrOf_shape h1
      refine hg ?_
      clear hg
      rw [h3] at hi
      simp [mixKind, Value.isInt] at hi
section
variable {A : Around} {E : Value → Shared → Prop} {Q : Value → Shared → Prop}
variable {G : Gx} {K : Frag} {h₀ : Heap} {L : Addr} {m : Str → Option Value} {ow : List Addr} {s₀ s : Shared} {led : List (Addr × Obj)} {ce : List Addr} {μ : Mu}
theorem get_method {a : Addr} {ks : List Str} {ds : List V} {pl : Sem Bool} {Q : Value × List Value → Shared → Prop} (S : Now G K h₀ L m ow s₀ led ce μ s) (ho : VR G (In K ow ce led) ce (.ref a) (.dict ks ds)) (hQ : Q (.builtin "dict.get", [.ref a]) s) :
    wpAny (model G.prog G.w) A (getMethod (.ref a) (Str.ofString "get") pl) Q E s := by
  refine byC fun hg => ?_
  refine eEEEAAAAA (ho.inv) fun zz o vs e o1 o2 o3 o4 o5 => ?_
  obtain rfl := Value.ref.inj e
  refine hg ?_
  clear hg
  have D := Heap.DictOf.mapOf (Heap.dictOf_iff.mpr ⟨_, S.get o1, o2⟩)
  exact getMethod_builtin D.typeIs F.plainAttrs_dict F.slot_dict_get F.type_dict_get D.noDict hQ
inductive GetK (μ : Mu) (k : V → Mu → Res) (r : Res) : V → List V → Prop where
  | str {ks : List Str} {ds : List V} {x : Str} {d v : V} (hd : look x (ks.zip ds) = some v) (h : k v μ = r) : GetK μ k r (.dict ks ds) [.str x, d]
  | dflt {ks : List Str} {ds : List V} {x : Str} {d : V} (hd : look x (ks.zip ds) = none) (h : k d μ = r) : GetK μ k r (.dict ks ds) [.str x, d]
  | int {ks : List Str} {ds : List V} {i : Int} {d : V} (h : k d μ = r) : GetK μ k r (.dict ks ds) [.int i, d]
set_option tactic.hygienic true in
theorem getK {o : V} {args : List V} {k : V → Mu → Res} {r : Res} (h : getV o args μ k = r) (hr : r ≠ .stuck) : GetK μ k r o args := by
  cases o with
  | dict ks ds =>
    match args, h with
    | [.str x, d], h =>
      have h : (match look x (ks.zip ds) with | some v => k v μ | none => k d μ) = r := h
      cases hd : look x (ks.zip ds) with
      | some v => rw [hd] at h; exact .str hd h
      | none => rw [hd] at h; exact .dflt hd h
    | [.int i, d], h => exact .int h
    | [], h => exact st h hr
    | [_], h => exact st (by rename_i a; cases a <;> exact h) hr
    | a :: _ :: _ :: _, h => exact st (by cases a <;> exact h) hr
    | [.none, _], h => exact st h hr
    | [.bool _, _], h => exact st h hr
    | [.tup _, _], h => exact st h hr
    | [.list _, _], h => exact st h hr
    | [.inst _ _, _], h => exact st h hr
    | [.dict _ _, _], h => exact st h hr
    | [.fn _, _], h => exact st h hr
    | [.cls _, _], h => exact st h hr
    | [.typ _, _], h => exact st h hr
    | [.blt _, _], h => exact st h hr
    | [.rng _, _], h => exact st h hr
    | [.cell _, _], h => exact st h hr
  | _ => exact st h hr
theorem get_sound {vo : Value} {o : V} {args : List V} {vs : List Value} {k : V → Mu → Res} {r : Res} (h : getV o args μ k = r) (hr : r ≠ .stuck) (S : Now G K h₀ L m ow s₀ led ce μ s) (_hu : A.units + 200 < cLine)
    (ho : VR G (In K ow ce led) ce vo o) (ha : VRs G (In K ow ce led) ce vs args) (hQ : Then G K h₀ L m ow s₀ led ce (fun d μ' => k d μ' = r) Q) : wpAny (model G.prog G.w) A (call (.builtin "dict.get") (vo :: vs)) Q E s := by
  have g := getK h hr
  clear h hr
  cases g with
  | @str ks ds x d v hd h =>
    refine byC fun hg => ?_
    refine eEEEAAAAA (ho.inv) fun a o1 ws ee3 i1 o2 o3 o4 o5 => ?_
    subst ee3
    refine eEEAA (ha.two) fun vx vd ee2 r1 r3 => ?_
    subst ee2
    obtain ⟨t, rfl⟩ := r1.inv
    refine hg ?_
    clear hg
    have D := Heap.DictOf.mapOf (Heap.dictOf_iff.mpr ⟨_, S.get i1, o2⟩)
    refine call_meetsIn F.slot_dict_get D.typeIs F.entry_dict_get (F.args_dict_get_3 _ _ _) (meets_dict_get_default (PySem.strKind G.prog G.w) a (k := x) (by simp [PySem.strKind, Value.isStrOf]) o4 vd) ⟨_, D, ?_⟩
    refine byC fun hg => ?_
    refine eEA (look_valueAt o3 (fun i e he => o5.get he) hd) fun v g rv => ?_
    refine hg ?_
    clear hg
    rw [g]
    exact hQ _ _ _ _ _ _ (S.toks _) .refl rv h
  | @dflt ks ds x d hd h =>
    refine byC fun hg => ?_
    refine eEEEAAAAA (ho.inv) fun a o1 ws ee3 i1 o2 o3 o4 o5 => ?_
    subst ee3
    refine eEEAA (ha.two) fun vx vd ee2 r1 r3 => ?_
    subst ee2
    obtain ⟨t, rfl⟩ := r1.inv
    refine hg ?_
    clear hg
    have D := Heap.DictOf.mapOf (Heap.dictOf_iff.mpr ⟨_, S.get i1, o2⟩)
    refine call_meetsIn F.slot_dict_get D.typeIs F.entry_dict_get (F.args_dict_get_3 _ _ _) (meets_dict_get_default (PySem.strKind G.prog G.w) a (k := x) (by simp [PySem.strKind, Value.isStrOf]) o4 vd) ⟨_, D, ?_⟩
    rw [look_none o3 o5.length hd]
    exact hQ _ _ _ _ _ _ (S.toks _) .refl r3 h
  | @int ks ds i d h =>
    refine byC fun hg => ?_
    refine eEEEAAAAA (ho.inv) fun a o1 ws ee3 i1 o2 o3 o4 o5 => ?_
    subst ee3
    refine eEEAA (ha.two) fun vx vd ee2 r1 r3 => ?_
    subst ee2
    obtain ⟨t, rfl⟩ := r1.inv
    refine hg ?_
    clear hg
    have D := Heap.DictOf.mapOf (Heap.dictOf_iff.mpr ⟨_, S.get i1, o2⟩)
    exact call_meetsIn F.slot_dict_get D.typeIs F.entry_dict_get (F.args_dict_get_3 _ _ _) (meets_dict_get_default (mixKind G.prog G.w) a (k := .inl i) (by simp [mixKind, Value.isInt]) o4 vd) ⟨_, mapOf_mix D, hQ _ _ _ _ _ _ (S.toks _) .refl r3 h⟩
theorem index_method {x : Str} {t : Tok} {pl : Sem Bool} {Q : Value × List Value → Shared → Prop} (hQ : Q (.builtin "str.index", [.str x t]) s) :
    wpAny (model G.prog G.w) A (getMethod (.str x t) (Str.ofString "index") pl) Q E s := GM.index hQ
inductive IdxK (μ : Mu) (k : V → Mu → Res) (r : Res) : V → List V → Prop where
  | mk {x : Str} {c i : Nat} (hi : indexL c x.cps.toList 0 = some i) (h : k (toI i) μ = r) : IdxK μ k r (.str x) [.str ⟨⟨[c]⟩⟩]
noncomputable def oneStr (args : List V) (f : Str → Res) : Res := match args with
  | [.str x] => f x
  | _ => .stuck
noncomputable def oneSign (x : Str) (f : Nat → Res) : Res := match x.cps.toList with
  | [c] => f c
  | _ => .stuck
theorem oneStr_is {args : List V} {f : Str → Res} {r : Res} (h : oneStr args f = r) (hr : r ≠ .stuck) : ∃ x, args = [.str x] ∧ f x = r := by
  cases args with
  | nil => exact st h hr
  | cons a l => cases l with
    | cons b l => exact st (by cases a <;> exact h) hr
    | nil => cases a with
      | str x => exact ⟨x, rfl, h⟩
      | _ => exact st h hr
theorem oneSign_is {x : Str} {f : Nat → Res} {r : Res} (h : oneSign x f = r) (hr : r ≠ .stuck) : ∃ c, x = ⟨⟨[c]⟩⟩ ∧ f c = r := by
  obtain ⟨⟨l⟩⟩ := x
  cases l with
  | nil => exact st h hr
  | cons c l => cases l with
    | nil => exact ⟨c, rfl, h⟩
    | cons d l => exact st h hr
theorem idxK {o : V} {args : List V} {k : V → Mu → Res} {r : Res} (h : indexV o args μ k = r) (hr : r ≠ .stuck) : IdxK μ k r o args := by
  cases o with
  | str x =>
    refine byC fun hg => ?_
    refine eEA (oneStr_is (f := fun y => oneSign y fun c => match indexL c x.cps.toList 0 with | some i => k (toI i) μ | none => .stuck) h hr) fun y ee1 h1 => ?_
    subst ee1
    refine eEA (oneSign_is h1 hr) fun c ee1 h2 => ?_
    subst ee1
    refine hg ?_
    clear hg
    clear h h1
    cases hi : indexL c x.cps.toList 0 with
    | none => rw [hi] at h2; exact st h2 hr
    | some i => rw [hi] at h2; exact .mk hi h2
  | _ => exact st h hr
theorem index_sound {vo : Value} {o : V} {args : List V} {vs : List Value} {k : V → Mu → Res} {r : Res} (h : indexV o args μ k = r) (hr : r ≠ .stuck) (S : Now G K h₀ L m ow s₀ led ce μ s) (_hu : A.units + 200 < cLine)
    (ho : VR G (In K ow ce led) ce vo o) (ha : VRs G (In K ow ce led) ce vs args) (hQ : Then G K h₀ L m ow s₀ led ce (fun d μ' => k d μ' = r) Q) : wpAny (model G.prog G.w) A (call (.builtin "str.index") (vo :: vs)) Q E s := by
  have g := idxK h hr
  clear h hr
  cases g with
  | mk hi h =>
    refine byC fun hg => ?_
    obtain ⟨t, rfl⟩ := ho.inv
    refine eEA (ha.one) fun v ee1 r1 => ?_
    subst ee1
    obtain ⟨u, rfl⟩ := r1.inv
    obtain ⟨rest, he⟩ := index_occ hi
    refine hg ?_
    clear hg
    exact SC.index he (hQ _ _ _ _ _ _ (S.toks _) .refl .int h)
end
end Mine

end

section
namespace Mine
open PySem PySem.W PySem.Calls PyProof.Rows PySem.SeqAt PySem.MeetsSeq
section
variable {A : Around} {E : Value → Shared → Prop} {Q : Value → Shared → Prop}
variable {G : Gx} {K : Frag} {h₀ : Heap} {L : Addr} {m : Str → Option Value} {ow : List Addr} {s₀ s : Shared} {led : List (Addr × Obj)} {ce : List Addr} {μ : Mu}
noncomputable abbrev RdP (h : Heap) (v : Value) (x : V) : Prop := ∀ d, dataOf x = some d → (∃ as, Reads h v d as) ∧ d.hasDict = false
noncomputable abbrev RdsP (h : Heap) (vs : List Value) (l : List V) : Prop := ∀ ds, dataOfs l = some ds → (∃ as, ReadsAll h vs ds as) ∧ PyData.hasDictAll ds = false
theorem rd_tup (S : Now G K h₀ L m ow s₀ led ce μ s) {a : Addr} {vs : List Value} {l : List V} (t1 : ITup (In K ow ce led) a vs) (ih : RdsP s.heap vs l) : RdP s.heap (.ref a) (.tup l) := fun d h => byC fun hg => by
  replace h : (dataOfs l).map PyData.tuple = some d := h
  cases q : dataOfs l with
  | none => rw [q] at h; exact no_of h
  | some ds =>
    rw [q] at h
    refine hg ?_
    rw [← Option.some.inj h]
    obtain ⟨⟨as, ra⟩, hd⟩ := ih ds q
    obtain ⟨o, ho, hc, n, hdt⟩ := S.tup t1
    exact ⟨⟨as, .tuple ho hc hdt ra⟩, hd⟩
theorem rd_cons {h : Heap} {v : Value} {vs : List Value} {x : V} {l : List V} (i : RdP h v x) (j : RdsP h vs l) : RdsP h (v :: vs) (x :: l) := fun d e => byC fun hg => by
  replace e : optCons (dataOf x) (dataOfs l) = some d := e
  cases q1 : dataOf x with
  | none => rw [q1] at e; exact no_of e
  | some y =>
    cases q2 : dataOfs l with
    | none => rw [q1, q2] at e; exact no_of e
    | some ys =>
      rw [q1, q2] at e
      refine hg ?_
      rw [← Option.some.inj e]
      obtain ⟨⟨as, r1⟩, e1⟩ := i _ q1
      obtain ⟨⟨bs, r2⟩, e2⟩ := j _ q2
      exact ⟨⟨_, .cons r1 r2⟩, show (_ || _) = false by rw [e1, e2]; rfl⟩
theorem reads_of (S : Now G K h₀ L m ow s₀ led ce μ s) {x : V} {v : Value} {d : PyData} (r : VR G (In K ow ce led) ce v x) (h : dataOf x = some d) : (∃ as, Reads s.heap v d as) ∧ d.hasDict = false :=
  VR.rec (motive_1 := fun v x u9 => RdP s.heap v x) (motive_2 := fun vs l u9 => RdsP s.heap vs l) (fun u9 h => Option.some.inj h ▸ ⟨⟨_, .none⟩, rfl⟩) (fun u9 h => no_of h) (fun u9 h => Option.some.inj h ▸ ⟨⟨_, .int _ _⟩, rfl⟩) (fun u9 h => Option.some.inj h ▸ ⟨⟨_, .str _ _⟩, rfl⟩)
    (fun a u9 ih => rd_tup S a ih) (fun u9 u9 u9 u9 h => no_of h) (fun u9 u9 u9 u9 u9 u9 h => no_of h) (fun u9 u9 u9 u9 u9 u9 u9 h => no_of h) (fun u9 u9 h => no_of h) (fun u9 u9 h => no_of h) (fun u9 h => no_of h) (fun u9 h => no_of h) (fun u9 h => no_of h) (fun u9 u9 h => no_of h)
    (fun u9 h => Option.some.inj h ▸ ⟨⟨_, .nil⟩, rfl⟩) (fun u9 u9 i j => rd_cons i j) r d h
theorem fitS_is {b : Bool} {x r : Res} (h : fitS b x = r) (hr : r ≠ .stuck) : b = true ∧ x = r := by
  cases b with
  | true => exact ⟨rfl, h⟩
  | false => exact st h hr
theorem arg1_is {args : List V} {f : V → Res} {r : Res} (h : arg1 args f = r) (hr : r ≠ .stuck) : ∃ v, args = [v] ∧ f v = r := by
  cases args with
  | nil => exact st h hr
  | cons a l => cases l with
    | nil => exact ⟨a, rfl, h⟩
    | cons b l => exact st h hr
theorem dec_of {n m : String} {x y r : Res} (h : (match decide (n = m) with | true => x | false => y) = r) : (n = m ∧ x = r) ∨ y = r := by
  by_cases e : n = m
  · rw [decide_eq_true e] at h; exact .inl ⟨e, h⟩
  · rw [decide_eq_false e] at h; exact .inr h
noncomputable def Gives1 (G : Gx) (A : Around) (Q : Value → Shared → Prop) (E : Value → Shared → Prop) (c : Value) (s : Shared) (I : Addr → Obj → Prop) (ce : List Addr) (d : V) (vs : List Value) : Prop :=
  (∀ (v : Value) (tk : Nat), VR G I ce v d → Q v { s with toks := tk }) → wpAny (model G.prog G.w) A (call c vs) Q E s
theorem len_sound {v : V} {va : Value} {k : V → Mu → Res} {r : Res} (h : lenV v μ k = r) (hr : r ≠ .stuck) (S : Now G K h₀ L m ow s₀ led ce μ s) (rv : VR G (In K ow ce led) ce va v) :
    ∃ n : Nat, k (toI n) μ = r ∧ Gives1 G A Q E (.builtin "len") s (In K ow ce led) ce (toI n) [va] := by
  have hb : 100000 ≤ sizeLine := Nat.le_trans (by decide) sizeLine_big
  cases v with
  | str x =>
    obtain ⟨hx, h1⟩ := fitS_is h hr
    obtain ⟨t, rfl⟩ := rv.inv
    have := Nat.le_of_ble_eq_true hx
    exact iEA _ h1 (fun q => PyProof.Rows.len_str (by lia) (q _ _ .int))
  | tup l =>
    obtain ⟨hl, h1⟩ := fitS_is h hr
    refine eEEAA (rv.inv) fun a vs ee2 t1 t2 => ?_
    subst ee2
    have e := t2.length
    have := Nat.le_of_ble_eq_true hl
    refine iEA _ h1 (fun q => len_tuple (S.tup t1) (by rw [List.size_toArray, e]; lia) ?_)
    rw [List.size_toArray, e]
    exact q _ _ .int
  | list l =>
    obtain ⟨hl, h1⟩ := fitS_is h hr
    refine eEEAA (rv.inv) fun a vs ee2 t1 t2 => ?_
    subst ee2
    have e := t2.length
    have := Nat.le_of_ble_eq_true hl
    refine iEA _ h1 (fun q => len_list (S.list t1) (by rw [List.size_toArray, e]; lia) ?_)
    rw [List.size_toArray, e]
    exact q _ _ .int
  | _ => exact st h hr
theorem abs_sound {v : V} {va : Value} {k : V → Mu → Res} {r : Res} {I : Addr → Obj → Prop} (h : absV v μ k = r) (hr : r ≠ .stuck) (rv : VR G I ce va v) :
    ∃ d : V, k d μ = r ∧ Gives1 G A Q E (.builtin "abs") s I ce d [va] := by
  cases v with
  | int i =>
    obtain ⟨t, rfl⟩ := rv.inv
    refine iEA _ h (fun q => call_abs_int fun u tk => ?_)
    have e : (if i < 0 then -i else i) = Int.ofNat i.natAbs := by split <;> (show _ = (i.natAbs : Int); lia)
    rw [e]
    exact q _ _ .int
  | _ => exact st h hr
theorem ord_sound {v : V} {va : Value} {k : V → Mu → Res} {r : Res} {I : Addr → Obj → Prop} (h : ordV v μ k = r) (hr : r ≠ .stuck) (rv : VR G I ce va v) :
    ∃ d : V, k d μ = r ∧ Gives1 G A Q E (.builtin "ord") s I ce d [va] := by
  cases v with
  | str x =>
    refine eEA (oneSign_is (f := fun c => k (toI c) μ) h hr) fun c ee1 h1 => ?_
    subst ee1
    obtain ⟨t, rfl⟩ := rv.inv
    exact iEA _ h1 (fun q => P.ord_of_char (q _ _ .int))
  | _ => exact st h hr
theorem chr_sound {v : V} {va : Value} {k : V → Mu → Res} {r : Res} {I : Addr → Obj → Prop} (h : chrV v μ k = r) (hr : r ≠ .stuck) (rv : VR G I ce va v) :
    ∃ d : V, k d μ = r ∧ Gives1 G A Q E (.builtin "chr") s I ce d [va] := by
  cases v with
  | int i => cases i with
    | negSucc n => exact st h hr
    | ofNat c =>
      obtain ⟨hc, h1⟩ := fitS_is h hr
      obtain ⟨t, rfl⟩ := rv.inv
      have : c < 128 := Nat.le_of_ble_eq_true hc
      exact iEA _ h1 (fun q => chr_of_range (by simp) (by show (c : Int) ≤ _; lia) (q _ _ .str))
  | _ => exact st h hr
theorem reprV_is {v : V} {x : Str} (h : reprV v = some x) : ∃ l d, v = .tup l ∧ dataOf (.tup l) = some d ∧ okShow d = true ∧ d.shown = x := by
  cases v with
  | tup l =>
    have h : (match dataOf (.tup l) with | some d => fitO (okShow d) (some d.shown) | none => none) = some x := h
    cases hd : dataOf (.tup l) with
    | none => rw [hd] at h; exact no_of h
    | some d =>
      rw [hd] at h
      obtain ⟨h1, h2⟩ := fitO_is h
      exact iEEAAA l d rfl hd h1 (Option.some.inj h2)
  | _ => exact no_of h
theorem show_sound {v : V} {va : Value} {k : V → Mu → Res} {r : Res} (h : showV v μ k = r) (hr : r ≠ .stuck) (S : Now G K h₀ L m ow s₀ led ce μ s) (hu : A.units + 200 < cLine) (hg : A.guards = some []) (rv : VR G (In K ow ce led) ce va v)
    (hQ : Then G K h₀ L m ow s₀ led ce (fun d μ' => k d μ' = r) Q) : wpAny (model G.prog G.w) A (call (.builtin "repr") [va]) Q E s := by
  have h : (match reprV v with | some x => k (.str x) μ | none => .stuck) = r := h
  cases hx : reprV v with
  | none => rw [hx] at h; exact st h hr
  | some x =>
    rw [hx] at h
    refine eEEAAA (reprV_is hx) fun l d ee2 hd hok ee5 => ?_
    subst ee2
    subst ee5
    obtain ⟨o12, o3⟩ := Bool.and_eq_true_iff.1 (show ((d.showable && Nat.ble d.depth 60) && Nat.ble d.shown.length 100000) = true from hok)
    obtain ⟨o1, o2⟩ := Bool.and_eq_true_iff.1 o12
    obtain ⟨⟨as, q⟩, hnd⟩ := reads_of S rv hd
    refine eEEA (rv.inv) fun a vs ee2 zz => ?_
    subst ee2
    have := Nat.le_of_ble_eq_true o2
    have h3 := Nat.le_of_ble_eq_true o3
    have hb := sizeLine_big
    exact repr_HN S.F S.N q hnd o1 hg (by lia) (fun h' u tk F N => hQ _ _ _ _ _ _ ⟨F, N, S.X, S.big, S.C, S.O, let ⟨_, _, e⟩ := S.sm; ⟨h', tk, by rw [e]⟩⟩ .refl .str h) (by lia)
theorem Gives1.fin {c : Value} {d : V} {vs : List Value} {k : V → Mu → Res} {r : Res} (g : Gives1 G A Q E c s (In K ow ce led) ce d vs) (h : k d μ = r) (S : Now G K h₀ L m ow s₀ led ce μ s) (hQ : Then G K h₀ L m ow s₀ led ce (fun d μ' => k d μ' = r) Q) : wpAny (model G.prog G.w) A (call c vs) Q E s :=
  g fun u9 u9 rv => hQ _ _ _ _ _ _ (S.toks _) .refl rv h
theorem blt_sound {n : String} {args : List V} {vs : List Value} {k : V → Mu → Res} {r : Res} (h : bltV n args μ k = r) (hr : r ≠ .stuck) (S : Now G K h₀ L m ow s₀ led ce μ s) (hu : A.units + 200 < cLine) (hg : A.guards = some [])
    (isi : ∀ {v t x y b} {Q : Value → Shared → Prop}, VR G (In K ow ce led) ce v x → VR G (In K ow ce led) ce t y → instV x y = some b → (∀ tk, Q (.bool b) { s with toks := tk }) → wpAny (model G.prog G.w) A (call (.builtin "isinstance") [v, t]) Q E s)
    (ha : VRs G (In K ow ce led) ce vs args) (hQ : Then G K h₀ L m ow s₀ led ce (fun d μ' => k d μ' = r) Q) : wpAny (model G.prog G.w) A (call (.builtin n) vs) Q E s := by
  rcases dec_of h with ⟨rfl, h1⟩ | h1
  · match args, h1, ha with
    | [v, t], h1, ha =>
      refine eEEAA (ha.two) fun va vt ee2 r1 r2 => ?_
      subst ee2
      have h1 : (match instV v t with | some b => k (.bool b) μ | none => .stuck) = r := h1
      cases hb : instV v t with
      | none => rw [hb] at h1; exact st h1 hr
      | some b =>
        rw [hb] at h1
        exact isi r1 r2 hb fun tk => hQ _ _ _ _ _ _ (S.toks _) .refl .bool h1
    | [], h1, _ => exact st h1 hr
    | [_], h1, _ => exact st h1 hr
    | _ :: _ :: _ :: _, h1, _ => exact st h1 hr
  clear isi h
  rcases dec_of h1 with ⟨rfl, h2⟩ | h2
  · refine eEA (arg1_is h2 hr) fun v ee1 h3 => ?_
    subst ee1
    refine eEA (ha.one) fun va ee1 rv => ?_
    subst ee1
    obtain ⟨u9, e, g⟩ := len_sound h3 hr S rv
    exact g.fin e S hQ
  clear h1
  rcases dec_of h2 with ⟨rfl, h1⟩ | h1
  · refine eEA (arg1_is h1 hr) fun v ee1 h3 => ?_
    subst ee1
    refine eEA (ha.one) fun va ee1 rv => ?_
    subst ee1
    obtain ⟨u9, e, g⟩ := abs_sound h3 hr rv
    exact g.fin e S hQ
  clear h2
  rcases dec_of h1 with ⟨rfl, h2⟩ | h2
  · refine eEA (arg1_is h2 hr) fun v ee1 h3 => ?_
    subst ee1
    refine eEA (ha.one) fun va ee1 rv => ?_
    subst ee1
    obtain ⟨u9, e, g⟩ := ord_sound h3 hr rv
    exact g.fin e S hQ
  clear h1
  rcases dec_of h2 with ⟨rfl, h1⟩ | h1
  · refine eEA (arg1_is h1 hr) fun v ee1 h3 => ?_
    subst ee1
    refine eEA (ha.one) fun va ee1 rv => ?_
    subst ee1
    obtain ⟨u9, e, g⟩ := chr_sound h3 hr rv
    exact g.fin e S hQ
  clear h2
  rcases dec_of h1 with ⟨rfl, h2⟩ | h2
  · refine eEA (arg1_is h2 hr) fun v ee1 h3 => ?_
    subst ee1
    refine eEA (ha.one) fun va ee1 rv => ?_
    subst ee1
    exact show_sound h3 hr S hu hg rv hQ
  · exact st h2 hr
theorem str_sound {v : V} {va : Value} {k : V → Mu → Res} {r : Res} {I : Addr → Obj → Prop} (h : strV v μ k = r) (hr : r ≠ .stuck) (rv : VR G I ce va v) :
    ∃ d : V, k d μ = r ∧ Gives1 G A Q E (.type "str") s I ce d [va] := by
  cases v with
  | int i => cases i with
    | negSucc n => exact st h hr
    | ofNat i =>
      obtain ⟨hi, h1⟩ := fitS_is h hr
      obtain ⟨t, rfl⟩ := rv.inv
      have : i < 2 ^ 40 := Nat.le_of_ble_eq_true hi
      exact iEA _ h1 (fun q => str_of_int_fit (N := 2 ^ 41) (by show (if (i : Int) < 0 then 0 - (i : Int) else (i : Int)) < _; lia) (by decide) fun u9 => q _ _ .str)
  | _ => exact st h hr
theorem list_sound {v : V} {va : Value} {k : V → Mu → Res} {r : Res} (h : listV v μ k = r) (hr : r ≠ .stuck) (S : Now G K h₀ L m ow s₀ led ce μ s) (rv : VR G (In K ow ce led) ce va v)
    (hQ : Then G K h₀ L m ow s₀ led ce (fun d μ' => k d μ' = r) Q) : wpAny (model G.prog G.w) A (call (.type "list") [va]) Q E s := by
  cases v with
  | tup l =>
    obtain ⟨hl, h1⟩ := fitS_is h hr
    refine eEEAA (rv.inv) fun a ws ee2 t1 t2 => ?_
    subst ee2
    obtain ⟨o, ho, hc, n, hd⟩ := S.tup t1
    refine call_list_seq (hsz := by rw [List.size_toArray, t2.length]; exact Nat.le_trans (Nat.le_of_ble_eq_true hl) (Nat.le_trans (by decide) sizeLine_big)) a (.inr rfl) ho hc hd fun h' c' hk hD => ?_
    refine hQ _ _ _ _ _ _ (S.push (p := (s.heap.objs.size, lstObj ws c')) (tk := s.toks) (S.F.keeps hk) ?_) (.push _) (.list (vs := ws) (.of (n := c') S.made) (t2.ext (.push _))) h1
    intro p hp
    rcases List.mem_cons.mp hp with rfl | hp
    · refine iAA hD ?_ (none_at_size S.F)
      refine eEEEA (S.F.ns) fun oL zz zz z2 zz => ?_
      exact (Nat.ne_of_lt (Heap.lt_size z2)).symm
    · exact ⟨hk _ _ (S.N p hp).1, (S.N p hp).2⟩
  | _ => exact st h hr
theorem tup_sound {v : V} {va : Value} {k : V → Mu → Res} {r : Res} (h : tupV v μ k = r) (hr : r ≠ .stuck) (S : Now G K h₀ L m ow s₀ led ce μ s) (rv : VR G (In K ow ce led) ce va v)
    (hQ : Then G K h₀ L m ow s₀ led ce (fun d μ' => k d μ' = r) Q) : wpAny (model G.prog G.w) A (call (.type "tuple") [va]) Q E s := by
  cases v with
  | list l =>
    obtain ⟨hl, h1⟩ := fitS_is h hr
    refine eEEAA (rv.inv) fun a ws ee2 t1 t2 => ?_
    subst ee2
    refine call_tuple_list (S.list t1) (fun h' hk => ?_) (by rw [List.size_toArray, t2.length]; exact Nat.le_trans (Nat.le_of_ble_eq_true hl) (Nat.le_trans (by decide) sizeLine_big))
    have F' : Fr h₀ L h' m := S.F.keeps hk
    have N' : News h₀ L h' led := fun p hp => ⟨hk _ _ (S.N p hp).1, (S.N p hp).2⟩
    have lt : ∀ p ∈ led, p.1 < h'.objs.size := fun p hp => Heap.lt_size (N' p hp).1
    have off : h'.objs.size ∉ ow ∧ h'.objs.size ∉ ce := ⟨fun z => let ⟨_, y⟩ := S.O _ z; Nat.lt_irrefl _ (lt _ y), fun z => let ⟨_, y⟩ := S.C.mem z; Nat.lt_irrefl _ (lt _ y)⟩
    exact hQ _ _ _ _ _ _ (S.push (p := (h'.objs.size, { cls := .type "tuple", data := .seq ws.toArray })) (tk := s.toks) (F'.push _) (N'.push F' _)) (.push _) (.tup (vs := ws) ⟨_, _, .inl ⟨.head _, off.1, off.2⟩, rfl, rfl⟩ (t2.ext (.push _))) h1
  | _ => exact st h hr
theorem rng_sound {v : V} {va : Value} {k : V → Mu → Res} {r : Res} (h : rngV v μ k = r) (hr : r ≠ .stuck) (S : Now G K h₀ L m ow s₀ led ce μ s) (rv : VR G (In K ow ce led) ce va v)
    (hQ : Then G K h₀ L m ow s₀ led ce (fun d μ' => k d μ' = r) Q) : wpAny (model G.prog G.w) A (call (.type "range") [va]) Q E s := by
  cases v with
  | int i => cases i with
    | negSucc n => exact st h hr
    | ofNat i =>
      obtain ⟨hi, h1⟩ := fitS_is h hr
      obtain ⟨t, rfl⟩ := rv.inv
      exact call_range_1 (hQ _ _ _ _ _ _ (S.push (p := (s.heap.objs.size, { cls := .type "range", data := .fields #[.int 0 s.toks, .int (Int.ofNat i) _, .int 1 (s.toks + 1)] })) (tk := s.toks + 1 + 1) (S.F.push _) (S.N.push S.F _)) (.push _) (.rng S.made) h1)
  | _ => exact st h hr
theorem typ_sound {n : String} {args : List V} {vs : List Value} {k : V → Mu → Res} {r : Res} (h : typV n args μ k = r) (hr : r ≠ .stuck) (S : Now G K h₀ L m ow s₀ led ce μ s) (_hu : A.units + 200 < cLine)
    (ha : VRs G (In K ow ce led) ce vs args) (hQ : Then G K h₀ L m ow s₀ led ce (fun d μ' => k d μ' = r) Q) : wpAny (model G.prog G.w) A (call (.type n) vs) Q E s := by
  rcases dec_of h with ⟨rfl, h1⟩ | h1
  · refine eEA (arg1_is h1 hr) fun v ee1 h3 => ?_
    subst ee1
    refine eEA (ha.one) fun va ee1 rv => ?_
    subst ee1
    obtain ⟨u9, e, g⟩ := str_sound h3 hr rv
    exact g.fin e S hQ
  clear h
  rcases dec_of h1 with ⟨rfl, h2⟩ | h2
  · refine eEA (arg1_is h2 hr) fun v ee1 h3 => ?_
    subst ee1
    refine eEA (ha.one) fun va ee1 rv => ?_
    subst ee1
    exact list_sound h3 hr S rv hQ
  clear h1
  rcases dec_of h2 with ⟨rfl, h1⟩ | h1
  · refine eEA (arg1_is h1 hr) fun v ee1 h3 => ?_
    subst ee1
    refine eEA (ha.one) fun va ee1 rv => ?_
    subst ee1
    exact tup_sound h3 hr S rv hQ
  clear h2
  rcases dec_of h1 with ⟨rfl, h2⟩ | h2
  · refine eEA (arg1_is h2 hr) fun v ee1 h3 => ?_
    subst ee1
    refine eEA (ha.one) fun va ee1 rv => ?_
    subst ee1
    exact rng_sound h3 hr S rv hQ
  · exact st h2 hr
end
end Mine

end

section
namespace Mine
open PySem PySem.W PySem.Calls PyProof.Rows
section
variable {A : Around} {E : Value → Shared → Prop} {Q : Value → Shared → Prop}
variable {G : Gx} {K : Frag} {h₀ : Heap} {L : Addr} {m : Str → Option Value} {ow : List Addr} {s₀ s : Shared} {led : List (Addr × Obj)} {ce : List Addr} {μ : Mu}
theorem neg_sound {i : Int} {va : Value} (S : Now G K h₀ L m ow s₀ led ce μ s) (ha : VR G (In K ow ce led) ce va (.int i)) (hQ : Then G K h₀ L m ow s₀ led ce (One (.int (-i)) μ) Q) :
    wpAny (model G.prog G.w) A (unaryOp .USub va) Q E s := by
  obtain ⟨t, rfl⟩ := ha.inv
  exact neg_int (S.yield .int hQ)
theorem optS_is {α : Type} {o : Option α} {k : α → Res} {r : Res} (h : optS o k = r) (hr : r ≠ .stuck) : ∃ a, o = some a ∧ k a = r := by
  cases o with
  | none => exact st h hr
  | some a => exact ⟨a, rfl, h⟩
theorem withBool_is {v : V} {k : Bool → Res} {r : Res} (h : withBool v k = r) (hr : r ≠ .stuck) : ∃ b, v = .bool b ∧ k b = r := by
  cases v with
  | bool b => exact ⟨b, rfl, h⟩
  | _ => exact st h hr
theorem withInt_is {v : V} {k : Int → Res} {r : Res} (h : withInt v k = r) (hr : r ≠ .stuck) : ∃ i, v = .int i ∧ k i = r := by
  cases v with
  | int i => exact ⟨i, rfl, h⟩
  | _ => exact st h hr
theorem withTup_is {v : V} {k : List V → Res} {r : Res} (h : withTup v k = r) (hr : r ≠ .stuck) : ∃ l, v = .tup l ∧ k l = r := by
  cases v with
  | tup l => exact ⟨l, rfl, h⟩
  | _ => exact st h hr
theorem withList_is {v : V} {k : List V → Res} {r : Res} (h : withList v k = r) (hr : r ≠ .stuck) : ∃ l, v = .list l ∧ k l = r := by
  cases v with
  | list l => exact ⟨l, rfl, h⟩
  | _ => exact st h hr
theorem withCell_is {v : V} {k : Nat → Res} {r : Res} (h : withCell v k = r) (hr : r ≠ .stuck) : ∃ i, v = .cell i ∧ k i = r := by
  cases v with
  | cell i => exact ⟨i, rfl, h⟩
  | _ => exact st h hr
theorem attrOf_is {e : PySem.Expr} {q : PySem.Expr × Str × Pos} (h : attrOf e = some q) : e = .Attribute q.1 q.2.1 q.2.2 := by
  cases e with
  | Attribute o m p => exact Option.some.inj h ▸ rfl
  | _ => exact no_of h
theorem sliceOf_is {e : PySem.Expr} {q : Option PySem.Expr × Option PySem.Expr × Pos} (h : sliceOf e = some q) : e = .Slice q.1 q.2.1 none q.2.2 := by
  cases e with
  | Slice a b c p => cases c with
    | none => exact Option.some.inj h ▸ rfl
    | some c => exact no_of h
  | _ => exact no_of h
theorem nameOf_is {e : PySem.Expr} {q : Str × Pos} (h : nameOf e = some q) : e = .Name q.1 q.2 := by
  cases e with
  | Name x p => exact Option.some.inj h ▸ rfl
  | _ => exact no_of h
theorem gen1_is {g : List Comprehension} {q : Str × Pos × PySem.Expr} (h : gen1 g = some q) : g = [⟨.Name q.1 q.2.1, q.2.2, [], 0⟩] := by
  match g, h with
  | [g], h =>
    refine eEA (Option.bind_eq_some_iff.mp (show ((nameOf g.target).bind fun q => fitO g.ifs.isEmpty (fitO (decide (g.is_async = 0)) (some (q.1, q.2, g.iter)))) = some q from h)) fun p hp h1 => ?_
    obtain ⟨h2, h3⟩ := fitO_is h1
    obtain ⟨h4, h5⟩ := fitO_is h3
    obtain ⟨t, it, ifs, as⟩ := g
    obtain rfl : ifs = [] := List.isEmpty_iff.1 h2
    obtain rfl : as = 0 := of_decide_eq_true h4
    rw [← Option.some.inj h5, ← nameOf_is hp]
  | [], h => exact no_of h
  | _ :: _ :: _, h => exact no_of h
end
end Mine

end

section
namespace Mine
open PySem PySem.W PySem.Calls PyProof.Rows
noncomputable abbrev XNT := Value → Int → List Addr → List (Addr × Obj) → List Addr → Mu → Shared → Prop
noncomputable def XThen (XN : XNT) (ow : List Addr) (led : List (Addr × Obj)) (ce : List Addr) (P : Int → Mu → Prop) (E : Value → Shared → Prop) : Prop :=
  ∀ e n s' led' ce' μ', XN e n ow led' ce' μ' s' → Ext led ce led' ce' → P n μ' → E e s'
noncomputable def outR : Res → Bool
  | .ret _ _ => true
  | .exc _ _ => true
  | _ => false
structure Hyp (G : Gx) (K : Frag) (h₀ : Heap) (L : Addr) (m : Str → Option Value) (s₀ : Shared) (A : Around) (XN : XNT) (Φ : Nat → List V → Mu → Res) : Prop where
  hh : A.handled = none
  hu : A.units + 200 < cLine
  hg : A.guards = some []
  isi : ∀ {ow v t x y b μ led ce s} {Q E : Value → Shared → Prop}, Now G K h₀ L m ow s₀ led ce μ s → VR G (In K ow ce led) ce v x → VR G (In K ow ce led) ce t y → instV x y = some b → (∀ tk, Q (.bool b) { s with toks := tk }) → wpAny (model G.prog G.w) A (call (.builtin "isinstance") [v, t]) Q E s
  xnd : ∀ {e n ow led ce μ s}, XN e n ow led ce μ s → ce.Nodup
  xw : ∀ {e n ow ow0 led ce μ s}, XN e n ow led ce μ s → (∀ a ∈ ow0, a ∈ ow) → XN e n ow0 led ce μ s
  calls : ∀ {ow i a args vs μ led ce s R Q E}, IFun G (In K ow ce led) a i → VRs G (In K ow ce led) ce vs args → Now G K h₀ L m ow s₀ led ce μ s → Φ i args μ = R → outR R = true →
    Then G K h₀ L m ow s₀ led ce (fun d μ' => R = .ret d μ') Q → XThen XN ow led ce (fun n μ' => R = .exc n μ') E → wpAny (model G.prog G.w) A (call (.ref a) vs) Q E s
  keepC : ∀ c, keepIn K (.ref (G.cA c)) = true
  class_ : ∀ {ow c args vs μ led ce s k r Q E}, VRs G (In K ow ce led) ce vs args → Now G K h₀ L m ow s₀ led ce μ s → mkInst c args μ k = r → r ≠ .stuck →
    Then G K h₀ L m ow s₀ led ce (fun d μ' => k d μ' = r) Q → wpAny (model G.prog G.w) A (call (.ref (G.cA c)) vs) Q E s
  meth : ∀ {ow a c fs μ led ce s n i pl Q E}, VR G (In K ow ce led) ce (.ref a) (.inst c fs) → Now G K h₀ L m ow s₀ led ce μ s → methFn c n = some i →
    (∀ f, IFun G (In K ow ce led) f i → Q (.ref f, [.ref a]) s) → wpAny (model G.prog G.w) A (getMethod (.ref a) n pl) Q E s
  field : ∀ {ow o v d μ led ce s n Q E}, VR G (In K ow ce led) ce v o → Now G K h₀ L m ow s₀ led ce μ s → fieldV o n = some d → Then G K h₀ L m ow s₀ led ce (One d μ) Q →
    wpAny (model G.prog G.w) A (getAttr v n true) Q E s
section
variable {A : Around} {XN : XNT} {Φ : Nat → List V → Mu → Res}
variable {G : Gx} {K : Frag} {h₀ : Heap} {L : Addr} {m : Str → Option Value} {ow : List Addr} {s₀ : Shared}

noncomputable def HNg (A : Around) (G : Gx) (K : Frag) (h₀ : Heap) (L : Addr) (m : Str → Option Value) (ow : List Addr) (s₀ : Shared) (nenv : Env) (cx : Cx) (ρ : Rho) (led : List (Addr × Obj)) (ce : List Addr) : Prop :=
  ∀ {x d pos}, nameV cx ρ x = some d → ∃ v, VR G (In K ow ce led) ce v d ∧ ∀ {ow' s' led' ce' μ'}, Now G K h₀ L m ow' s₀ led' ce' μ' s' → Ext led ce led' ce' → ∀ {Q E}, Q v s' →
    wpAny (model G.prog G.w) A (eval (.Name x pos) nenv) Q E s'
noncomputable def NsIs (o : Obj) (m : Str → Option Value) : Prop := ∃ es ep, o.data = .dict es ep ∧ StrKeys es ∧ ∀ name, nsFind es name = m name
structure HN (A : Around) (G : Gx) (K : Frag) (h₀ : Heap) (L : Addr) (m : Str → Option Value) (ow : List Addr) (s₀ : Shared) (nenv : Env) (cx : Cx) (ρ : Rho) (led : List (Addr × Obj)) (ce : List Addr) : Prop where
  get : HNg A G K h₀ L m ow s₀ nenv cx ρ led ce
  comp : ∀ {x sc}, compOk cx ρ x sc = true → ∃ cl, closureFor sc nenv = pure cl ∧ ∀ {ow' led' ce' v dv C oC m₂}, (∀ a o, In K ow ce led a o → In K ow' ce' led' a o) → Ext led ce led' ce' → ce'.Nodup → (C, oC) ∈ led' → C ∉ ce' → NsIs oC m₂ → m₂ x = some v →
    VR G (In K ow' ce' led') ce' v dv → HNg A G K h₀ L m ow' s₀ (compEnvC sc cl C nenv) { cx with kinds := compKinds x sc, top := false } ((x, .val dv) :: ρ) led' ce'
theorem HN.after {nenv cx ρ led ce led' ce' μ s} (H : HN A G K h₀ L m ow s₀ nenv cx ρ led ce) (x : Ext led ce led' ce') (S : Now G K h₀ L m ow s₀ led' ce' μ s) : HN A G K h₀ L m ow s₀ nenv cx ρ led' ce' :=
  ⟨fun e => let ⟨v, r, k⟩ := H.get e; ⟨v, r.ext x, fun S' x' u9 u9 q => k S' (x.trans x' S'.C.nodup) q⟩, fun e => let ⟨cl, h1, h2⟩ := H.comp e; ⟨cl, h1, fun hi hx hnd hm hc hn hv hr => h2 (fun a o q => hi a o (x.inn q)) (x.trans hx hnd) hnd hm hc hn hv hr⟩⟩
theorem XThen.weak {ow0 led ce P E} (hw : ∀ {e n ow ow0 led ce μ s}, XN e n ow led ce μ s → (∀ a ∈ ow0, a ∈ ow) → XN e n ow0 led ce μ s) (H : XThen XN ow0 led ce P E) (sub : ∀ a ∈ ow0, a ∈ ow) : XThen XN ow led ce P E :=
  fun e n s l c μ h y p => H e n s l c μ (hw h sub) y p
theorem XThen.after {led ce led' ce' P E} (hx : ∀ {e n ow led ce μ s}, XN e n ow led ce μ s → ce.Nodup) (H : XThen XN ow led ce P E) (x : Ext led ce led' ce') : XThen XN ow led' ce' P E :=
  fun e n s l c μ h y p => H e n s l c μ h (x.trans y (hx h)) p

noncomputable def SndE (G : Gx) (K : Frag) (h₀ : Heap) (L : Addr) (m : Str → Option Value) (s₀ : Shared) (A : Around) (XN : XNT) (Φ : Nat → List V → Mu → Res) (EV : EF) : Prop :=
  ∀ {ow cx ρ e μ k r nenv led ce s Q E}, cx.Φ = Φ → EV cx ρ e μ k = r → r ≠ .stuck → Now G K h₀ L m ow s₀ led ce μ s → HN A G K h₀ L m ow s₀ nenv cx ρ led ce →
    Then G K h₀ L m ow s₀ led ce (fun d μ' => k d μ' = r) Q → XThen XN ow led ce (fun n μ' => r = .exc n μ') E → wpAny (model G.prog G.w) A (eval e nenv) Q E s
noncomputable def SndC (G : Gx) (K : Frag) (h₀ : Heap) (L : Addr) (m : Str → Option Value) (s₀ : Shared) (A : Around) (XN : XNT) (Φ : Nat → List V → Mu → Res) (CV : CF) : Prop :=
  ∀ {ow cx ρ e μ k r nenv led ce s Q E}, cx.Φ = Φ → CV cx ρ e μ k = r → r ≠ .stuck → Now G K h₀ L m ow s₀ led ce μ s → HN A G K h₀ L m ow s₀ nenv cx ρ led ce →
    (∀ b s' led' ce' μ', Now G K h₀ L m ow s₀ led' ce' μ' s' → Ext led ce led' ce' → k b μ' = r → Q b s') → XThen XN ow led ce (fun n μ' => r = .exc n μ') E → wpAny (model G.prog G.w) A (isTrue e nenv (eval e nenv)) Q E s

variable (H : Hyp G K h₀ L m s₀ A XN Φ) {EV : EF} {CV : CF}
include H
theorem evList_sound (hE : SndE G K h₀ L m s₀ A XN Φ EV) {cx ρ nenv pos} (hΦ : cx.Φ = Φ) : ∀ {es μ k r led ce s Q E}, evList EV cx ρ es μ k = r → r ≠ .stuck → Now G K h₀ L m ow s₀ led ce μ s →
    HN A G K h₀ L m ow s₀ nenv cx ρ led ce →
    (∀ vs ds s' led' ce' μ', Now G K h₀ L m ow s₀ led' ce' μ' s' → Ext led ce led' ce' → VRs G (In K ow ce' led') ce' vs ds → k ds μ' = r → Q vs s') → XThen XN ow led ce (fun n μ' => r = .exc n μ') E →
    wpAny (model G.prog G.w) A (spliced (backTo pos (starEach es nenv))) Q E s
  | [], μ, k, r, led, ce, s, Q, E, h, hr, S, hn, hQ, hX => spliced_nil (hQ _ _ _ _ _ _ S .refl .nil h)
  | e :: es, μ, k, r, led, ce, s, Q, E, h, hr, S, hn, hQ, hX => by
    unfold evList at h
    have he : starEach (e :: es) nenv = (false, eval e nenv) :: starEach es nenv := by
      cases e <;> first | rfl | (simp [isStarred] at h; exact absurd h.symm hr)
    have hf : isStarred e = false := by
      cases q : isStarred e with
      | false => rfl
      | true => rw [q] at h; exact absurd h.symm hr
    rw [hf] at h
    rw [he]
    show wpAny (model G.prog G.w) A (spliced ((false, eval e nenv) :: backTo pos (starEach es nenv))) Q E s
    refine spliced_cons (hE hΦ h hr S hn (fun v d s' led' ce' μ' S' x rv hk => ?_) hX)
    refine evList_sound hE hΦ hk hr S' (hn.after x S') (fun vs ds s'' l c μ'' S'' y rs hk' => hQ _ _ _ _ _ _ S'' (x.trans y S''.C.nodup) (.cons (rv.ext y) rs) hk') (hX.after H.xnd x)
end
section
variable {G : Gx} {A : Around} {E : Value → Shared → Prop} {s : Shared} {nenv : Env}
theorem noStar_plain {pos : Pos} : ∀ {es : List Expr}, es.all (fun e => !isStarred e) = true → (backTo pos (starEach es nenv)).any (·.1) = false
  | [], _ => rfl
  | e :: es, h => by
    simp only [List.all_cons, Bool.and_eq_true, Bool.not_eq_true'] at h
    have he : starEach (e :: es) nenv = (false, eval e nenv) :: starEach es nenv := by
      cases e <;> first | rfl | (simp [isStarred] at h)
    rw [he]
    show ((false || (backTo pos (starEach es nenv)).any (·.1))) = false
    rw [noStar_plain h.2]; rfl
theorem callWith_plain {P : Heap → Prop} {f : Value} {first : List Value} {es : List Expr} {pos : Pos} {Q : Value → Shared → Prop} (hs : es.all (fun e => !isStarred e) = true)
    (hk : ∀ h, P h → ∃ k, (k = Keeper.frame ∨ k = Keeper.machine ∨ k = Keeper.boundFrame) ∧ Looks (model G.prog G.w) h (keeperOf f) k)
    (h : wpAny (model G.prog G.w) A (spliced (backTo pos (starEach es nenv))) (fun vs s₁ => P s₁.heap ∧ wpAny (model G.prog G.w) A (call f (first ++ vs)) Q E s₁) E s) :
    wpAny (model G.prog G.w) A (callWith pos f first (backTo pos (starEach es nenv)) (backToKw pos [])) Q E s := by
  refine callWith_of (by rw [noStar_plain hs]; rfl) hk ?_
  cases es with
  | nil => 
    intro Γ p hΓ
    exact evalArgs_nil3 (h Γ p hΓ) Γ p hΓ
  | cons e es =>
    simp only [List.all_cons, Bool.and_eq_true, Bool.not_eq_true'] at hs
    have he : starEach (e :: es) nenv = (false, eval e nenv) :: starEach es nenv := by
      cases e <;> first | rfl | (simp [isStarred] at hs)
    rw [he] at h ⊢
    exact evalArgs_plain h
end
end Mine

end

section
namespace Mine
open PySem PySem.W PySem.Calls PyProof.Rows
section
variable {A : Around} {XN : XNT} {Φ : Nat → List V → Mu → Res}
variable {G : Gx} {K : Frag} {h₀ : Heap} {L : Addr} {m : Str → Option Value} {ow : List Addr} {s₀ : Shared}
theorem Then.to {led ce} {P P' : V → Mu → Prop} {Q : Value → Shared → Prop} (h : Then G K h₀ L m ow s₀ led ce P Q) (p : ∀ d μ, P' d μ → P d μ) : Then G K h₀ L m ow s₀ led ce P' Q :=
  fun v d s' l c μ' S e r q => h v d s' l c μ' S e r (p _ _ q)
theorem Then.one {led ce} {P : V → Mu → Prop} {Q : Value → Shared → Prop} {d : V} {μ : Mu} (h : Then G K h₀ L m ow s₀ led ce P Q) (p : P d μ) : Then G K h₀ L m ow s₀ led ce (One d μ) Q :=
  h.to fun u9 u9 q => by rw [q.1, q.2]; exact p
theorem Then.bool {led ce} {P : V → Mu → Prop} {Q : Value → Shared → Prop} {b : Bool} {μ : Mu} {s : Shared} (h : Then G K h₀ L m ow s₀ led ce P Q) (S : Now G K h₀ L m ow s₀ led ce μ s) (p : P (.bool b) μ) : Q (.bool b) s :=
  h _ _ _ _ _ _ S .refl .bool p
variable (H : Hyp G K h₀ L m s₀ A XN Φ) {EV : EF} {CV : CF} (hE : SndE G K h₀ L m s₀ A XN Φ EV)
include H hE
omit H hE in
theorem ifS_t {x y r : Res} (h : ifS true x y = r) : x = r := h
theorem chain_sound {cx ρ nenv pos} (hΦ : cx.Φ = Φ) {ops} : ∀ {rs μ k r led ce s Q E left vl}, evChain EV cx ρ left ops rs μ k = r → r ≠ .stuck → Now G K h₀ L m ow s₀ led ce μ s → HN A G K h₀ L m ow s₀ nenv cx ρ led ce →
    VR G (In K ow ce led) ce vl left →
    (∀ b s' led' ce' μ', Now G K h₀ L m ow s₀ led' ce' μ' s' → Ext led ce led' ce' → k b μ' = r → Q (.bool b) s') → XThen XN ow led ce (fun n μ' => r = .exc n μ') E →
    wpAny (model G.prog G.w) A (compareChain pos vl ops (evalEach rs nenv)) Q E s := by
  induction ops with
  | nil => intro rs μ k r led ce s Q E left vl h hr; exact st h hr
  | cons op ops ih =>
    intro rs μ k r led ce s Q E left vl h hr S hn rl hQ hX
    cases rs with
    | nil => exact st h hr
    | cons e es => cases ops with
      | nil => cases es with
        | cons _ _ => exact st h hr
        | nil =>
          refine chain_last (hE hΦ (show (EV cx ρ e μ fun v μ => optS (cmpV op left v μ) fun b => k b μ) = r from h) hr S hn (fun v d s' led' ce' μ' S' x rv hk => ?_) hX)
          refine byC fun hg => ?_
          refine eEA (optS_is hk hr) fun b hb h2 => ?_
          refine hg ?_
          clear hg
          refine cmp_sound hb S' H.hu (rl.ext x) rv fun v' d' s'' l c μ'' S'' y rv' q => ?_
          obtain ⟨q1, q2⟩ := q
          subst q1 q2
          obtain ⟨u9, rfl⟩ := rv'.inv
          exact hQ _ _ _ _ _ S'' (x.trans y S''.C.nodup) h2
      | cons op' ops => cases es with
        | nil => exact st h hr
        | cons e' es =>
          refine chain_link (hE hΦ (show (EV cx ρ e μ fun v μ => optS (cmpV op left v μ) fun b => ifS b (evChain EV cx ρ v (op' :: ops) (e' :: es) μ k) (k false μ)) = r from h) hr S hn (fun v d s' led' ce' μ' S' x rv hk => ?_) hX)
          refine byC fun hg => ?_
          refine eEA (optS_is hk hr) fun b hb h2 => ?_
          refine hg ?_
          clear hg
          refine cmp_sound hb S' H.hu (rl.ext x) rv fun v' d' s'' l c μ'' S'' y rv' q => ?_
          obtain ⟨q1, q2⟩ := q
          subst q1 q2
          obtain ⟨u9, rfl⟩ := rv'.inv
          refine wpAny_truthy_bool ?_
          cases b with
          | true => exact ih (ifS_t h2) hr S'' ((hn.after x S').after y S'') (rv.ext y) (fun b s3 l3 c3 μ3 S3 z hk3 => hQ _ _ _ _ _ S3 ((x.trans y S''.C.nodup).trans z S3.C.nodup) hk3) ((hX.after H.xnd x).after H.xnd y)
          | false => exact hQ _ _ _ _ _ S'' (x.trans y S''.C.nodup) h2
theorem test_sound {cx ρ nenv pos} (hΦ : cx.Φ = Φ) {ops} : ∀ {rs μ k r led ce s Q E left vl}, evChain EV cx ρ left ops rs μ k = r → r ≠ .stuck → Now G K h₀ L m ow s₀ led ce μ s → HN A G K h₀ L m ow s₀ nenv cx ρ led ce →
    VR G (In K ow ce led) ce vl left →
    (∀ b s' led' ce' μ', Now G K h₀ L m ow s₀ led' ce' μ' s' → Ext led ce led' ce' → k b μ' = r → Q b s') → XThen XN ow led ce (fun n μ' => r = .exc n μ') E →
    wpAny (model G.prog G.w) A (testChain pos vl ops (evalEach rs nenv)) Q E s := by
  induction ops with
  | nil => intro rs μ k r led ce s Q E left vl h hr; exact st h hr
  | cons op ops ih =>
    intro rs μ k r led ce s Q E left vl h hr S hn rl hQ hX
    cases rs with
    | nil => exact st h hr
    | cons e es => cases ops with
      | nil => cases es with
        | cons _ _ => exact st h hr
        | nil =>
          refine test_last (hE hΦ (show (EV cx ρ e μ fun v μ => optS (cmpV op left v μ) fun b => k b μ) = r from h) hr S hn (fun v d s' led' ce' μ' S' x rv hk => ?_) hX)
          refine byC fun hg => ?_
          refine eEA (optS_is hk hr) fun b hb h2 => ?_
          refine hg ?_
          clear hg
          refine cmp_sound hb S' H.hu (rl.ext x) rv fun v' d' s'' l c μ'' S'' y rv' q => ?_
          obtain ⟨q1, q2⟩ := q
          subst q1 q2
          obtain ⟨u9, rfl⟩ := rv'.inv
          exact wpAny_truthy_bool (hQ _ _ _ _ _ S'' (x.trans y S''.C.nodup) h2)
      | cons op' ops => cases es with
        | nil => exact st h hr
        | cons e' es =>
          refine test_link (hE hΦ (show (EV cx ρ e μ fun v μ => optS (cmpV op left v μ) fun b => ifS b (evChain EV cx ρ v (op' :: ops) (e' :: es) μ k) (k false μ)) = r from h) hr S hn (fun v d s' led' ce' μ' S' x rv hk => ?_) hX)
          refine byC fun hg => ?_
          refine eEA (optS_is hk hr) fun b hb h2 => ?_
          refine hg ?_
          clear hg
          refine cmp_sound hb S' H.hu (rl.ext x) rv fun v' d' s'' l c μ'' S'' y rv' q => ?_
          obtain ⟨q1, q2⟩ := q
          subst q1 q2
          obtain ⟨u9, rfl⟩ := rv'.inv
          refine wpAny_truthy_bool ?_
          cases b with
          | true => exact ih (ifS_t h2) hr S'' ((hn.after x S').after y S'') (rv.ext y) (fun b s3 l3 c3 μ3 S3 z hk3 => hQ _ _ _ _ _ S3 ((x.trans y S''.C.nodup).trans z S3.C.nodup) hk3) ((hX.after H.xnd x).after H.xnd y)
          | false => exact hQ _ _ _ _ _ S'' (x.trans y S''.C.nodup) h2
theorem bool_sound {cx ρ nenv pos op} (hΦ : cx.Φ = Φ) {es} : ∀ {μ k r led ce s Q E}, evBool EV cx ρ op es μ k = r → r ≠ .stuck → Now G K h₀ L m ow s₀ led ce μ s → HN A G K h₀ L m ow s₀ nenv cx ρ led ce →
    Then G K h₀ L m ow s₀ led ce (fun d μ' => k d μ' = r) Q → XThen XN ow led ce (fun n μ' => r = .exc n μ') E →
    wpAny (model G.prog G.w) A (eval (.BoolOp op es pos) nenv) Q E s := by
  induction es with
  | nil => intro μ k r led ce s Q E h hr; exact st h hr
  | cons e es ih =>
    intro μ k r led ce s Q E h hr S hn hQ hX
    cases es with
    | nil => exact BoolOp_one (hE hΦ (show EV cx ρ e μ k = r from h) hr S hn hQ hX)
    | cons e' es => cases op with
      | And =>
        refine BoolOp_and (hE hΦ (show (EV cx ρ e μ fun v μ => withBool v fun b => ifS b (evBool EV cx ρ .And (e' :: es) μ k) (k (.bool false) μ)) = r from h) hr S hn (fun v d s' led' ce' μ' S' x rv hk => ?_) hX)
        refine byC fun hg => ?_
        refine eEA (withBool_is hk hr) fun b ee1 h2 => ?_
        subst ee1
        obtain ⟨u9, rfl⟩ := rv.inv
        refine hg ?_
        clear hg
        refine wpAny_truthy_bool ?_
        cases b with
        | true => exact ih h2 hr S' (hn.after x S') (hQ.after x) (hX.after H.xnd x)
        | false => exact (hQ.after x).bool S' h2
      | Or =>
        refine BoolOp_or (hE hΦ (show (EV cx ρ e μ fun v μ => withBool v fun b => ifS b (k (.bool true) μ) (evBool EV cx ρ .Or (e' :: es) μ k)) = r from h) hr S hn (fun v d s' led' ce' μ' S' x rv hk => ?_) hX)
        refine byC fun hg => ?_
        refine eEA (withBool_is hk hr) fun b ee1 h2 => ?_
        subst ee1
        obtain ⟨u9, rfl⟩ := rv.inv
        refine hg ?_
        clear hg
        refine wpAny_truthy_bool ?_
        cases b with
        | false => exact ih h2 hr S' (hn.after x S') (hQ.after x) (hX.after H.xnd x)
        | true => exact (hQ.after x).bool S' h2
omit hE in
theorem all_sound (hC : SndC G K h₀ L m s₀ A XN Φ CV) {cx ρ nenv pos op whole} (hΦ : cx.Φ = Φ) : ∀ {es μ k r led ce s Q E}, evAll CV cx ρ op es μ k = r → r ≠ .stuck → Now G K h₀ L m ow s₀ led ce μ s → HN A G K h₀ L m ow s₀ nenv cx ρ led ce →
    (∀ b s' led' ce' μ', Now G K h₀ L m ow s₀ led' ce' μ' s' → Ext led ce led' ce' → k b μ' = r → Q b s') → XThen XN ow led ce (fun n μ' => r = .exc n μ') E →
    wpAny (model G.prog G.w) A (isTrue (.BoolOp op es pos) nenv whole) Q E s
  | [], μ, k, r, led, ce, s, Q, E, h, hr, S, hn, hQ, hX => by
    unfold evAll at h
    cases op with
    | And => exact isTrue_and_nil (hQ _ _ _ _ _ S .refl h)
    | Or => exact isTrue_or_nil (hQ _ _ _ _ _ S .refl h)
  | e :: es, μ, k, r, led, ce, s, Q, E, h, hr, S, hn, hQ, hX => by
    unfold evAll at h
    cases op with
    | And =>
      refine isTrue_and (hC hΦ h hr S hn (fun b s' led' ce' μ' S' x hk => ?_) hX)
      cases b with
      | true => exact all_sound hC hΦ hk hr S' (hn.after x S') (fun b s3 l3 c3 μ3 S3 z hk3 => hQ _ _ _ _ _ S3 (x.trans z S3.C.nodup) hk3) (hX.after H.xnd x)
      | false => exact hQ _ _ _ _ _ S' x hk
    | Or =>
      refine isTrue_or (hC hΦ h hr S hn (fun b s' led' ce' μ' S' x hk => ?_) hX)
      cases b with
      | false => exact all_sound hC hΦ hk hr S' (hn.after x S') (fun b s3 l3 c3 μ3 S3 z hk3 => hQ _ _ _ _ _ S3 (x.trans z S3.C.nodup) hk3) (hX.after H.xnd x)
      | true => exact hQ _ _ _ _ _ S' x hk
end
end Mine

end

section
namespace Mine
open PySem PySem.W PySem.Calls PyProof.Rows
section
variable {A : Around} {XN : XNT} {Φ : Nat → List V → Mu → Res} {Q : Value → Shared → Prop}
variable {G : Gx} {K : Frag} {h₀ h' : Heap} {L d : Addr} {m : Str → Option Value} {ow : List Addr} {s₀ s : Shared} {led led0 : List (Addr × Obj)} {ce ce0 : List Addr} {μ : Mu} {o o' : Obj}
noncomputable def upd (led : List (Addr × Obj)) (d : Addr) (o' : Obj) : List (Addr × Obj) := led.map fun p => if p.1 = d then (d, o') else p
theorem upd_ne {p : Addr × Obj} (h : p ∈ led) (n : p.1 ≠ d) : p ∈ upd led d o' := List.mem_map.mpr ⟨p, h, by rw [if_neg n]⟩
theorem upd_self (h : (d, o) ∈ led) : (d, o') ∈ upd led d o' := List.mem_map.mpr ⟨_, h, by rw [if_pos rfl]⟩
theorem upd_mem {p : Addr × Obj} (h : p ∈ upd led d o') : p = (d, o') ∨ (p ∈ led ∧ p.1 ≠ d) := by
  refine byC fun hg => ?_
  refine eEA (List.mem_map.mp h) fun q hq e => ?_
  refine hg ?_
  clear hg
  by_cases hd : q.1 = d
  · rw [if_pos hd] at e; exact .inl e.symm
  · rw [if_neg hd] at e; subst e; exact .inr ⟨hq, hd⟩
theorem news_updAt (N : News h₀ L s.heap led) (hm : (d, o) ∈ led) (hs : Heap.SameBut d s.heap h') (hd : h'.get? d = some o') : News h₀ L h' (upd led d o') := fun p hp => by
  have D := N _ hm
  rcases upd_mem hp with rfl | ⟨hp, n⟩
  · exact ⟨hd, D.2⟩
  · exact ⟨(hs.2 _ n).trans (N p hp).1, (N p hp).2⟩
theorem fr_updAt (F : Fr h₀ L s.heap m) (N : News h₀ L s.heap led) (hm : (d, o) ∈ led) (hs : Heap.SameBut d s.heap h') : Fr h₀ L h' m := by
  have D := N _ hm
  exact F.change hs D.2.1 D.2.2
theorem In.upd {a : Addr} {x : Obj} (h : In K ow ce led a x) (hd : d ∈ ow) : In K ow ce (Mine.upd led d o') a x := by
  rcases h with ⟨h1, h2, h3⟩ | h
  · exact .inl ⟨upd_ne h1 (fun e => h2 (by rw [show a = d from e]; exact hd)), h2, h3⟩
  · exact .inr h
theorem Now.setAt (S : Now G K h₀ L m ow s₀ led ce μ s) (hd : d ∈ ow) (hm : (d, o) ∈ led) (hs : Heap.SameBut d s.heap h') (hg : h'.get? d = some o') (tk : Nat) :
    Now G K h₀ L m ow s₀ (upd led d o') ce μ { s with heap := h', toks := tk } := by
  refine ⟨fr_updAt S.F S.N hm hs, news_updAt S.N hm hs hg, S.X, S.big, ⟨S.C.len, S.C.nodup, S.C.off, fun i l e => ?_⟩, fun a ha => ?_, let ⟨_, _, e⟩ := S.sm; ⟨h', tk, by rw [e]⟩⟩
  · refine eEEEAA (S.C.at_ i l e) fun a vs n x y z => ?_
    refine iEEEAA a vs n x (upd_ne y (fun e => S.C.off a (List.mem_of_getElem? x) (by rw [show a = d from e]; exact hd))) (z.mono (fun u9 u9 q => q.upd hd) fun u9 u9 q => q)
  · obtain ⟨x, hx⟩ := S.O a ha
    by_cases e : a = d
    · subst e; exact ⟨o', upd_self hx⟩
    · exact ⟨x, upd_ne hx e⟩
theorem Ext.upd (x : Ext led0 ce0 led ce) (hf : ∀ p ∈ led0, p.1 ≠ d) : Ext led0 ce0 (Mine.upd led d o') ce :=
  ⟨x.cells, fun p hp hc => upd_ne (x.keep p hp hc) (hf p hp)⟩
theorem Now.open_ (S : Now G K h₀ L m ow s₀ led ce μ s) (F : Fr h₀ L h' m) (N : News h₀ L h' ((d, o) :: led)) (hf : ∀ p ∈ led, p.1 ≠ d) (tk : Nat) :
    Now G K h₀ L m (d :: ow) s₀ ((d, o) :: led) ce μ { s with heap := h', toks := tk } := by
  have hc : d ∉ ce := fun h => let ⟨_, y⟩ := S.C.mem h; hf _ y rfl
  refine ⟨F, N, S.X, S.big, ⟨S.C.len, S.C.nodup, fun a ha hh => ?_, fun i l e => ?_⟩, fun a ha => ?_, let ⟨_, _, e⟩ := S.sm; ⟨h', tk, by rw [e]⟩⟩
  · rcases List.mem_cons.mp hh with rfl | hh
    · exact hc ha
    · exact S.C.off a ha hh
  · refine eEEEAA (S.C.at_ i l e) fun a vs n x y z => ?_
    refine iEEEAA a vs n x (.tail _ y) (z.mono (fun b ob q => ?_) fun u9 u9 q => q)
    rcases q with ⟨q1, q2, q3⟩ | q
    · exact .inl ⟨.tail _ q1, fun hh => (List.mem_cons.mp hh).elim (fun e => hf _ q1 e) q2, q3⟩
    · exact .inr q
  · rcases List.mem_cons.mp ha with rfl | ha
    · exact ⟨o, .head _⟩
    · obtain ⟨x, hx⟩ := S.O a ha; exact ⟨x, .tail _ hx⟩
theorem In.open_ {a : Addr} {x : Obj} (h : In K ow ce led a x) (hf : ∀ p ∈ led, p.1 ≠ d) : In K (d :: ow) ce ((d, o) :: led) a x := by
  rcases h with ⟨h1, h2, h3⟩ | h
  · exact .inl ⟨.tail _ h1, fun hh => (List.mem_cons.mp hh).elim (fun e => hf _ h1 e) h2, h3⟩
  · exact .inr h
theorem In.close {a : Addr} {x : Obj} (h : In K (d :: ow) ce led a x) : In K ow ce led a x := by
  rcases h with ⟨h1, h2, h3⟩ | h
  · exact .inl ⟨h1, fun q => h2 (.tail _ q), h3⟩
  · exact .inr h
theorem Now.close (S : Now G K h₀ L m (d :: ow) s₀ led ce μ s) : Now G K h₀ L m ow s₀ led ce μ s :=
  ⟨S.F, S.N, S.X, S.big, ⟨S.C.len, S.C.nodup, fun a ha hh => S.C.off a ha (.tail _ hh), fun i l e => let ⟨a, vs, n, x, y, z⟩ := S.C.at_ i l e; ⟨a, vs, n, x, y, z.mono (fun u9 u9 q => q.close) fun u9 u9 q => q⟩⟩,
    fun a ha => S.O a (.tail _ ha), S.sm⟩
theorem HN.open_ {nenv cx ρ} (H : HN A G K h₀ L m ow s₀ nenv cx ρ led ce) (hf : ∀ p ∈ led, p.1 ≠ d) : HN A G K h₀ L m (d :: ow) s₀ nenv cx ρ ((d, o) :: led) ce :=
  ⟨fun e => let ⟨v, r, k⟩ := H.get e; ⟨v, r.mono (fun u9 u9 q => q.open_ hf) (fun u9 u9 q => q), fun S' x' u9 u9 q => k S' ((Ext.push _).trans x' S'.C.nodup) q⟩, fun e => let ⟨cl, h1, h2⟩ := H.comp e; ⟨cl, h1, fun hi hx hnd hm hc hn hv hr => h2 (fun a o q => hi a o (q.open_ hf)) ((Ext.push _).trans hx hnd) hnd hm hc hn hv hr⟩⟩

variable (H : Hyp G K h₀ L m s₀ A XN Φ) {EV : EF} {CV : CF} (hE : SndE G K h₀ L m s₀ A XN Φ EV)
include H hE
omit H hE in
theorem keyStr_is {o : Option PySem.Expr} {x : Str} (h : keyStr o = some x) : ∃ k p, o = some (.Constant (.str x) k p) := by
  cases o with
  | none => exact no_of h
  | some e => cases e with
    | Constant c k p => cases c with
      | str y => exact Option.some.inj h ▸ ⟨k, p, rfl⟩
      | _ => exact no_of h
    | _ => exact no_of h
theorem pairs_sound {cx ρ nenv pos} (hΦ : cx.Φ = Φ) {ks : List (Option PySem.Expr)} : ∀ {es μ k r led ce s} {Q : List (Value × Value) → Shared → Prop} {E : Value → Shared → Prop} {ow : List Addr}, evPairs EV cx ρ ks es μ k = r → r ≠ .stuck → Now G K h₀ L m ow s₀ led ce μ s → HN A G K h₀ L m ow s₀ nenv cx ρ led ce →
    (∀ (ps : List (Value × Value)) xs vs ds s' led' ce' μ', Now G K h₀ L m ow s₀ led' ce' μ' s' → Ext led ce led' ce' → allStrKeys ps = true → strPairs ps = xs.zip vs → xs.length = vs.length → VRs G (In K ow ce' led') ce' vs ds → k xs ds μ' = r → Q ps s') → XThen XN ow led ce (fun n μ' => r = .exc n μ') E →
    wpAny (model G.prog G.w) A (evalPairs (pairTrees ks es nenv pos)) Q E s := by
  induction ks with
  | nil =>
    intro es μ k r led ce s Q E ow h hr S hn hQ hX
    cases es with
    | nil => exact evalPairs_nil (hQ [] [] [] [] _ _ _ _ S .refl rfl rfl rfl .nil h)
    | cons _ _ => exact Mine.st h hr
  | cons o ks ih =>
    intro es μ k r led ce s Q E ow h hr S hn hQ hX
    cases es with
    | nil => exact Mine.st h hr
    | cons e es =>
      refine byC fun hg => ?_
      refine eEA (optS_is (show (optS (keyStr o) fun x => EV cx ρ e μ fun d μ => evPairs EV cx ρ ks es μ fun xs ds μ => k (x :: xs) (d :: ds) μ) = r from h) hr) fun x hx h1 => ?_
      clear h
      refine eEE (keyStr_is hx) fun kk pp ee2 => ?_
      subst ee2
      refine hg ?_
      clear hg
      show wpAny (model G.prog G.w) A (evalPairs ((eval (.Constant (.str x) kk pp) nenv, do let x ← eval e nenv; standAt pos; pure x) :: pairTrees ks es nenv pos)) Q E s
      refine evalPairs_cons (Constant_str ?_)
      refine wpAny_bind (hE hΦ h1 hr (S.toks _) hn (fun v d s' led' ce' μ' S' y rv hk => ?_) hX)
      refine wpAny_bind (wpAny_standAt (wpAny_pure ?_))
      refine ih hk hr S' (hn.after y S') (fun ps xs vs ds s'' l c μ'' S'' z a1 a2 a3 a4 a5 => ?_) (hX.after H.xnd y)
      exact hQ _ (x :: xs) (v :: vs) (d :: ds) _ _ _ _ S'' (y.trans z S''.C.nodup) a1 (congrArg ((x, v) :: ·) a2) (congrArg (· + 1) a3) (.cons (rv.ext z) a4) a5
omit H hE in
theorem inKs_mem {x : Str} {l : List Str} (h : x ∈ l) : inKs x l = true := by
  induction h with
  | head l => show (match seq x x with | true => true | false => inKs x l) = true; rw [seq_self]
  | tail b _ ih => show (match seq x b with | true => true | false => inKs x _) = true; cases seq x b with | true => rfl | false => exact ih
omit H hE in
theorem nodupS_iff {xs : List Str} : nodupS xs = true → xs.Nodup := by
  induction xs with
  | nil => exact fun u9 => .nil
  | cons x r ih =>
    intro h
    replace h : (match inKs x r with | true => false | false => nodupS r) = true := h
    cases q : inKs x r with
    | true => rw [q] at h; exact Bool.noConfusion h
    | false => rw [q] at h; exact List.nodup_cons.mpr ⟨fun hm => Bool.noConfusion (q.symm.trans (inKs_mem hm)), ih h⟩
omit H hE in
theorem dictOk_is {ks : List (Option PySem.Expr)} {es : List PySem.Expr} (hok : dictOk ks es = true) : ks.length = es.length ∧ ks ≠ [] ∧ ks.length ≤ 15 ∧ ks.all (·.isSome) = true := by
  cases ks with
  | nil => exact Bool.noConfusion hok
  | cons k ks =>
    replace hok : (match Nat.ble (k :: ks).length 15, (k :: ks).all (·.isSome) with | true, true => Nat.beq (k :: ks).length es.length | _, _ => false) = true := hok
    cases h1 : Nat.ble (k :: ks).length 15 with
    | false => rw [h1] at hok; exact Bool.noConfusion hok
    | true => cases h2 : (k :: ks).all (·.isSome) with
      | false => rw [h1, h2] at hok; exact Bool.noConfusion hok
      | true => rw [h1, h2] at hok; exact iAAA (Nat.eq_of_beq_eq_true hok) (List.cons_ne_nil _ _) (Nat.le_of_ble_eq_true h1) rfl
theorem dict_sound {cx ρ nenv pos ks es μ r led ce s E} {k : List Str → List V → Mu → Res} (hΦ : cx.Φ = Φ) (hok : dictOk ks es = true)
    (h : (evPairs EV cx ρ ks es μ fun xs ds μ => fitS (nodupS xs) (k xs ds μ)) = r) (hr : r ≠ .stuck) (S : Now G K h₀ L m ow s₀ led ce μ s) (hn : HN A G K h₀ L m ow s₀ nenv cx ρ led ce)
    (hQ : Then G K h₀ L m ow s₀ led ce (fun d μ' => ∃ xs ds, d = .dict xs ds ∧ k xs ds μ' = r) Q) (hX : XThen XN ow led ce (fun n μ' => r = .exc n μ') E) :
    wpAny (model G.prog G.w) A (eval (.Dict ks es pos) nenv) Q E s := by
  have hl := dictOk_is hok
  refine kdn_eval (knd := PySem.strKind G.prog G.w) S.F S.N S.big hl.2.2.2 hl.1 hl.2.1 hl.2.2.1 fun d h' o F N hf lo hd => ?_
  have hf' : ∀ p ∈ led, p.1 ≠ d := fun p hp => Nat.ne_of_lt (hf p hp)
  have S1 := S.open_ (o := o) F N hf' s.toks
  have ow1 : d ∉ ow := fun q => let ⟨_, y⟩ := S.O _ q; hf' _ y rfl
  have ce1 : d ∉ ce := fun q => let ⟨_, y⟩ := S.C.mem q; hf' _ y rfl
  refine pairs_sound H hE hΦ h hr S1 (hn.open_ hf') (fun ps xs vs ds s' led' ce' μ' S' x a1 a2 a3 a4 a5 => ?_) ((XThen.weak (XN := XN) (fun h q => H.xw h q) hX fun a ha => .tail _ ha).after H.xnd (.push _))
  obtain ⟨hnd, a6⟩ := fitS_is a5 hr
  · have hmem : (d, o) ∈ led' := x.keep _ (.head _) ce1
    refine display_done_str a1 (by rw [a2, List.map_fst_zip (by lia)]; exact nodupS_iff hnd) (Heap.dictOf_iff.mpr ⟨o, (S'.N _ hmem).1, hd⟩) fun h2 hm2 hs2 => ?_
    refine byC fun hg => ?_
    refine eEA (Heap.dictOf_iff.mp hm2) fun o2 ho2 hd2 => ?_
    refine hg ?_
    clear hg
    rw [a2] at hd2
    have S2 := (S'.setAt (.head _) hmem hs2 ho2 (s'.toks + ps.length)).close
    have x2 : Ext led ce (upd led' d o2) ce' := ((Ext.push (d, o)).trans x S'.C.nodup).upd hf'
    have i2 : In K ow ce' (upd led' d o2) d o2 := .inl ⟨upd_self hmem, ow1, x.off (p := (d, o)) (.head _) ce1⟩
    exact hQ _ _ _ _ _ _ S2 x2 (.dict i2 hd2 a3 lo (a4.mono (fun u9 u9 q => (q.upd (.head _)).close) fun u9 u9 q => q)) ⟨xs, ds, rfl, a6⟩
end
end Mine

end

section
namespace Mine
open PySem PySem.W PySem.Calls PyProof.Rows
section
variable {A : Around} {XN : XNT} {Φ : Nat → List V → Mu → Res} {Q : Value → Shared → Prop} {E : Value → Shared → Prop}
variable {G : Gx} {K : Frag} {h₀ h' : Heap} {L d : Addr} {m : Str → Option Value} {ow : List Addr} {s₀ s : Shared} {led led0 : List (Addr × Obj)} {ce ce0 : List Addr} {μ : Mu} {o o' : Obj} {nenv : Env}
theorem base_plain {o : PySem.Expr} {n : Str} {whole : Sem Value} (h : plainBase o = true) : attributeBase o n nenv whole = whole := by
  cases o with
  | Call f as ks p =>
    cases as with
    | nil => cases h
    | cons a as => cases f <;> rfl
  | _ => rfl
theorem plainAt_is {o : PySem.Expr} {ap pos : Pos} {as : List PySem.Expr} (h : plainAt o ap pos as = true) : plainBase o = true ∧ ap.endLine = pos.line ∧ as.length < 20 ∧ noStar as = true := by
  refine byC fun hg => ?_
  obtain ⟨h1, h⟩ := Bool.and_eq_true_iff.1 h
  obtain ⟨h2, h⟩ := Bool.and_eq_true_iff.1 h
  obtain ⟨h3, h4⟩ := Bool.and_eq_true_iff.1 h
  refine hg ?_
  clear hg
  exact iAAA h1 (Nat.eq_of_beq_eq_true h2) (Nat.le_of_ble_eq_true h3) h4
theorem backTo_false {pos : Pos} : ∀ {es : List PySem.Expr}, noStar es = true → (backTo pos (starEach es nenv)).all (fun x => !x.1) = true
  | [], _ => rfl
  | e :: es, h => by
    simp only [noStar, List.all_cons, Bool.and_eq_true, Bool.not_eq_true'] at h
    have he : starEach (e :: es) nenv = (false, eval e nenv) :: starEach es nenv := by
      cases e <;> first | rfl | (simp [isStarred] at h)
    rw [he]
    show ((true && (backTo pos (starEach es nenv)).all (fun x => !x.1))) = true
    rw [backTo_false (by simpa [noStar] using h.2)]; rfl
theorem Call_meth {o : PySem.Expr} {n : Str} {ap pos : Pos} {as : List PySem.Expr} (hp : plainAt o ap pos as = true)
    (h : wpAny (model G.prog G.w) A (eval o nenv) (fun ov s₁ => wpAny (model G.prog G.w) A (getMethod ov n (do return (← importBound o nenv).getD true)) (fun fx s₂ =>
      wpAny (model G.prog G.w) A (callWith pos fx.1 fx.2 (backTo pos (starEach as nenv)) (backToKw pos [])) Q E s₂) E s₁) E s) :
    wpAny (model G.prog G.w) A (eval (.Call (.Attribute o n ap) as [] pos) nenv) Q E s := by
  refine byC fun hg => ?_
  refine eAAA (plainAt_is hp) fun h1 h2 h3 h4 => ?_
  refine hg ?_
  clear hg
  rw [PySem.arm_eval_Call, base_plain h1]
  refine wpAny_bind (wpAny_mono h (fun ov s₁ h₁ => wpAny_bind (wpAny_standAt ?_)) fun u9 u9 e => e)
  have hform : methodCallForm (as.length + ([] : List Keyword).length) (backTo pos (starEach as nenv)) (backToKw pos (keywordEach [] nenv)) = true := by
    unfold methodCallForm
    rw [backTo_false h4]
    simp [keywordEach, backToKw]; lia
  have hpos : methodCallPos true o nenv ap pos = pure pos := by unfold methodCallPos; simp [h2]
  unfold methodCall
  rw [hform]
  refine wpAny_bind (wpAny_holding ?_)
  refine wpAny_mono h₁ (fun fx s₂ h₂ => ?_) fun u9 u9 e => e
  exact wpAny_bind (wpAny_of_eq hpos h₂)
theorem Call_plain {f : PySem.Expr} {pos : Pos} {as : List PySem.Expr} (hf : ∀ o n p, f ≠ .Attribute o n p)
    (h : wpAny (model G.prog G.w) A (eval f nenv) (fun fv s₁ => wpAny (model G.prog G.w) A (callWith pos fv [] (backTo pos (starEach as nenv)) (backToKw pos [])) Q E s₁) E s) :
    wpAny (model G.prog G.w) A (eval (.Call f as [] pos) nenv) Q E s := by
  have he : eval (.Call f as [] pos) nenv = (do callWith pos (← eval f nenv) [] (backTo pos (starEach as nenv)) (backToKw pos (keywordEach [] nenv))) := by
    cases f <;> first | rfl | exact absurd rfl (hf _ _ _)
  rw [he]
  exact wpAny_bind h
noncomputable def KeptBy (G : Gx) (K : Frag) (fv : Value) (h : Heap) : Prop := ∃ k, (k = Keeper.frame ∨ k = Keeper.machine ∨ k = Keeper.boundFrame) ∧ Looks (model G.prog G.w) h (keeperOf fv) k
theorem VR.isRef {I ce v c fs} (h : VR G I ce v (.inst c fs)) : ∃ a, v = .ref a := by
  refine byC fun hg => ?_
  obtain ⟨a, u9, u9, u9, u9, e, u9⟩ := h.inv
  refine hg ?_
  clear hg
  exact ⟨a, e⟩
variable (H : Hyp G K h₀ L m s₀ A XN Φ)
include H
theorem kept {fv : Value} {f : V} (S : Now G K h₀ L m ow s₀ led ce μ s) (hv : VR G (In K ow ce led) ce fv f) (ho : callable f = true) : KeptBy G K fv s.heap := by
  cases f with
  | fn i =>
    refine byC fun hg => ?_
    obtain ⟨a, rfl, o, fd, c, oc, vs, t, x, y, u9⟩ := hv.inv
    refine hg ?_
    clear hg
    refine ⟨.frame, .inl rfl, (Looks.ld (part := none) (S.get x)).andThen ?_⟩
    rw [y]; exact .now
  | cls c =>
    refine byC fun hg => ?_
    obtain ⟨u9, rfl⟩ := hv.inv
    refine eEA (looks_keep (M := model G.prog G.w) (H.keepC c) (S.X.keeps S.F.keep)) fun k a b => ?_
    refine hg ?_
    clear hg
    exact ⟨k, a.elim .inl (fun e => .inr (.inl e)), b⟩
  | typ n => obtain ⟨_, rfl⟩ := hv.inv; exact ⟨.machine, .inr (.inl rfl), .now⟩
  | blt n => obtain ⟨_, rfl⟩ := hv.inv; exact ⟨.machine, .inr (.inl rfl), .now⟩
  | _ => exact Bool.noConfusion ho
omit H in
theorem bindR_is {x r : Res} {k : V → Mu → Res} (h : bindR x k = r) (hr : r ≠ .stuck) : (∃ v ν, x = .ret v ν ∧ k v ν = r) ∨ (∃ n ν, x = .exc n ν ∧ .exc n ν = r) := by
  cases x with
  | ret v ν => exact .inl ⟨v, ν, rfl, h⟩
  | exc n ν => exact .inr ⟨n, ν, rfl, h⟩
  | _ => exact st h hr
theorem app_sound {cx fv f vs args k r} (hΦ : cx.Φ = Φ) (h : app cx f args μ k = r) (hr : r ≠ .stuck) (S : Now G K h₀ L m ow s₀ led ce μ s) (hv : VR G (In K ow ce led) ce fv f) (ha : VRs G (In K ow ce led) ce vs args)
    (hQ : Then G K h₀ L m ow s₀ led ce (fun d μ' => k d μ' = r) Q) (hX : XThen XN ow led ce (fun n μ' => r = .exc n μ') E) : wpAny (model G.prog G.w) A (call fv vs) Q E s := by
  cases f with
  | fn i =>
    refine byC fun hg => ?_
    refine eEA (hv.inv) fun a ee1 hf => ?_
    subst ee1
    refine hg ?_
    clear hg
    rcases bindR_is (show bindR (cx.Φ i args μ) k = r from h) hr with ⟨v', μ', e, h1⟩ | ⟨n, μ', e, h1⟩
    · exact H.calls hf ha S (hΦ ▸ e) rfl (hQ.to fun d μ q => (Res.ret.inj q).1 ▸ (Res.ret.inj q).2 ▸ h1) (fun e n s' l c μ3 u9 u9 q => Res.noConfusion q)
    · exact H.calls hf ha S (hΦ ▸ e) rfl (fun u9 u9 u9 u9 u9 u9 u9 u9 u9 q => Res.noConfusion q) (fun e n s' l c μ3 x y q => hX _ _ _ _ _ _ x y (h1.symm.trans q))
  | cls c => obtain ⟨_, rfl⟩ := hv.inv; exact H.class_ ha S h hr hQ
  | blt n => obtain ⟨_, rfl⟩ := hv.inv; exact blt_sound h hr S H.hu H.hg (fun r1 r2 e q => H.isi S r1 r2 e q) ha hQ
  | typ n => obtain ⟨_, rfl⟩ := hv.inv; exact typ_sound h hr S H.hu ha hQ
  | _ => exact st h hr
variable {EV : EF} {CV : CF} (hE : SndE G K h₀ L m s₀ A XN Φ EV)
include hE
omit H hE in
theorem fitM {b : Bool} {mk mk' : MK} (h : (match b with | true => some mk | false => none) = some mk') : b = true ∧ mk = mk' := by
  cases b with
  | true => exact ⟨rfl, Option.some.inj h⟩
  | false => exact no_of h
inductive MethK : V → Str → MK → Prop where
  | inst {c : Nat} {fs : List V} {n : Str} {i : Nat} (h : methFn c n = some i) : MethK (.inst c fs) n (.fn i)
  | dict (ks : List Str) (ds : List V) : MethK (.dict ks ds) (Str.ofString "get") .dictGet
  | str (x : Str) : MethK (.str x) (Str.ofString "index") .strIndex
omit H hE in
theorem methK' {o : V} {n : Str} {mk : MK} (h : methK o n = some mk) : MethK o n mk := by
  cases o with
  | inst c fs =>
    refine byC fun hg => ?_
    refine eEA (Option.map_eq_some_iff.mp (show (methFn c n).map MK.fn = some mk from h)) fun i hi ee2 => ?_
    subst ee2
    refine hg ?_
    clear hg
    exact .inst hi
  | dict ks ds =>
    obtain ⟨h1, rfl⟩ := fitM (b := seq n (Str.ofString "get")) h
    exact seq_iff.mp h1 ▸ .dict ks ds
  | str x =>
    obtain ⟨h1, rfl⟩ := fitM (b := seq n (Str.ofString "index")) h
    exact seq_iff.mp h1 ▸ .str x
  | _ => exact no_of h
theorem meth_sound {cx ρ pos ov o n mk as k r} (hΦ : cx.Φ = Φ) (hm : methK o n = some mk) (hs : noStar as = true) (h : (evList EV cx ρ as μ fun vs μ => methV cx o mk vs μ k) = r) (hr : r ≠ .stuck)
    (S : Now G K h₀ L m ow s₀ led ce μ s) (hn : HN A G K h₀ L m ow s₀ nenv cx ρ led ce) (ho : VR G (In K ow ce led) ce ov o)
    (hQ : Then G K h₀ L m ow s₀ led ce (fun d μ' => k d μ' = r) Q) (hX : XThen XN ow led ce (fun n μ' => r = .exc n μ') E) {pl : Sem Bool} :
    wpAny (model G.prog G.w) A (getMethod ov n pl) (fun fx s₂ => wpAny (model G.prog G.w) A (callWith pos fx.1 fx.2 (backTo pos (starEach as nenv)) (backToKw pos [])) Q E s₂) E s := by
  cases methK' hm with
  | @inst c fs n i hi =>
    obtain ⟨a, rfl⟩ := VR.isRef ho
    refine H.meth ho S hi fun f hf => ?_
    have hk := kept H (fv := .ref f) (f := .fn i) S (.fn hf) rfl
    refine callWith_plain (P := KeptBy G K (.ref f)) hs (fun u9 x => x) ?_
    refine evList_sound H hE hΦ h hr S hn (fun vs ds s' led' ce' μ' S' x rs hk' => ⟨kept H S' (.fn (hf.mono fun u9 u9 => x.inn)) rfl, ?_⟩) hX
    exact app_sound (f := .fn i) (args := _ :: ds) (cx := cx) H hΦ hk' hr S' (.fn (hf.mono fun u9 u9 => x.inn)) (.cons (ho.ext x) rs) (hQ.after x) (hX.after H.xnd x)
  | dict ks ds0 =>
    have ho' := ho
    refine byC fun hg => ?_
    refine eEEEA (ho'.inv) fun a o vs ee3 zz => ?_
    subst ee3
    refine hg ?_
    clear hg
    refine get_method S ho ?_
    refine callWith_plain (P := fun u9 => True) hs (fun u9 u9 => ⟨.machine, .inr (.inl rfl), .now⟩) ?_
    exact evList_sound H hE hΦ h hr S hn (fun vs ds s' led' ce' μ' S' x rs hk' => ⟨trivial, get_sound (o := .dict ks ds0) (args := ds) (k := k) (r := r) hk' hr S' H.hu (ho.ext x) rs (hQ.after x)⟩) hX
  | str x0 =>
    obtain ⟨t, rfl⟩ := ho.inv
    refine index_method ?_
    refine callWith_plain (P := fun u9 => True) hs (fun u9 u9 => ⟨.machine, .inr (.inl rfl), .now⟩) ?_
    exact evList_sound H hE hΦ h hr S hn (fun vs ds s' led' ce' μ' S' x rs hk' => ⟨trivial, index_sound (o := .str x0) (args := ds) (k := k) (r := r) hk' hr S' H.hu .str rs (hQ.after x)⟩) hX
theorem opt_sound {cx ρ} (hΦ : cx.Φ = Φ) {oe : Option PySem.Expr} {k : Option Int → Mu → Res} {r} (h : evOpt EV cx ρ oe μ k = r) (hr : r ≠ .stuck) (S : Now G K h₀ L m ow s₀ led ce μ s) (hn : HN A G K h₀ L m ow s₀ nenv cx ρ led ce)
    (hQ : ∀ v i s' led' ce' μ', Now G K h₀ L m ow s₀ led' ce' μ' s' → Ext led ce led' ce' → PartIs v i → k i μ' = r → Q v s') (hX : XThen XN ow led ce (fun n μ' => r = .exc n μ') E) :
    wpAny (model G.prog G.w) A (evalPart oe nenv) Q E s := by
  cases oe with
  | none => rw [evalPart_none]; exact wpAny_pure (hQ _ none _ _ _ _ S .refl rfl h)
  | some e =>
    rw [evalPart_some]
    refine hE hΦ h hr S hn (fun v d s' led' ce' μ' S' x rv hk => ?_) hX
    refine byC fun hg => ?_
    refine eEA (withInt_is hk hr) fun i ee1 h2 => ?_
    subst ee1
    obtain ⟨t, rfl⟩ := rv.inv
    refine hg ?_
    clear hg
    exact hQ _ (some _) _ _ _ _ S' x ⟨_, rfl⟩ h2
end
end Mine

end

section
namespace Mine
open PySem PySem.W PySem.Calls PyProof.Rows
section
variable {A : Around} {XN : XNT} {Φ : Nat → List V → Mu → Res} {Q : Value → Shared → Prop} {E : Value → Shared → Prop}
variable {G : Gx} {K : Frag} {h₀ h' : Heap} {L d : Addr} {m : Str → Option Value} {ow : List Addr} {s₀ s : Shared} {led led0 : List (Addr × Obj)} {ce ce0 : List Addr} {μ : Mu} {o o' : Obj} {nenv : Env}
noncomputable def SndComp (G : Gx) (K : Frag) (h₀ : Heap) (L : Addr) (m : Str → Option Value) (s₀ : Shared) (A : Around) (XN : XNT) (Φ : Nat → List V → Mu → Res) (EV : EF) : Prop :=
  ∀ {ow cx ρ elt gens sc pos μ k r nenv led ce s Q E}, cx.Φ = Φ → stepE EV (fun u9 u9 u9 u9 u9 => .stuck) cx ρ (.ListComp elt gens sc pos) μ k = r → r ≠ .stuck → Now G K h₀ L m ow s₀ led ce μ s → HN A G K h₀ L m ow s₀ nenv cx ρ led ce →
    Then G K h₀ L m ow s₀ led ce (fun d μ' => k d μ' = r) Q → XThen XN ow led ce (fun n μ' => r = .exc n μ') E → wpAny (model G.prog G.w) A (eval (.ListComp elt gens sc pos) nenv) Q E s
theorem line_fit {α β : Type} {l : List α} {vs : List β} (h : fitL l = true) (e : vs.length = l.length) : vs.length ≤ sizeLine := by
  have := Nat.le_of_ble_eq_true h; have := sizeLine_big; lia
theorem In.cell {a : Addr} {x : Obj} (h : In K ow ce led a x) (hf : ∀ p ∈ led, p.1 ≠ d) : In K ow (ce ++ [d]) ((d, o) :: led) a x := by
  rcases h with ⟨h1, h2, h3⟩ | h
  · exact .inl ⟨.tail _ h1, h2, fun q => (List.mem_append.mp q).elim h3 fun q => hf _ h1 (List.mem_singleton.mp q)⟩
  · exact .inr h
theorem Now.cell (S : Now G K h₀ L m ow s₀ led ce μ s) {vs : List Value} {ds : List V} (F : Fr h₀ L h' m) (N : News h₀ L h' ((s.heap.objs.size, lstObj vs 0) :: led)) (rs : VRs G (In K ow ce led) ce vs ds)
    (hq : Now G K h₀ L m ow s₀ ((s.heap.objs.size, lstObj vs 0) :: led) (ce ++ [s.heap.objs.size]) (μ ++ [ds]) { s with heap := h' } → Ext led ce ((s.heap.objs.size, lstObj vs 0) :: led) (ce ++ [s.heap.objs.size]) →
      VR G (In K ow (ce ++ [s.heap.objs.size]) ((s.heap.objs.size, lstObj vs 0) :: led)) (ce ++ [s.heap.objs.size]) (.ref s.heap.objs.size) (.cell μ.length) → Q (.ref s.heap.objs.size) { s with heap := h' }) : Q (.ref s.heap.objs.size) { s with heap := h' } := by
  have hf : ∀ p ∈ led, p.1 ≠ s.heap.objs.size := fun p hp => Nat.ne_of_lt (S.fresh p hp)
  have gx : ∀ (i : Nat) a, ce[i]? = some a → (ce ++ [s.heap.objs.size])[i]? = some a := fun i a e => by
    rw [List.getElem?_append_left (List.getElem?_eq_some_iff.mp e).1]; exact e
  refine hq ⟨F, N, S.X, S.big, ⟨by simp [S.C.len], ?_, ?_, ?_⟩, fun a ha => let ⟨x, hx⟩ := S.O a ha; ⟨x, .tail _ hx⟩, let ⟨_, tk, e⟩ := S.sm; ⟨h', tk, by rw [e]⟩⟩ ⟨⟨_, rfl, fun a ha p hp => by rw [List.mem_singleton.mp ha]; exact hf p hp⟩, fun p hp u9 => .tail _ hp⟩ (.cell ?_)
  · rw [List.nodup_append]
    exact iAA S.C.nodup (by simp) (fun a ha b hb e => S.newOff.2 (by rw [List.mem_singleton.mp hb] at e; exact e ▸ ha))
  · intro a ha hh
    rcases List.mem_append.mp ha with ha | ha
    · exact S.C.off a ha hh
    · rw [List.mem_singleton.mp ha] at hh; exact S.newOff.1 hh
  · intro i l e
    by_cases hi : i < μ.length
    · rw [List.getElem?_append_left hi] at e
      refine eEEEAA (S.C.at_ i l e) fun a us n x y z => ?_
      exact iEEEAA a us n (gx i a x) (.tail _ y) (z.mono (fun u9 u9 q => q.cell hf) gx)
    · have hi' : i = μ.length := by
        have := (List.getElem?_eq_some_iff.mp e).1
        simp at this; lia
      subst hi'
      simp at e; subst e
      exact iEEEAA _ vs 0 (by rw [← S.C.len]; simp) (.head _) (rs.mono (fun u9 u9 q => q.cell hf) gx)
  · rw [← S.C.len]; simp
variable (H : Hyp G K h₀ L m s₀ A XN Φ) {EV : EF} {CV : CF} (hE : SndE G K h₀ L m s₀ A XN Φ EV) (hC : SndC G K h₀ L m s₀ A XN Φ CV) (hL : SndComp G K h₀ L m s₀ A XN Φ EV)
include H hE hC hL
omit hC hL in
theorem call_sound {f : PySem.Expr} {as : List PySem.Expr} {pos : Pos} {cx : Cx} {ρ : Rho} {μ : Mu} {k : V → Mu → Res} {r : Res} (hΦ : cx.Φ = Φ) (h : eCall EV cx ρ f as pos μ k = r) (hr : r ≠ .stuck) (S : Now G K h₀ L m ow s₀ led ce μ s) (hn : HN A G K h₀ L m ow s₀ nenv cx ρ led ce)
    (hQ : Then G K h₀ L m ow s₀ led ce (fun d μ' => k d μ' = r) Q) (hX : XThen XN ow led ce (fun n μ' => r = .exc n μ') E) : wpAny (model G.prog G.w) A (eval (.Call f as [] pos) nenv) Q E s := by
  have h : (match attrOf f with
    | some q => fitS (plainAt q.1 q.2.2 pos as) (EV cx ρ q.1 μ fun ov μ => optS (methK ov q.2.1) fun mk => evList EV cx ρ as μ fun vs μ => methV cx ov mk vs μ k)
    | none => fitS (noStar as) (EV cx ρ f μ fun fv μ => fitS (callable fv) (evList EV cx ρ as μ fun vs μ => app cx fv vs μ k))) = r := h
  cases ha : attrOf f with
  | some q =>
    rw [ha] at h
    obtain ⟨hp, h1⟩ := fitS_is h hr
    rw [attrOf_is ha]
    refine Call_meth hp (hE hΦ h1 hr S hn (fun vo o s1 l1 c1 μ1 S1 x1 ro h1 => ?_) hX)
    refine eEA (optS_is h1 hr) fun mk hmk h2 => ?_
    exact meth_sound H hE hΦ hmk (plainAt_is hp).2.2.2 h2 hr S1 (hn.after x1 S1) ro (hQ.after x1) (hX.after H.xnd x1)
  | none =>
    rw [ha] at h
    obtain ⟨hs, h1⟩ := fitS_is h hr
    refine Call_plain (fun o n p e => no_of (ha.symm.trans (congrArg attrOf e) : none = some (o, n, p))) (hE hΦ h1 hr S hn (fun fv f s1 l1 c1 μ1 S1 x1 rf h1 => ?_) hX)
    obtain ⟨hcl, h2⟩ := fitS_is h1 hr
    refine callWith_plain (P := KeptBy G K fv) hs (fun u9 x => x) ?_
    refine evList_sound H hE hΦ h2 hr S1 (hn.after x1 S1) (fun vs ds s2 l2 c2 μ2 S2 x2 rs h2 => ⟨kept H S2 (rf.ext x2) hcl, ?_⟩) (hX.after H.xnd x1)
    exact app_sound H hΦ h2 hr S2 (rf.ext x2) rs ((hQ.after x1).after x2) ((hX.after H.xnd x1).after H.xnd x2)
omit hC hL in
theorem sub_sound {o sl : PySem.Expr} {vo : Value} {ov : V} {cx : Cx} {ρ : Rho} {μ : Mu} {k : V → Mu → Res} {r : Res} (hΦ : cx.Φ = Φ) (h : eSub EV cx ρ ov sl μ k = r) (hr : r ≠ .stuck) (S : Now G K h₀ L m ow s₀ led ce μ s) (hn : HN A G K h₀ L m ow s₀ nenv cx ρ led ce)
    (ro : VR G (In K ow ce led) ce vo ov) (hQ : Then G K h₀ L m ow s₀ led ce (fun d μ' => k d μ' = r) Q) (hX : XThen XN ow led ce (fun n μ' => r = .exc n μ') E) :
    wpAny (model G.prog G.w) A (eval sl nenv) (fun vi s' => wpAny (model G.prog G.w) A (subscriptTail o sl vo vi) Q E s') E s := by
  have h : (match sliceOf sl with
    | some q => evOpt EV cx ρ q.1 μ fun l μ => evOpt EV cx ρ q.2.1 μ fun h μ => optS (cutV ov l h) fun v => k v μ
    | none => EV cx ρ sl μ fun i μ => optS (itemV μ ov i) fun v => k v μ) = r := h
  cases hs : sliceOf sl with
  | some q =>
    rw [hs] at h
    rw [sliceOf_is hs]
    refine wpAny_Slice (opt_sound H hE hΦ h hr S hn (fun vl il s2 l2 c2 μ2 S2 x2 el h2 => ?_) hX)
    refine opt_sound H hE hΦ h2 hr S2 (hn.after x2 S2) (fun vu iu s3 l3 c3 μ3 S3 x3 eu h3 => ?_) (hX.after H.xnd x2)
    refine eEA (optS_is h3 hr) fun d hd h4 => ?_
    rw [evalPart_none]
    exact wpAny_pure (cut_sound hd S3 ((ro.ext x2).ext x3) el eu (((hQ.after x2).after x3).one h4))
  | none =>
    rw [hs] at h
    refine hE hΦ h hr S hn (fun vi i s2 l2 c2 μ2 S2 x2 ri h2 => ?_) hX
    refine eEA (optS_is h2 hr) fun d hd h3 => ?_
    refine item_sound hd S2 (ro.ext x2) ri ?_ ((hQ.after x2).one h3)
    cases sl with
    | Slice a b c q =>
      cases c with
      | none => exact no_of hs.symm
      | some c => rfl
    | _ => rfl
omit H hC hL in
theorem un_sound {op : UnaryOp} {x : PySem.Expr} {p : Pos} {cx : Cx} {ρ : Rho} {μ : Mu} {k : V → Mu → Res} {r : Res} (hΦ : cx.Φ = Φ) (h : eUn EV cx ρ op x μ k = r) (hr : r ≠ .stuck) (S : Now G K h₀ L m ow s₀ led ce μ s) (hn : HN A G K h₀ L m ow s₀ nenv cx ρ led ce)
    (hQ : Then G K h₀ L m ow s₀ led ce (fun d μ' => k d μ' = r) Q) (hX : XThen XN ow led ce (fun n μ' => r = .exc n μ') E) : wpAny (model G.prog G.w) A (eval (.UnaryOp op x p) nenv) Q E s := by
  cases op with
  | USub =>
    refine UnaryOp_ (hE hΦ h hr S hn (fun va a s1 l1 c1 μ1 S1 x1 ra h1 => ?_) hX)
    refine eEA (withInt_is h1 hr) fun i ee1 h2 => ?_
    subst ee1
    exact neg_sound S1 ra ((hQ.after x1).one h2)
  | Not =>
    refine UnaryOp_ (hE hΦ h hr S hn (fun va a s1 l1 c1 μ1 S1 x1 ra h1 => ?_) hX)
    refine eEA (withBool_is h1 hr) fun b ee1 h2 => ?_
    subst ee1
    obtain ⟨u9, rfl⟩ := ra.inv
    exact not_of (wpAny_truthy_bool ((hQ.after x1).bool S1 h2))
  | _ => exact st h hr
omit H hE hC hL in
theorem const_sound {c n p} {μ : Mu} {k : V → Mu → Res} {r : Res} (h : (optS (constV c) fun v => k v μ) = r) (hr : r ≠ .stuck) (S : Now G K h₀ L m ow s₀ led ce μ s)
    (hQ : Then G K h₀ L m ow s₀ led ce (fun d μ' => k d μ' = r) Q) : wpAny (model G.prog G.w) A (eval (.Constant c n p) nenv) Q E s := by
  cases c with
  | none => exact Constant_none (hQ _ _ _ _ _ _ S .refl .none h)
  | bool b => exact Constant_bool (hQ _ _ _ _ _ _ S .refl .bool h)
  | int i => exact wpAny_Constant_int (hQ _ _ _ _ _ _ (S.toks _) .refl .int h)
  | str x => exact wpAny_Constant_str (hQ _ _ _ _ _ _ (S.toks _) .refl .str h)
  | _ => exact st h hr
theorem stepE_sound : SndE G K h₀ L m s₀ A XN Φ (stepE EV CV) := by
  intro ow cx ρ e μ k r nenv led ce s Q E hΦ h hr S hn hQ hX
  cases e with
  | Constant c n p => exact const_sound h hr S hQ
  | Name x p =>
    refine eEA (optS_is (o := nameV cx ρ x) (k := fun v => k v μ) h hr) fun v hv h1 => ?_
    obtain ⟨v', rv, kk⟩ := hn.get hv
    exact kk S .refl (hQ _ _ _ _ _ _ S .refl rv h1)
  | BoolOp op es p => exact bool_sound H hE hΦ h hr S hn hQ hX
  | BinOp l op rr p =>
    refine wpAny_BinOp (hE hΦ h hr S hn (fun va a s1 l1 c1 μ1 S1 x1 ra h1 => ?_) hX)
    refine hE hΦ h1 hr S1 (hn.after x1 S1) (fun vb b s2 l2 c2 μ2 S2 x2 rb h2 => ?_) (hX.after H.xnd x1)
    refine eEA (optS_is h2 hr) fun v hv h3 => ?_
    exact bin_sound hv S2 (ra.ext x2) rb (((hQ.after x1).after x2).one h3)
  | UnaryOp op x p => exact un_sound hE hΦ h hr S hn hQ hX
  | IfExp t b o p =>
    refine IfExp_ (hC hΦ h hr S hn (fun c s1 l1 c1 μ1 S1 x1 h1 => ?_) hX)
    cases c with
    | true => exact hE hΦ h1 hr S1 (hn.after x1 S1) (hQ.after x1) (hX.after H.xnd x1)
    | false => exact hE hΦ h1 hr S1 (hn.after x1 S1) (hQ.after x1) (hX.after H.xnd x1)
  | Dict ks vs p =>
    obtain ⟨hok, h1⟩ := fitS_is (b := dictOk ks vs) (x := evPairs EV cx ρ ks vs μ fun xs ds μ => fitS (nodupS xs) (k (.dict xs ds) μ)) h hr
    exact dict_sound H hE (k := fun xs ds μ => k (.dict xs ds) μ) hΦ hok h1 hr S hn (hQ.to fun d μ q => by obtain ⟨xs, ds, rfl, e⟩ := q; exact e) hX
  | List es pos =>
    refine List_ (evList_sound H hE hΦ h hr S hn (fun vs ds s1 l1 c1 μ1 S1 x1 rs h1 => ?_) hX)
    obtain ⟨hfit, h2⟩ := fitS_is h1 hr
    refine newList_N S1.F S1.N (fun h2' F2 N2 => ?_) (line_fit hfit rs.length)
    cases hc : cx.isCell pos with
    | true => rw [hc] at h2; exact S1.cell F2 N2 rs (((hQ.after x1)) _ _ _ _ _ _ · · · h2)
    | false => rw [hc] at h2; exact S1.make F2 N2 (.list (.of (n := 0) S1.made) (rs.ext (.push _))) ((hQ.after x1).one h2)
  | Tuple es n pos =>
    refine Tuple_ (evList_sound H hE hΦ h hr S hn (fun vs ds s1 l1 c1 μ1 S1 x1 rs h1 => ?_) hX)
    obtain ⟨hfit, h2⟩ := fitS_is h1 hr
    refine newTuple_N S1.F S1.N (fun h2' F2 N2 => ?_) (line_fit hfit rs.length)
    exact S1.make F2 N2 (.tup ⟨_, 0, S1.made, rfl, rfl⟩ (rs.ext (.push _))) ((hQ.after x1).one h2)
  | ListComp elt gens sc p => exact hL hΦ h hr S hn hQ hX
  | Compare l ops rs p =>
    obtain ⟨hm, h1⟩ := fitS_is (b := !(lastMarks ops rs)) (x := EV cx ρ l μ fun a μ => evChain EV cx ρ a ops rs μ fun b μ => k (.bool b) μ) h hr
    rw [PySem.arm_eval_Compare, markedEach_of_false _ _ _ (Bool.not_eq_true' _ ▸ hm)]
    refine wpAny_bind (hE hΦ h1 hr S hn (fun va a s1 l1 c1 μ1 S1 x1 ra h1 => ?_) hX)
    exact chain_sound H hE hΦ h1 hr S1 (hn.after x1 S1) ra (fun b s2 l2 c2 μ2 S2 x2 h2 => ((hQ.after x1).after x2).bool S2 h2) (hX.after H.xnd x1)
  | Call f as ks pos => cases ks with
    | nil => exact call_sound H hE hΦ h hr S hn hQ hX
    | cons => exact st h hr
  | Attribute o n p =>
    obtain ⟨hp, h1⟩ := fitS_is (b := plainBase o) (x := EV cx ρ o μ fun ov μ => optS (fieldV ov n) fun v => k v μ) h hr
    rw [PySem.arm_eval_Attribute, base_plain hp]
    refine wpAny_bind (hE hΦ h1 hr S hn (fun vo o s1 l1 c1 μ1 S1 x1 ro h1 => ?_) hX)
    refine eEA (optS_is h1 hr) fun d hd h2 => ?_
    refine wpAny_bind (wpAny_standAt (wpAny_bind (wpAny_holding (H.field ro S1 hd fun v d' s2 l2 c2 μ2 S2 x2 rv q => ?_))))
    refine wpAny_bind (PySem.wpAny_letTemporaryGo (wpAny_pure ?_))
    exact ((hQ.after x1).one h2) _ _ _ _ _ _ S2 x2 rv q
  | Subscript o sl p =>
    refine Subscript_ (hE hΦ h hr S hn (fun vo o s1 l1 c1 μ1 S1 x1 ro h1 => ?_) hX)
    exact sub_sound H hE hΦ h1 hr S1 (hn.after x1 S1) ro (hQ.after x1) (hX.after H.xnd x1)
  | _ => exact st h hr
omit hL in
theorem stepC_sound : SndC G K h₀ L m s₀ A XN Φ (stepC EV CV) := by
  intro ow cx ρ e μ k r nenv led ce s Q E hΦ h hr S hn hQ hX
  have plain : (EV cx ρ e μ fun v μ => withBool v fun b => k b μ) = r → (isTrue e nenv (eval e nenv) = (do let v ← eval e nenv; standAt e.pos; holding [v] (truthy v))) →
      wpAny (model G.prog G.w) A (isTrue e nenv (eval e nenv)) Q E s := fun h he => by
    refine isTrue_plain (hE hΦ h hr S hn (fun v d s1 l1 c1 μ1 S1 x1 rv h1 => ?_) hX) he
    refine eEA (withBool_is h1 hr) fun b ee1 h2 => ?_
    subst ee1
    obtain ⟨u9, rfl⟩ := rv.inv
    exact wpAny_truthy_bool (hQ _ _ _ _ _ S1 x1 h2)
  cases e with
  | UnaryOp op x p =>
    cases op with
    | Not => exact isTrue_not (hC hΦ h hr S hn (fun b s1 l1 c1 μ1 S1 x1 h1 => hQ _ _ _ _ _ S1 x1 h1) hX)
    | _ => exact plain h rfl
  | BoolOp op es p => exact all_sound H hC hΦ h hr S hn hQ hX
  | IfExp a b c p => exact st h hr
  | Compare l ops rs p =>
    obtain ⟨hm, h1⟩ := fitS_is (b := !(lastMarks ops rs)) (x := EV cx ρ l μ fun a μ => evChain EV cx ρ a ops rs μ k) h hr
    show wpAny (model G.prog G.w) A (do testChain p (← eval l nenv) ops (markedEach ops rs (evalEach rs nenv))) Q E s
    rw [markedEach_of_false _ _ _ (Bool.not_eq_true' _ ▸ hm)]
    refine wpAny_bind (hE hΦ h1 hr S hn (fun va a s1 l1 c1 μ1 S1 x1 ra h1 => ?_) hX)
    exact test_sound H hE hΦ h1 hr S1 (hn.after x1 S1) ra (fun b s2 l2 c2 μ2 S2 x2 h2 => hQ _ _ _ _ _ S2 (x1.trans x2 S2.C.nodup) h2) (hX.after H.xnd x1)
  | _ => exact plain h rfl
end
end Mine

end

section
namespace Mine
open PySem PySem.W PySem.Calls PyProof.Rows
theorem look_lookup {α : Type} (x : Str) : ∀ l : List (Str × α), look x l = l.lookup x
  | [] => rfl
  | (y, v) :: r => by
    unfold look
    rw [List.lookup_cons]
    show (match seq x y with | true => some v | false => look x r) = _
    rw [seq_beq, look_lookup x r]
    cases seq x y <;> rfl
set_option tactic.hygienic true in
theorem lookup_mem {α : Type} {x : Str} {v : α} : ∀ {l : List (Str × α)}, l.lookup x = some v → (x, v) ∈ l
  | [], h => by cases h
  | (y, u) :: r, h => by
    rw [List.lookup_cons] at h
    split at h
    · rename_i q; cases h; rw [beq_iff_eq.mp q]; exact .head _
    · exact .tail _ (lookup_mem h)
theorem forIn_closure {env : Env} {body : Str × NameKind → List (Str × Addr) → Sem (ForInStep (List (Str × Addr)))} (hb : ∀ n k acc, body (n, k) acc = if (k == .free) = true then (do let c ← cellOf env n; pure (ForInStep.yield ((n, c) :: acc))) else pure (.yield acc))
    (names : List (Str × NameKind)) : ∀ (acc : List (Str × Addr)), (∀ p ∈ names, p.2 = .free → ∃ c, env.cells.lookup p.1 = some c) → (∀ n c, acc.lookup n = some c → env.cells.lookup n = some c) →
      ∃ cl, forIn names acc body = pure cl ∧ (∀ n c, cl.lookup n = some c → env.cells.lookup n = some c) ∧ ∀ n, ((n, NameKind.free) ∈ names ∨ ∃ c, acc.lookup n = some c) → ∃ c, cl.lookup n = some c := by
  induction names with
  | nil => exact fun acc u9 ha => ⟨acc, by rw [List.forIn_nil], ha, fun n h => h.elim (fun h => nomatch h) id⟩
  | cons p names ih =>
    intro acc hc ha
    obtain ⟨n, k⟩ := p
    rw [List.forIn_cons, hb]
    have hc2 := fun p (hp : p ∈ names) => hc p (.tail _ hp)
    by_cases hk : (k == NameKind.free) = true
    · refine byC fun hg => ?_
      obtain ⟨c, hcl⟩ := hc (n, k) (.head _) (eq_of_beq hk)
      refine eEAA (ih ((n, c) :: acc) hc2 fun y d e => ?_) fun cl h1 h2 h3 => ?_
      · rw [List.lookup_cons] at e
        cases q : y == n with
        | true => rw [q] at e; rw [beq_iff_eq.mp q]; exact e ▸ hcl
        | false => rw [q] at e; exact ha y d e
      · refine hg (iEAA cl ?_ h2 fun y hy => h3 y ?_)
        · rw [if_pos hk]
          unfold cellOf
          rw [show env.cells.lookup n = some c from hcl]
          exact h1
        · clear hg h1 h2 h3
          rcases hy with hy | ⟨d, hy⟩
          · rcases List.mem_cons.mp hy with e | hy
            · exact .inr ⟨c, by rw [show y = n from congrArg Prod.fst e, List.lookup_cons, beq_self_eq_true]⟩
            · exact .inl hy
          · rw [List.lookup_cons]
            cases y == n with
            | true => exact .inr ⟨c, rfl⟩
            | false => exact .inr ⟨d, hy⟩
    · refine eEAA (ih acc hc2 ha) fun cl h1 h2 h3 => ?_
      refine iEAA cl (by rw [if_neg hk]; exact h1) h2 (fun y hy => h3 y ?_)
      rcases hy with hy | hy
      · rcases List.mem_cons.mp hy with e | hy
        · exact absurd (congrArg (fun p => p.2 == NameKind.free) e.symm) hk
        · exact .inl hy
      · exact .inr hy
theorem closure_is {env : Env} {sc : Scope} (h : ∀ p ∈ sc.names, p.2 = .free → ∃ c, env.cells.lookup p.1 = some c) :
    ∃ cl, closureFor sc env = pure cl ∧ ∀ n, (n, NameKind.free) ∈ sc.names → ∃ c, cl.lookup n = some c ∧ env.cells.lookup n = some c := by
  obtain ⟨cl, h1, h2, h3⟩ := forIn_closure (env := env) (body := fun x s => match x with
          | (name, kind) =>
            if (kind == NameKind.free) = true then do
              let c ← cellOf env name
              pure (ForInStep.yield ((name, c) :: s))
            else pure (ForInStep.yield s)) (fun n k acc => rfl) sc.names [] h (fun n c e => by cases e)
  refine iEA cl ?_ (fun n hn => ?_)
  · unfold closureFor
    exact (congrArg (fun z : Sem (List (Str × Addr)) => z >>= fun r => pure r) h1).trans rfl
  · obtain ⟨c, e⟩ := h3 n (.inl hn)
    exact iEA c e (h2 n c e)
theorem lookup_relabel {C : Str → NameKind → Bool} {y : Str} : ∀ {names : List (Str × NameKind)}, (names.map fun (n, k) => if C n k = true then (n, NameKind.cell) else (n, k)).lookup y = (names.lookup y).map fun k => if C y k = true then .cell else k
  | [] => rfl
  | (n, k) :: r => by
    have ih := lookup_relabel (C := C) (y := y) (names := r)
    show List.lookup y ((if C n k = true then (n, NameKind.cell) else (n, k)) :: _) = _
    have e : (if C n k = true then (n, NameKind.cell) else (n, k)) = (n, if C n k = true then NameKind.cell else k) := by split <;> rfl
    rw [e, List.lookup_cons, List.lookup_cons]
    cases hx : y == n with
    | true => rw [beq_iff_eq.mp hx]; rfl
    | false => exact ih
theorem compOk_is {cx : Cx} {ρ : Rho} {x : Str} {sc : Scope} (h : compOk cx ρ x sc = true) : sc.kind = .function ∧ look x sc.names = some .local ∧ ∀ p ∈ sc.names, nameOk cx ρ sc p = true := by
  replace h : (match cx.top, sc.kind, look x sc.names with | true, .function, some .local => sc.names.all (nameOk cx ρ sc) | _, _, _ => false) = true := h
  cases h1 : cx.top with
  | false => rw [h1] at h; exact Bool.noConfusion h
  | true =>
    cases h2 : sc.kind with
    | function =>
      cases h3 : look x sc.names with
      | none => rw [h1, h2, h3] at h; exact Bool.noConfusion h
      | some k => cases k with
        | «local» => rw [h1, h2, h3] at h; exact iAA rfl rfl (List.all_eq_true.mp h)
        | _ => rw [h1, h2, h3] at h; exact Bool.noConfusion h
    | _ => rw [h1, h2] at h; exact Bool.noConfusion h
theorem nameOk_is {cx : Cx} {ρ : Rho} {sc : Scope} {p : Str × NameKind} (h : nameOk cx ρ sc p = true) : look p.1 sc.names = some p.2 ∧ p.2 ≠ .cell ∧ (p.2 = .free → look p.1 cx.kinds = some .cell ∧ ∃ d, look p.1 ρ = some (.val d)) := by
  obtain ⟨y, k⟩ := p
  refine byC fun hg => ?_
  replace h : (match (generalizing := false) k, look y sc.names with
    | .local, some .local => true
    | .globalImplicit, some .globalImplicit => true
    | .globalExplicit, some .globalExplicit => true
    | .free, some .free => (match look y cx.kinds, look y ρ with | some .cell, some (.val _) => true | _, _ => false)
    | _, _ => false) = true := h
  cases q : look y sc.names with
  | none => rw [q] at h; cases k <;> exact Bool.noConfusion h
  | some k' =>
    rw [q] at h
    cases k with
    | «local» => cases k' with
      | «local» => exact hg (iAA q nofun nofun)
      | _ => exact Bool.noConfusion h
    | globalImplicit => cases k' with
      | globalImplicit => exact hg (iAA q nofun nofun)
      | _ => exact Bool.noConfusion h
    | globalExplicit => cases k' with
      | globalExplicit => exact hg (iAA q nofun nofun)
      | _ => exact Bool.noConfusion h
    | cell => cases k' <;> exact Bool.noConfusion h
    | free => cases k' with
      | free =>
        refine hg (iAA q nofun fun u9 => ?_)
        replace h : (match (generalizing := false) look y cx.kinds, look y ρ with | some .cell, some (.val _) => true | _, _ => false) = true := h
        show look y cx.kinds = some .cell ∧ ∃ d, look y ρ = some (.val d)
        cases q1 : look y cx.kinds with
        | none => rw [q1] at h; exact Bool.noConfusion h
        | some k => cases k with
          | cell => cases q2 : look y ρ with
            | none => rw [q1, q2] at h; exact Bool.noConfusion h
            | some s => cases s with
              | val d => exact ⟨rfl, d, rfl⟩
              | own l => rw [q1, q2] at h; exact Bool.noConfusion h
          | _ => rw [q1] at h; exact Bool.noConfusion h
      | _ => exact Bool.noConfusion h
theorem put_hit {x : Str} {s : Slot} {p : Str × Slot} {r : Rho} (h : seq x p.1 = true) : put x s (p :: r) = (x, s) :: r := by
  show (match seq x p.1 with | true => (x, s) :: r | false => p :: put x s r) = _
  rw [h]
theorem put_miss {x : Str} {s : Slot} {p : Str × Slot} {r : Rho} (h : seq x p.1 = false) : put x s (p :: r) = p :: put x s r := by
  show (match seq x p.1 with | true => (x, s) :: r | false => p :: put x s r) = _
  rw [h]
theorem look_put_self {x : Str} {s : Slot} {ρ : Rho} : look x (put x s ρ) = some s := by
  induction ρ with
  | nil => exact look_hit (p := (x, s)) seq_self
  | cons p r ih =>
    cases h : seq x p.1 with
    | true => rw [put_hit h]; exact look_hit (p := (x, s)) seq_self
    | false => rw [put_miss h, look_miss h]; exact ih
theorem look_put_ne {x y : Str} {s : Slot} (h : y ≠ x) {ρ : Rho} : look y (put x s ρ) = look y ρ := by
  have e : seq y x = false := Bool.eq_false_iff.mpr fun q => h (seq_iff.mp q)
  induction ρ with
  | nil => exact look_miss (p := (x, s)) e
  | cons p r ih =>
    cases h1 : seq x p.1 with
    | true => rw [put_hit h1, look_miss (p := (x, s)) e, look_miss (show seq y p.1 = false by rw [← seq_iff.mp h1]; exact e)]
    | false =>
      rw [put_miss h1]
      cases h2 : seq y p.1 with
      | true => rw [look_hit h2, look_hit h2]
      | false => rw [look_miss h2, look_miss h2]; exact ih
structure Fx where
  cn : Str
  cs : Scope
  L : Addr
  a : Addr
  ccd : Value
  cl : List (Str × Addr)
noncomputable abbrev Fx.env (f : Fx) : Env := envX f.cn f.cs f.L f.a f.ccd f.cl
noncomputable def GlobOk (G : Gx) (K : Frag) (gl : Str → Option V) : Prop :=
  ∀ x d, gl x = some d → (∃ v, nsIn K mainGlobals x = some (some v) ∧ VR G (fun a o => K.lookup a = some o) [] v d) ∨
    (∃ v, nsIn K mainGlobals x = some none ∧ bootBuiltins x = some v ∧ x ≠ "__name__" ∧ VR G (fun a o => K.lookup a = some o) [] v d)
structure RhoOk (G : Gx) (K : Frag) (f : Fx) (m : Str → Option Value) (ow : List Addr) (led : List (Addr × Obj)) (ce : List Addr) (ρ : Rho) (ox : Option (Str × Addr × List V)) : Prop where
  val : ∀ x d, look x ρ = some (.val d) → ∃ v, VR G (In K ow ce led) ce v d ∧ (f.cs.names.lookup x = some .local → m x = some v) ∧
    (f.cs.names.lookup x = some .cell → ∃ c o, f.cl.lookup x = some c ∧ (c, o) ∈ led ∧ c ∉ ce ∧ o.data = .cell (some v) ∧ c ∉ ow)
  own : ∀ x l, look x ρ = some (.own l) → ∃ a, ox = some (x, a, l) ∧ m x = some (.ref a) ∧ f.cs.names.lookup x = some .local ∧ (x == ("__debug__" : Str)) = false
structure SNow (G : Gx) (K : Frag) (h₀ : Heap) (f : Fx) (s₀ : Shared) (ow0 : List Addr) (led0 : List (Addr × Obj)) (ce0 : List Addr) (ρ : Rho) (μ : Mu)
    (m : Str → Option Value) (ow : List Addr) (led : List (Addr × Obj)) (ce : List Addr) (ox : Option (Str × Addr × List V)) (s : Shared) : Prop where
  S : Now G K h₀ f.L m ow s₀ led ce μ s
  R : RhoOk G K f m ow led ce ρ ox
  x : Ext led0 ce0 led ce
  sub : ∀ a ∈ ow0, a ∈ ow
  fresh : ∀ a ∈ ow, a ∉ ow0 → ∀ p ∈ led0, p.1 ≠ a
  own : ∀ y a l, ox = some (y, a, l) → a ∈ ow ∧ a ∉ ow0 ∧ ∃ vs n, (a, lstObj vs n) ∈ led ∧ VRs G (In K ow ce led) ce vs l
section
variable {A : Around} {XN : XNT} {Φ : Nat → List V → Mu → Res} {Q : Flow → Shared → Prop} {E : Value → Shared → Prop}
variable {G : Gx} {K : Frag} {h₀ h' : Heap} {d : Addr} {m : Str → Option Value} {ow ow0 : List Addr} {s₀ s : Shared} {led led0 : List (Addr × Obj)} {ce ce0 : List Addr} {μ : Mu} {f : Fx} {ρ : Rho} {ox : Option (Str × Addr × List V)}
variable {p : Program} {loose : List Str} {mg mb : Str → Option Value}
theorem Ext.mem {led' : List (Addr × Obj)} {ce' : List Addr} (x : Ext led ce led' ce') {q : Addr × Obj} (h : q ∈ led) (hc : q.1 ∉ ce) : q ∈ led' := x.keep q h hc
theorem RhoOk.ext {led' ce'} (R : RhoOk G K f m ow led ce ρ ox) (x : Ext led ce led' ce') : RhoOk G K f m ow led' ce' ρ ox :=
  ⟨fun y d e => let ⟨v, r, a, b⟩ := R.val y d e; ⟨v, r.ext x, a, fun q => let ⟨c, o, q1, q2, q3, q4, q5⟩ := b q; ⟨c, o, q1, x.mem q2 q3, x.off q2 q3, q4, q5⟩⟩, R.own⟩
theorem SNow.ext {led' ce' μ' s'} (S : SNow G K h₀ f s₀ ow0 led0 ce0 ρ μ m ow led ce ox s) (S' : Now G K h₀ f.L m ow s₀ led' ce' μ' s') (x : Ext led ce led' ce') :
    SNow G K h₀ f s₀ ow0 led0 ce0 ρ μ' m ow led' ce' ox s' :=
  ⟨S', S.R.ext x, S.x.trans x S'.C.nodup, S.sub, S.fresh, fun y a l e => let ⟨h1, h2, vs, n, h3, h4⟩ := S.own y a l e; ⟨h1, h2, vs, n, x.mem h3 (fun q => S.S.C.off _ q h1), h4.ext x⟩⟩
set_option tactic.hygienic true in
theorem SNow.compNames (hk : f.cs.kind = .function) (T : TopRead p loose mg mb h₀) (X : K.In h₀) {cx : Cx} (hg : GlobOk G K cx.gl) (hc : cx.kinds = f.cs.names)
    (S : SNow G K h₀ f s₀ ow0 led0 ce0 ρ μ m ow led ce ox s) {x : Str} {sc : Scope} (hok : compOk cx ρ x sc = true) :
    ∃ cl, closureFor sc f.env = pure cl ∧ ∀ {ow' led' ce' v dv C oC m₂}, (∀ a o, In K ow ce led a o → In K ow' ce' led' a o) → Ext led ce led' ce' → ce'.Nodup → (C, oC) ∈ led' → C ∉ ce' → NsIs oC m₂ → m₂ x = some v →
    VR G (In K ow' ce' led') ce' v dv → HNg A G K h₀ f.L m ow' s₀ (compEnvC sc cl C f.env) { cx with kinds := compKinds x sc, top := false } ((x, .val dv) :: ρ) led' ce' := by
  refine byC fun hg => ?_
  refine eAA (compOk_is hok) fun hkind hx hall => ?_
  refine hg ?_
  clear hg
  have hfree : ∀ p ∈ sc.names, p.2 = .free → f.cs.names.lookup p.1 = some .cell ∧ ∃ d, look p.1 ρ = some (.val d) := fun p hp e => by
    refine byC fun hg => ?_
    refine eAA (nameOk_is (hall p hp)) fun zz zz h3 => ?_
    refine hg ?_
    clear hg
    have := h3 e
    rw [hc, look_lookup] at this
    exact this
  obtain ⟨cl, hcl, hcells⟩ := closure_is (env := f.env) (sc := sc) fun p hp e => by
    refine byC fun hg => ?_
    obtain ⟨h1, d, h2⟩ := hfree p hp e
    refine eEAA (S.R.val _ _ h2) fun v zz zz q => ?_
    refine eEEA (q h1) fun c o w zz => ?_
    refine hg ?_
    clear hg
    exact ⟨c, w⟩
  refine iEA cl hcl (fun {ow' led' ce' v dv C oC m₂} hin hx' hnd hm hC hns hv hr => ?_)
  intro y d pos e
  unfold nameV at e
  split at e
  · cases e
  rename_i hdb
  have hd : (y == ("__debug__" : Str)) = false := by rw [seq_beq]; exact hdb
  have hkf : (compEnvC sc cl C f.env).scope.kind = .function := hkind
  -- what kind the name has
  have kof : ∀ k, look y (compKinds x sc) = some k → (y, k) ∈ sc.names ∧ sc.names.lookup y = some k ∧ k ≠ .cell ∧ (k = .local → y = x) ∧
      (compEnvC sc cl C f.env).kindOf y = some (if (k == NameKind.free && f.cs.kind == .function && f.env.kindOf y == some .cell) = true then .cell else k) := fun k e => by
    rw [look_lookup] at e
    have hmem := lookup_mem e
    refine byC fun hg => ?_
    obtain ⟨hm1, hm2⟩ := List.mem_filter.mp hmem
    refine eAA (nameOk_is (hall _ hm1)) fun q1 q2 q3 => ?_
    refine hg ?_
    clear hg
    rw [look_lookup] at q1
    refine iAAAA hm1 q1 q2 (fun hl => ?_) ?_
    · subst hl; exact seq_iff.mp hm2
    · show List.lookup y (relabel sc f.env).names = _
      have := lookup_relabel (C := fun n k => (k == NameKind.free && f.cs.kind == .function && f.env.kindOf n == some .cell)) (y := y) (names := sc.names)
      rw [q1] at this
      exact this
  split at e
  · rename_i hkd
    refine byC fun hg => ?_
    refine eAAAA (kof _ hkd) fun h1 h2 zz zz h5 => ?_
    refine hg ?_
    clear hg
    have h5' : (compEnvC sc cl C f.env).kindOf y = some .globalImplicit := by rw [h5]; rfl
    rcases hg y d e with ⟨v, h1, h2⟩ | ⟨v, h1, h2, h3, h4⟩
    · exact iEA v (h2.mono (fun _ _ q => .inr q) (fun i a q => by simp at q)) (fun S' _ _ _ q => Name_function_global hkf h5' (loadGlobal_global (env := compEnvC sc cl C f.env) (T.g.keeps S'.F.keep) (mg_of X T.g h1) q) hd)
    · exact iEA v (h4.mono (fun _ _ q => .inr q) (fun i a q => by simp at q)) (fun S' _ _ _ q => Name_function_global hkf h5' (loadGlobal_builtin (env := compEnvC sc cl C f.env) (T.g.keeps S'.F.keep) (mg_none_of X T.g h1) (T.b.keeps S'.F.keep) ((T.builtins y h3).trans h2) q) hd)
  · cases e
  · rename_i kd hn1 hn2 hkd
    refine byC fun hg => ?_
    refine eAAAA (kof _ hkd) fun h1 h2 h3 h4 h5 => ?_
    refine hg ?_
    clear hg
    split at e
    · rename_i v0 hv0
      cases e
      cases kd with
      | «local» =>
        have := h4 rfl; subst this
        have hd0 : d = dv := by
          unfold look at hv0
          rw [show seq y ((y, Slot.val dv).1) = true from seq_iff.mpr rfl] at hv0
          cases hv0; rfl
        subst hd0
        refine iEA v hr (fun {ow2 s2 led2 ce2 μ2} S' x2 Q E q => ?_)
        have g := (S'.N _ (x2.keep _ hm hC)).1
        refine byC fun hg => ?_
        refine eEEAA (hns) fun es ep w1 w2 w3 => ?_
        try clear hns
        refine hg ?_
        clear hg
        have hNs : s2.heap.Ns C m₂ := ⟨oC, es, ep, g, w1, w2, w3⟩
        exact wpAny_Name (wpAny_loadName_local (env := compEnvC sc cl C f.env) hkf (by rw [h5]; rfl) hNs hv q) hd
      | cell => exact absurd rfl h3
      | free =>
        have hyx : y ≠ x := fun e => by subst e; rw [look_lookup, h2] at hx; cases hx
        refine byC fun hg => ?_
        obtain ⟨g1, d', g2⟩ := hfree _ h1 rfl
        refine hg ?_
        clear hg
        have hd0 : look y ρ = some (.val d) := by
          unfold look at hv0
          rw [show seq y ((x, Slot.val dv).1) = false by
            cases q : seq y x with
            | true => exact absurd (seq_iff.mp q) hyx
            | false => rfl] at hv0
          exact hv0
        refine byC fun hg => ?_
        refine eEAA (S.R.val y _ hd0) fun v1 r1 zz r2 => ?_
        refine eEEAAAA (r2 g1) fun c o q1 q2 q3 q4 q5 => ?_
        refine eEA (hcells y h1) fun c' q6 q7 => ?_
        refine hg ?_
        clear hg
        have hcc : c' = c := by rw [show f.env.cells.lookup y = f.cl.lookup y from rfl, q1] at q7; exact (Option.some.inj q7).symm
        subst hcc
        refine iEA v1 (r1.mono hin (fun i a q => hx'.get q)) (fun {ow2 s2 led2 ce2 μ2} S' x2 Q E q => ?_)
        have hk5 : (compEnvC sc cl C f.env).kindOf y = some .cell := by
          rw [h5, show f.env.kindOf y = some .cell from g1, hk]; rfl
        exact wpAny_Name (wpAny_loadName_cell (env := compEnvC sc cl C f.env) hkf hk5 q6 ⟨o, (S'.N _ (x2.keep _ (hx'.mem q2 q3) (hx'.off q2 q3))).1, q4⟩ q) hd
      | globalExplicit => exact absurd rfl hn2
      | globalImplicit => exact absurd rfl hn1
    · cases e
  · cases e
set_option tactic.hygienic true in
theorem SNow.names (hk : f.cs.kind = .function) (T : TopRead p loose mg mb h₀) (X : K.In h₀) {cx : Cx} (hg : GlobOk G K cx.gl) (hc : cx.kinds = f.cs.names) (hcell : ∀ y ∈ f.cs.names, y.2 ≠ .free)
    (S : SNow G K h₀ f s₀ ow0 led0 ce0 ρ μ m ow led ce ox s) : HN A G K h₀ f.L m ow s₀ f.env cx ρ led ce := by
  refine ⟨fun {x d pos} e => ?_, fun {x sc} hok => S.compNames hk T X hg hc hok⟩
  unfold nameV at e
  split at e
  · cases e
  · rename_i hdb
    have hd : (x == ("__debug__" : Str)) = false := by rw [seq_beq]; exact hdb
    rw [hc, look_lookup] at e
    split at e
    · rename_i hkd
      rcases hg x d e with ⟨v, h1, h2⟩ | ⟨v, h1, h2, h3, h4⟩
      · exact iEA v (h2.mono (fun _ _ q => .inr q) (fun i a q => by simp at q)) (fun S' _ _ _ q => nameX_K S'.F X T h1 q hk hkd hd)
      · exact iEA v (h4.mono (fun _ _ q => .inr q) (fun i a q => by simp at q)) (fun S' _ _ _ q => nameX_B S'.F X T h1 h2 h3 q hk hkd hd)
    · cases e
    · rename_i kd hn1 hn2 hkd
      split at e
      · rename_i v0 hv0
        cases e
        refine byC fun hg => ?_
        refine eEAA (S.R.val x _ hv0) fun v r h1 h2 => ?_
        refine hg ?_
        clear hg
        refine iEA v r (fun {ow' s' led' ce' μ'} S' x' Q E q => ?_)
        cases kd with
        | «local» => exact nameX_L S'.F (h1 hkd) q hk hkd hd
        | cell =>
          refine byC fun hg => ?_
          refine eEEAAAA (h2 hkd) fun c o q1 q2 q3 q4 zz => ?_
          refine hg ?_
          clear hg
          exact nameX_C S'.N q1 (x'.mem q2 q3) q4 q hk hkd hd
        | free => exact absurd rfl (hcell _ (lookup_mem hkd))
        | globalExplicit => exact absurd rfl hn2
        | globalImplicit => exact absurd rfl hn1
      · cases e
    · cases e
end
end Mine

end

section
namespace Mine
open PySem PySem.W PySem.Calls PyProof.Rows
theorem filterMap_names {α β : Type} {g : α → Option β} {k : α → β} {l : List α} : (l.filterMap g).length = l.length → (∀ a ∈ l, ∀ b, g a = some b → b = k a) → l.filterMap g = l.map k := by
  induction l with
  | nil => exact fun u9 u9 => rfl
  | cons a l ih =>
    intro h hk
    cases e : g a with
    | none =>
      rw [List.filterMap_cons, e] at h
      exact absurd (List.length_filterMap_le g l) (by rw [show (l.filterMap g).length = l.length + 1 from h]; exact Nat.not_succ_le_self _)
    | some b =>
      rw [List.filterMap_cons, e] at h ⊢
      rw [List.map_cons, hk a (.head _) b e]
      exact congrArg (k a :: ·) (ih (Nat.succ.inj h) fun a ha => hk a (.tail _ ha))
noncomputable def nameOr : PySem.Expr → Str
  | .Name x _ => x
  | _ => Str.empty
theorem namesOf_map {ts : List PySem.Expr} : allNames ts = true → namesOf ts = ts.map nameOr := by
  induction ts with
  | nil => exact fun u9 => rfl
  | cons t ts ih =>
    intro h
    obtain ⟨h1, h2⟩ := Bool.and_eq_true_iff.mp h
    cases t with
    | Name x p => exact congrArg (x :: ·) (ih h2)
    | _ => exact Bool.noConfusion h1
set_option tactic.hygienic true in
theorem swapped_cases {ts : List PySem.Expr} {k : Nat} {p : Pos} {e : PySem.Expr} {env : Env} (h : swapOk ts e = true) (hall : allNames ts = true) :
    swappedStores [.Tuple ts k p] e env = pure none ∨ swappedStores [.Tuple ts k p] e env = pure (some (namesOf ts)) := by
  unfold swapOk at h
  split at h
  rotate_left
  · cases h
  cases e with
  | Tuple vs k2 p2 =>
    simp only [Bool.not_eq_true'] at h
    unfold swappedStores
    dsimp only
    simp only [bind, Sem.bind, pure]
    split
    · left; rfl
    split
    · left; rfl
    split
    · left; rfl
    rename_i hn
    split
    · left; rfl
    split
    · rename_i hc; rw [hc] at h; cases h
    right
    simp only [Bool.or_eq_true, bne_iff_ne, ne_eq, not_or, Classical.not_not] at hn
    rw [namesOf_map hall]
    refine congrArg (fun x => Sem.pure (some x)) (filterMap_names hn.1 fun a _ b e => ?_)
    split at e
    · split at e
      · cases e; rfl
      · cases e
    · cases e
  | _ => left; rfl
end Mine

end

section
namespace Mine
open PySem PySem.W PySem.Calls PyProof.Rows
noncomputable def raiseTail (env : Env) (xv : Value) : Sem Flow := do
  let e ← holding [] (excFromValue xv "exceptions must derive from BaseException")
  let e ← if ← isType xv then holding [e] (raisedFor xv e) else raisedInstance e
  setFlight e none
  raiseNew e
structure FrameOk (G : Gx) (K : Frag) (h₀ : Heap) (f : Fx) (s₀ : Shared) (A : Around) (XN : XNT) (cx : Cx) (p : Program) (loose : List Str) (mg mb : Str → Option Value) : Prop where
  hyp : ∀ m, Hyp G K h₀ f.L m s₀ A XN cx.Φ
  kind : f.cs.kind = .function
  top : TopRead p loose mg mb h₀
  kin : K.In h₀
  gl : GlobOk G K cx.gl
  kinds : cx.kinds = f.cs.names
  nofree : ∀ y ∈ f.cs.names, y.2 ≠ .free
  raiseX : ∀ {va vb n x m ow led ce μ s Q E}, Now G K h₀ f.L m ow s₀ led ce μ s → VR G (In K ow ce led) ce va (.int n) → VR G (In K ow ce led) ce vb (.str x) →
    (∀ e s' led' ce', XN e n ow led' ce' μ s' → Ext led ce led' ce' → E e s') → wpAny (model G.prog G.w) A (call (.ref (G.cA 0)) [va, vb]) (fun xv s₁ => wpAny (model G.prog G.w) A (raiseTail f.env xv) Q E s₁) E s
  loopX : ∀ {e n ow led ce μ s E}, XN e n ow led ce μ s → (∀ s', XN e n ow led ce μ s' → E e s') →
    notedBy (model G.prog G.w) A f.env (fun x s' => cameBackBy (model G.prog G.w) A f.env E x s') e s
section
variable {A : Around} {XN : XNT} {Φ : Nat → List V → Mu → Res} {Q : Flow → Shared → Prop} {E : Value → Shared → Prop}
variable {G : Gx} {K : Frag} {h₀ h' : Heap} {d : Addr} {m : Str → Option Value} {ow ow0 : List Addr} {s₀ s : Shared} {led led0 : List (Addr × Obj)} {ce ce0 : List Addr} {μ : Mu} {f : Fx} {ρ : Rho} {ox : Option (Str × Addr × List V)}
variable {p : Program} {loose : List Str} {mg mb : Str → Option Value} {cx : Cx} {r : Res}
theorem In.weak {a : Addr} {o : Obj} (h : In K ow ce led a o) (hs : ∀ a ∈ ow0, a ∈ ow) : In K ow0 ce led a o := by
  rcases h with ⟨h1, h2, h3⟩ | h
  · exact .inl ⟨h1, fun q => h2 (hs _ q), h3⟩
  · exact .inr h
theorem Now.weak {L} (S : Now G K h₀ L m ow s₀ led ce μ s) (hs : ∀ a ∈ ow0, a ∈ ow) : Now G K h₀ L m ow0 s₀ led ce μ s :=
  ⟨S.F, S.N, S.X, S.big, ⟨S.C.len, S.C.nodup, fun a ha hh => S.C.off a ha (hs _ hh), fun i l e => let ⟨a, vs, n, x, y, z⟩ := S.C.at_ i l e; ⟨a, vs, n, x, y, z.mono (fun u9 u9 q => q.weak hs) fun u9 u9 q => q⟩⟩,
    fun a ha => S.O a (hs _ ha), S.sm⟩
noncomputable def RetQ (G : Gx) (K : Frag) (h₀ : Heap) (f : Fx) (s₀ : Shared) (ow0 : List Addr) (led0 : List (Addr × Obj)) (ce0 : List Addr) (r : Res) (Q : Flow → Shared → Prop) : Prop :=
  ∀ v d s' m' led' ce' μ', Now G K h₀ f.L m' ow0 s₀ led' ce' μ' s' → Ext led0 ce0 led' ce' → VR G (In K ow0 ce' led') ce' v d → r = .ret d μ' → Q (.ret v) s'
noncomputable def NextQ (G : Gx) (K : Frag) (h₀ : Heap) (f : Fx) (s₀ : Shared) (ow0 : List Addr) (led0 : List (Addr × Obj)) (ce0 : List Addr) (kn : Rho → Mu → Res) (r : Res) (Q : Flow → Shared → Prop) : Prop :=
  ∀ ρ' μ' m' ow' led' ce' ox' s', SNow G K h₀ f s₀ ow0 led0 ce0 ρ' μ' m' ow' led' ce' ox' s' → kn ρ' μ' = r → Q .next s'
noncomputable def SndS (G : Gx) (K : Frag) (h₀ : Heap) (f : Fx) (s₀ : Shared) (A : Around) (XN : XNT) (cx : Cx) (SV : SF) : Prop :=
  ∀ {ρ ss μ kn r ow0 led0 ce0 m ow led ce ox s Q E}, SV cx ρ ss μ kn = r → r ≠ .stuck → SNow G K h₀ f s₀ ow0 led0 ce0 ρ μ m ow led ce ox s →
    NextQ G K h₀ f s₀ ow0 led0 ce0 kn r Q → RetQ G K h₀ f s₀ ow0 led0 ce0 r Q → XThen XN ow0 led0 ce0 (fun n μ' => r = .exc n μ') E → wpAny (model G.prog G.w) A (execs ss f.env) Q E s
noncomputable def SndS1 (G : Gx) (K : Frag) (h₀ : Heap) (f : Fx) (s₀ : Shared) (A : Around) (XN : XNT) (cx : Cx) (st : Stmt) (SV : Rho → Mu → (Rho → Mu → Res) → Res) : Prop :=
  ∀ {ρ μ kn r ow0 led0 ce0 m ow led ce ox s Q E}, SV ρ μ kn = r → r ≠ .stuck → SNow G K h₀ f s₀ ow0 led0 ce0 ρ μ m ow led ce ox s →
    NextQ G K h₀ f s₀ ow0 led0 ce0 kn r Q → RetQ G K h₀ f s₀ ow0 led0 ce0 r Q → XThen XN ow0 led0 ce0 (fun n μ' => r = .exc n μ') E → wpAny (model G.prog G.w) A (exec st f.env) Q E s
noncomputable def SndCA (G : Gx) (K : Frag) (h₀ : Heap) (f : Fx) (s₀ : Shared) (A : Around) (XN : XNT) (cx : Cx) (EV : EF) : Prop :=
  ∀ {x np elt gens sc p2 pos ρ μ kn r ow0 led0 ce0 m ow led ce ox s Q E}, isLocal cx x = true → compTo x np (.ListComp elt gens sc p2) = true → (EV cx ρ (.ListComp elt gens sc p2) μ fun v μ => kn (put x (.val v) ρ) μ) = r → r ≠ .stuck → SNow G K h₀ f s₀ ow0 led0 ce0 ρ μ m ow led ce ox s →
    NextQ G K h₀ f s₀ ow0 led0 ce0 kn r Q → XThen XN ow0 led0 ce0 (fun n μ' => r = .exc n μ') E → wpAny (model G.prog G.w) A (exec (.Assign [.Name x np] (.ListComp elt gens sc p2) pos) f.env) Q E s
theorem isLocal_both {x : Str} (h : isLocal cx x = true) : seq x (Str.ofString "__debug__") = false ∧ look x cx.kinds = some .local := by
  replace h : (match seq x (Str.ofString "__debug__") with | true => false | false => match look x cx.kinds with | some .local => true | _ => false) = true := h
  cases h1 : seq x (Str.ofString "__debug__") with
  | true => rw [h1] at h; exact Bool.noConfusion h
  | false =>
    rw [h1] at h
    replace h : (match look x cx.kinds with | some .local => true | _ => false) = true := h
    cases h2 : look x cx.kinds with
    | none => rw [h2] at h; exact Bool.noConfusion h
    | some k => cases k with
      | «local» => exact ⟨rfl, rfl⟩
      | _ => rw [h2] at h; exact Bool.noConfusion h
theorem nameV_loc {x : Str} {a : V} (ha : nameV cx ρ x = some a) (hl : look x cx.kinds = some .local) : look x ρ = some (.val a) := by
  replace ha : (match seq x (Str.ofString "__debug__") with | true => none | false => match look x cx.kinds with
    | some .globalImplicit => cx.gl x | some .globalExplicit => none | some _ => (match look x ρ with | some (.val v) => some v | _ => none) | none => none) = some a := ha
  cases h1 : seq x (Str.ofString "__debug__") with
  | true => rw [h1] at ha; exact no_of ha
  | false =>
    rw [h1, hl] at ha
    replace ha : (match look x ρ with | some (.val v) => some v | _ => none) = some a := ha
    cases q : look x ρ with
    | none => rw [q] at ha; exact no_of ha
    | some s => cases s with
      | val v => rw [q] at ha; exact congrArg (fun v => some (Slot.val v)) (Option.some.inj ha)
      | own l => rw [q] at ha; exact no_of ha
theorem isLocal_is {x : Str} (h : isLocal cx x = true) (hc : cx.kinds = f.cs.names) : f.cs.names.lookup x = some .local := by
  rw [← look_lookup, ← hc]; exact (isLocal_both h).2
theorem isLocal_nd {x : Str} (h : isLocal cx x = true) : (x == ("__debug__" : Str)) = false := (seq_beq ..).trans (isLocal_both h).1
theorem SNow.set (S : SNow G K h₀ f s₀ ow0 led0 ce0 ρ μ m ow led ce ox s) {x : Str} {v : Value} {d : V} (hl : f.cs.names.lookup x = some .local) (rv : VR G (In K ow ce led) ce v d) {tk : Nat}
    (F : Fr h₀ f.L h' (fun y => if y = x then some v else m y)) (N : News h₀ f.L h' led) :
    SNow G K h₀ f s₀ ow0 led0 ce0 (put x (.val d) ρ) μ (fun y => if y = x then some v else m y) ow led ce ox { s with heap := h', toks := tk } := by
  refine ⟨⟨F, N, S.S.X, S.S.big, S.S.C, S.S.O, let ⟨_, _, e⟩ := S.S.sm; ⟨h', tk, by rw [e]⟩⟩, ⟨fun y d' e => ?_, fun y l e => ?_⟩, S.x, S.sub, S.fresh, S.own⟩
  · by_cases hy : y = x
    · subst hy
      rw [look_put_self] at e; cases e
      exact iEAA v rv (fun u9 => by simp) (fun q => by rw [hl] at q; cases q)
    · rw [look_put_ne hy] at e
      refine byC fun hg => ?_
      refine eEAA (S.R.val y d' e) fun v' r' a b => ?_
      refine hg ?_
      clear hg
      exact iEAA v' r' (fun q => by simp only [if_neg hy]; exact a q) b
  · by_cases hy : y = x
    · subst hy
      rw [look_put_self] at e; cases e
    · rw [look_put_ne hy] at e
      refine byC fun hg => ?_
      refine eEA (S.R.own y l e) fun a h1 h2 => ?_
      refine hg ?_
      clear hg
      exact iEA a h1 (by simp only [if_neg hy]; exact h2)
theorem ownFree_is (h : ownFree ρ = true) (x : Str) (l : List V) : look x ρ ≠ some (.own l) := by
  induction ρ with
  | nil => intro e; cases e
  | cons q ρ ih =>
    simp only [ownFree, List.all_cons, Bool.and_eq_true] at h
    unfold look
    split
    · intro e
      have e' : q.2 = .own l := Option.some.inj e
      rw [e'] at h; simp at h
    · exact ih (by simpa [ownFree] using h.2)
theorem SNow.base_lt (S : SNow G K h₀ f s₀ ow0 led0 ce0 ρ μ m ow led ce ox s) : ∀ p ∈ led0, p.1 < s.heap.objs.size := fun p hp => by
  by_cases hc : p.1 ∈ ce0
  · obtain ⟨o, ho⟩ := S.S.C.mem (S.x.ce_mem hc)
    exact S.S.fresh (p.1, o) ho
  · exact S.S.fresh _ (S.x.keep p hp hc)
theorem SNow.newOwn (S : SNow G K h₀ f s₀ ow0 led0 ce0 ρ μ m ow led ce ox s) {x : Str} {h2 h3 : Heap} {tk tk3 : Nat} (hl : f.cs.names.lookup x = some .local) (hnd : (x == ("__debug__" : Str)) = false) (hf : ownFree ρ = true)
    (S2 : Now G K h₀ f.L m (s.heap.objs.size :: ow) s₀ ((s.heap.objs.size, lstObj [] 0) :: led) ce μ { s with heap := h2, toks := tk })
    (F : Fr h₀ f.L h3 (fun y => if y = x then some (.ref s.heap.objs.size) else m y)) (N : News h₀ f.L h3 ((s.heap.objs.size, lstObj [] 0) :: led)) :
    SNow G K h₀ f s₀ ow0 led0 ce0 (put x (.own []) ρ) μ (fun y => if y = x then some (.ref s.heap.objs.size) else m y) (s.heap.objs.size :: ow) ((s.heap.objs.size, lstObj [] 0) :: led) ce (some (x, s.heap.objs.size, [])) { s with heap := h3, toks := tk3 } := by
  have hfr : ∀ p ∈ led, p.1 ≠ s.heap.objs.size := fun p hp => Nat.ne_of_lt (S.S.fresh p hp)
  refine ⟨⟨F, N, S.S.X, S.S.big, S2.C, S2.O, let ⟨_, _, e⟩ := S.S.sm; ⟨h3, tk3, by rw [e]⟩⟩, ⟨fun y d' e => ?_, fun y l e => ?_⟩, S.x.trans (.push _) S2.C.nodup, fun a ha => .tail _ (S.sub a ha), fun a ha ha0 p hp => ?_, fun y a l e => ?_⟩
  · by_cases hy : y = x
    · subst hy; rw [look_put_self] at e; cases e
    · rw [look_put_ne hy] at e
      refine byC fun hg => ?_
      refine eEAA (S.R.val y d' e) fun v' r' a b => ?_
      refine hg ?_
      clear hg
      exact iEAA v' (r'.mono (fun u9 u9 q => q.open_ hfr) (fun u9 u9 q => q)) (fun q => by simp only [if_neg hy]; exact a q) (fun q => let ⟨c, o, q1, q2, q3, q4, q5⟩ := b q; ⟨c, o, q1, .tail _ q2, q3, q4, fun w => (List.mem_cons.mp w).elim (hfr _ q2) q5⟩)
  · by_cases hy : y = x
    · subst hy; rw [look_put_self] at e; cases e
      exact iEAAA _ rfl (by simp) hl hnd
    · rw [look_put_ne hy] at e; exact absurd e (ownFree_is hf _ _)
  · rcases List.mem_cons.mp ha with rfl | ha
    · exact Nat.ne_of_lt (S.base_lt p hp)
    · exact S.fresh a ha ha0 p hp
  · cases e
    exact iAAEEA (.head _) (fun h => S.S.newOff.1 (S.sub _ h)) ([]) 0 (.head _) .nil
theorem store_sound (H : FrameOk G K h₀ f s₀ A XN cx p loose mg mb) (S : SNow G K h₀ f s₀ ow0 led0 ce0 ρ μ m ow led ce ox s) {x : Str} {v : Value} {d : V} {Q : Unit → Shared → Prop} (hl : f.cs.names.lookup x = some .local) (rv : VR G (In K ow ce led) ce v d)
    (hQ : ∀ m' s', SNow G K h₀ f s₀ ow0 led0 ce0 (put x (.val d) ρ) μ m' ow led ce ox s' → Q () s') : wpAny (model G.prog G.w) A (storeName f.env x v) Q E s :=
  storeX_L S.S.F S.S.N (fun h' F N => hQ _ _ (S.set hl rv F N)) H.kind hl
theorem assign_none (e : PySem.Expr) (t : Option PySem.Expr) (line : Nat) (env : Env) (h : match e with | .ListComp _ _ _ _ => False | .SetComp _ _ _ _ => False | .DictComp _ _ _ _ _ => False | _ => True) : swapsWith e t line env = pure false := by
  cases e <;> first | exact h.elim | rfl
variable (H : FrameOk G K h₀ f s₀ A XN cx p loose mg mb)
include H
theorem SNow.hn (S : SNow G K h₀ f s₀ ow0 led0 ce0 ρ μ m ow led ce ox s) : HN A G K h₀ f.L m ow s₀ f.env cx ρ led ce := S.names H.kind H.top H.kin H.gl H.kinds H.nofree
theorem SNow.hx (S : SNow G K h₀ f s₀ ow0 led0 ce0 ρ μ m ow led ce ox s) {P} (hX : XThen XN ow0 led0 ce0 P E) : XThen XN ow led ce P E := (XThen.weak (XN := XN) (fun h q => (H.hyp m).xw h q) hX S.sub).after (fun h => (H.hyp m).xnd h) S.x
variable {EV : EF} {CV : CF} {SV : SF} (hE : ∀ m, SndE G K h₀ f.L m s₀ A XN cx.Φ EV) (hC : ∀ m, SndC G K h₀ f.L m s₀ A XN cx.Φ CV) (hS : SndS G K h₀ f s₀ A XN cx SV)
include hE
theorem return_sound {oe pos wf} : SndS1 G K h₀ f s₀ A XN cx (.Return oe pos) (fun ρ μ k => stepS SV EV CV wf cx ρ (.Return oe pos) μ k) := by
  intro ρ μ kn r ow0 led0 ce0 m ow led ce ox s Q E h hr S hN hR hX
  cases oe with
  | none => exact wpAny_Return_none (hR _ _ _ _ _ _ _ (S.S.weak S.sub) S.x .none h.symm)
  | some e =>
    refine wpAny_Return_some (hE m rfl (show EV cx ρ e μ .ret = r from h) hr S.S (S.hn H) (fun v d s1 l1 c1 μ1 S1 x1 rv h1 => ?_) (S.hx H hX))
    exact hR _ _ _ _ _ _ _ (S1.weak S.sub) (S.x.trans x1 S1.C.nodup) (rv.mono (fun u9 u9 q => q.weak S.sub) fun u9 u9 q => q) h1.symm
omit hE in
theorem pass_sound {pos wf} : SndS1 G K h₀ f s₀ A XN cx (.Pass pos) (fun ρ μ k => stepS SV EV CV wf cx ρ (.Pass pos) μ k) := by
  intro ρ μ kn r ow0 led0 ce0 m ow led ce ox s Q E h hr S hN hR hX
  exact wpAny_Pass (hN _ _ _ _ _ _ _ _ S h)
include hC hS
omit hE in
theorem if_sound {t b o pos wf} : SndS1 G K h₀ f s₀ A XN cx (.If t b o pos) (fun ρ μ k => stepS SV EV CV wf cx ρ (.If t b o pos) μ k) := by
  intro ρ μ kn r ow0 led0 ce0 m ow led ce ox s Q E h hr S hN hR hX
  refine wpAny_If (hC m rfl (show (CV cx ρ t μ fun c μ => ifS c (SV cx ρ b μ kn) (SV cx ρ o μ kn)) = r from h) hr S.S (S.hn H) (fun c s1 l1 c1 μ1 S1 x1 h1 => ?_) (S.hx H hX))
  cases c with
  | true => exact hS h1 hr (S.ext S1 x1) hN hR hX
  | false => exact hS h1 hr (S.ext S1 x1) hN hR hX
omit hC hS
omit hE in
theorem SNow.local_ (S : SNow G K h₀ f s₀ ow0 led0 ce0 ρ μ m ow led ce ox s) {x : Str} {a : V} (ha : nameV cx ρ x = some a) (hl : f.cs.names.lookup x = some .local) : ∃ v, VR G (In K ow ce led) ce v a ∧ m x = some v :=
  eEAA (S.R.val x _ (nameV_loc ha (by rw [H.kinds, look_lookup]; exact hl))) fun v r a1 u9 => ⟨v, r, a1 hl⟩
include hE
theorem aug_sound {t e pos wf} : SndS1 G K h₀ f s₀ A XN cx (.AugAssign t .FloorDiv e pos) (fun ρ μ k => stepS SV EV CV wf cx ρ (.AugAssign t .FloorDiv e pos) μ k) := by
  intro ρ μ kn r ow0 led0 ce0 m ow led ce ox s Q E h hr S hN hR hX
  refine byC fun hg => ?_
  refine eEA (optS_is (show (optS (nameOf t) fun q => optS (nameV cx ρ q.1) fun a => fitS (isLocal cx q.1) (EV cx ρ e μ fun b μ => optS (binV .FloorDiv a b) fun v => kn (put q.1 (.val v) ρ) μ)) = r from h) hr) fun q hq h1 => ?_
  clear h
  refine eEA (optS_is h1 hr) fun a ha h2 => ?_
  obtain ⟨hl, h3⟩ := fitS_is h2 hr
  refine hg ?_
  clear hg
  have hl' := isLocal_is hl H.kinds
  refine byC fun hg => ?_
  refine eEA (S.local_ H ha hl') fun v rv hm => ?_
  refine hg ?_
  clear hg
  rw [nameOf_is hq]
  refine wpAny_AugAssign_Name (wpAny_loadName_local H.kind hl' S.S.F.ns hm ?_)
  refine hE m rfl h3 hr S.S (S.hn H) (fun vb b s1 l1 c1 μ1 S1 x1 rb h1 => ?_) (S.hx H hX)
  refine byC fun hg => ?_
  refine eEA (optS_is h1 hr) fun d hd h4 => ?_
  refine eEEEEAA (ints_of (f := fun x y => match small y, decide (y = 0) with | true, false => some (.int (x.fdiv y)) | _, _ => none) hd (rv.ext x1) rb) fun x y t u ee4 ee5 h5 => ?_
  subst ee4
  subst ee5
  refine eAA (bit2_of h5) fun hy h0 ee2 => ?_
  subst ee2
  refine hg ?_
  clear hg
  have hy' : y.natAbs < 2 ^ 40 := of_decide_eq_true hy
  have hl : y.natAbs.log2 < 40 := (Nat.log2_lt (by have := of_decide_eq_false h0; omega)).mpr hy'
  refine ifloordiv_int (of_decide_eq_false h0) ?_ (.inl ?_)
  · exact store_sound H (S.ext (S1.toks _) x1) hl' .int (fun m' s' S' => hN _ _ _ _ _ _ _ _ S' h4)
  · unfold Builtin.divisionGoesByPylong
    simp only [Bool.and_eq_false_iff, decide_eq_false_iff_not]
    left
    split <;> omega
omit H hE in
theorem newList_is {e : PySem.Expr} {p : Pos} (h : emptyList e = some p) : e = .List [] p := by
  cases e with
  | List es q => cases es with
    | nil => exact Option.some.inj h ▸ rfl
    | cons => exact no_of h
  | _ => exact no_of h
omit H hE in
theorem plain_or (e : PySem.Expr) : (match e with | .ListComp _ _ _ _ => False | .SetComp _ _ _ _ => False | .DictComp _ _ _ _ _ => False | _ => True) ∨ (∃ a b c d, e = .ListComp a b c d) ∨ otherComp e = true := by
  cases e <;> first | exact .inl True.intro | exact .inr (.inl ⟨_, _, _, _, rfl⟩) | exact .inr (.inr rfl)
theorem assign_name_sound {x e pos np wf} (hA : SndCA G K h₀ f s₀ A XN cx EV) : SndS1 G K h₀ f s₀ A XN cx (.Assign [.Name x np] e pos) (fun ρ μ k => stepS SV EV CV wf cx ρ (.Assign [.Name x np] e pos) μ k) := by
  intro ρ μ kn r ow0 led0 ce0 m ow led ce ox s Q E h hr S hN hR hX
  have h : (match emptyList e with
    | some pos => fitS (!(cx.isCell pos)) (fitS (isLocal cx x) (fitS (ownFree ρ) (kn (put x (.own []) ρ) μ)))
    | none => fitS (isLocal cx x) (fitS (!(otherComp e)) (fitS (compTo x np e) (EV cx ρ e μ fun v μ => kn (put x (.val v) ρ) μ)))) = r := h
  cases hl0 : emptyList e with
  | some lpos =>
    rw [hl0] at h
    refine byC fun hg => ?_
    obtain ⟨u9, h1⟩ := fitS_is h hr
    obtain ⟨hl, h2⟩ := fitS_is h1 hr
    obtain ⟨ho, h3⟩ := fitS_is h2 hr
    refine hg ?_
    clear hg
    have hl' := isLocal_is hl H.kinds
    rw [newList_is hl0]
    refine wpAny_Assign_Name (List_ (spliced_nil (newList_N S.S.F S.S.N (fun h2 F2 N2 => ?_) (by decide))))
    have hf : ∀ p ∈ led, p.1 ≠ s.heap.objs.size := fun p hp => Nat.ne_of_lt (S.S.fresh p hp)
    have S2 := S.S.open_ (o := lstObj [] 0) F2 N2 hf s.toks
    refine storeX_L S2.F S2.N (fun h3' F3 N3 => ?_) H.kind hl'
    exact hN _ _ _ (s.heap.objs.size :: ow) ((s.heap.objs.size, lstObj [] 0) :: led) ce (some (x, s.heap.objs.size, [])) _ (S.newOwn hl' (isLocal_nd hl) ho S2 F3 N3) h3
  | none =>
    rw [hl0] at h
    refine byC fun hg => ?_
    obtain ⟨hl, h1⟩ := fitS_is h hr
    obtain ⟨ho, h2⟩ := fitS_is h1 hr
    obtain ⟨hct, h3⟩ := fitS_is h2 hr
    refine hg ?_
    clear hg
    have hl' := isLocal_is hl H.kinds
    rcases plain_or e with hc | ⟨a, b, c, d, rfl⟩ | hc
    · refine wpAny_Assign_Name (hE m rfl h3 hr S.S (S.hn H) (fun v d s1 l1 c1 μ1 S1 x1 rv h1 => ?_) (S.hx H hX)) (assign_none _ _ _ _ hc)
      exact store_sound H (S.ext S1 x1) hl' rv (fun m' s' S' => hN _ _ _ _ _ _ _ _ S' h1)
    · exact hA hl hct h3 hr S hN hX
    · rw [hc] at ho; exact Bool.noConfusion ho
end
end Mine

end

section
namespace Mine
open PySem PySem.W PySem.Calls PyProof.Rows
theorem nodup_rev {α : Type} {l : List α} (h : l.Nodup) : l.reverse.Nodup := List.pairwise_reverse.mpr (List.Pairwise.imp (fun h e => h e.symm) h)
theorem zip_rev {α β : Type} {l : List α} {r : List β} (h : l.length = r.length) : (l.zip r).reverse = l.reverse.zip r.reverse := List.reverse_zipWith h
noncomputable def putsL : List (Str × V) → Rho → Rho
  | [], ρ => ρ
  | p :: r, ρ => putsL r (put p.1 (.val p.2) ρ)
theorem look_putsL_not {y : Str} : ∀ {l : List (Str × V)} {ρ}, y ∉ l.map (·.1) → look y (putsL l ρ) = look y ρ
  | [], _, _ => rfl
  | p :: r, ρ, h => by
    simp only [List.map_cons, List.mem_cons, not_or] at h
    rw [putsL, look_putsL_not h.2, look_put_ne h.1]
theorem look_putsL_mem {y : Str} {d : V} : ∀ {l : List (Str × V)} {ρ}, (l.map (·.1)).Nodup → (y, d) ∈ l → look y (putsL l ρ) = some (.val d)
  | p :: r, ρ, hn, h => by
    simp only [List.map_cons, List.nodup_cons] at hn
    rw [putsL]
    rcases List.mem_cons.mp h with rfl | h
    · rw [look_putsL_not hn.1, look_put_self]
    · exact look_putsL_mem hn.2 h
theorem putsL_rev {l : List (Str × V)} {ρ : Rho} (hn : (l.map (·.1)).Nodup) (y : Str) : look y (putsL l.reverse ρ) = look y (putsL l ρ) := by
  by_cases h : y ∈ l.map (·.1)
  · refine eEA (List.mem_map.mp h) fun yy0 hm ee2 => ?_
    obtain ⟨y', d⟩ := yy0
    subst ee2
    rw [look_putsL_mem hn hm, look_putsL_mem (by rw [List.map_reverse]; exact nodup_rev hn) (List.mem_reverse.mpr hm)]
  · rw [look_putsL_not h, look_putsL_not (by rw [List.map_reverse, List.mem_reverse]; exact h)]
section
variable {A : Around} {XN : XNT} {Φ : Nat → List V → Mu → Res} {E : Value → Shared → Prop}
variable {G : Gx} {K : Frag} {h₀ h' : Heap} {d : Addr} {m : Str → Option Value} {ow ow0 : List Addr} {s₀ s : Shared} {led led0 : List (Addr × Obj)} {ce ce0 : List Addr} {μ : Mu} {f : Fx} {ρ : Rho} {ox : Option (Str × Addr × List V)}
variable {p : Program} {loose : List Str} {mg mb : Str → Option Value} {cx : Cx} {r : Res}
theorem SNow.congr {ρ' : Rho} (S : SNow G K h₀ f s₀ ow0 led0 ce0 ρ μ m ow led ce ox s) (h : ∀ y, look y ρ = look y ρ') : SNow G K h₀ f s₀ ow0 led0 ce0 ρ' μ m ow led ce ox s :=
  ⟨S.S, ⟨fun y d e => S.R.val y d ((h y).trans e), fun y l e => S.R.own y l ((h y).trans e)⟩, S.x, S.sub, S.fresh, S.own⟩
theorem bindName_is {v : V} {t : PySem.Expr} {ρ ρ' : Rho} (h : bindName cx v t ρ = some ρ') : ∃ x p, t = .Name x p ∧ isLocal cx x = true ∧ put x (.val v) ρ = ρ' := by
  cases t with
  | Name x p =>
    replace h : (match isLocal cx x with | true => some (put x (.val v) ρ) | false => none) = some ρ' := h
    cases q : isLocal cx x with
    | true => rw [q] at h; exact ⟨x, p, rfl, q, Option.some.inj h⟩
    | false => rw [q] at h; exact no_of h
  | _ => exact no_of h
theorem bindAll_is {vs : List V} : ∀ {ts ρ ρ'}, bindAll cx vs ts ρ = some ρ' → allNames ts = true ∧ ts.length = vs.length ∧ ρ' = putsL ((namesOf ts).zip vs) ρ ∧ ∀ x ∈ namesOf ts, isLocal cx x = true := by
  induction vs with
  | nil => intro ts ρ ρ' h; cases ts with
    | nil => exact iAAA rfl rfl (Option.some.inj h).symm (fun x h => nomatch h)
    | cons t ts => exact no_of h
  | cons v vs ih => intro ts ρ ρ' h; cases ts with
    | nil => exact no_of h
    | cons t ts =>
      refine byC fun hg => ?_
      replace h : (match bindName cx v t ρ with | some ρ => bindAll cx vs ts ρ | none => none) = some ρ' := h
      cases q : bindName cx v t ρ with
      | none => rw [q] at h; exact no_of h
      | some ρ1 =>
        rw [q] at h
        refine eEEAA (bindName_is q) fun x p e1 hl e2 => ?_
        subst e1
        refine eAAA (ih h) fun a b c d => ?_
        refine hg (iAAA a (congrArg (· + 1) b) (c.trans (e2 ▸ rfl)) fun y hy => ?_)
        rcases List.mem_cons.mp hy with e | hy
        · exact e ▸ hl
        · exact d y hy
noncomputable def StoresTo (G : Gx) (A : Around) (f : Fx) (t : Value → Sem Unit) (x : Str) : Prop := ∀ {v : Value} {Q : Unit → Shared → Prop} {E : Value → Shared → Prop} {s : Shared}, wpAny (model G.prog G.w) A (storeName f.env x v) Q E s → wpAny (model G.prog G.w) A (t v) Q E s
inductive AllStore (G : Gx) (A : Around) (f : Fx) : List (Value → Sem Unit) → List Str → Prop
  | nil : AllStore G A f [] []
  | cons {t x ts xs} : StoresTo G A f t x → AllStore G A f ts xs → AllStore G A f (t :: ts) (x :: xs)
variable (H : FrameOk G K h₀ f s₀ A XN cx p loose mg mb)
include H
theorem stores_sound : ∀ {ts : List (Value → Sem Unit)} {xs : List Str} {us ds ρ m s} {Q : Unit → Shared → Prop}, AllStore G A f ts xs → VRs G (In K ow ce led) ce us ds → xs.length = ds.length → (∀ x ∈ xs, isLocal cx x = true) → SNow G K h₀ f s₀ ow0 led0 ce0 ρ μ m ow led ce ox s →
    (∀ m' s', SNow G K h₀ f s₀ ow0 led0 ce0 (putsL (xs.zip ds) ρ) μ m' ow led ce ox s' → Q () s') → wpAny (model G.prog G.w) A (assignInOrder ts us) Q E s := by
  intro ts xs us ds ρ m s Q ha
  induction ha generalizing us ds ρ m s with
  | nil =>
    intro rs hl hloc S hQ
    cases rs with
    | nil => exact wpAny_pure (hQ _ _ S)
    | cons => simp at hl
  | cons h1 h2 ih =>
    intro rs hl hloc S hQ
    cases rs with
    | nil => simp at hl
    | cons rv rs =>
      show wpAny (model G.prog G.w) A (do holding _ (_); assignInOrder _ _) Q E s
      refine wpAny_bind (wpAny_holding (h1 (store_sound H S (isLocal_is (hloc _ (.head _)) H.kinds) rv fun m' s' S' => ?_)))
      exact ih rs (by simpa using hl) (fun y hy => hloc y (.tail _ hy)) S' hQ
omit H in
theorem stores_rev {ts : List (Value → Sem Unit)} {xs : List Str} (h : AllStore G A f ts xs) : ∀ {us ys}, AllStore G A f us ys → AllStore G A f (ts.reverse ++ us) (xs.reverse ++ ys) := by
  induction h with
  | nil => exact fun h => h
  | cons a b ih => intro us ys h; simp only [List.reverse_cons, List.append_assoc]; exact ih (.cons a h)
omit H in
theorem VRs.reverse {I} {vs ds} (h : VRs G I ce vs ds) : VRs G I ce vs.reverse ds.reverse := by
  induction vs generalizing ds with
  | nil => cases h; exact .nil
  | cons v vs ih =>
    cases h with
    | cons a b => simp only [List.reverse_cons]; exact VRs.append (ih b) (.cons a .nil)
omit H in
theorem each_stores {ts : List PySem.Expr} : allNames ts = true → AllStore G A f ((assignEach ts f.env).map (·.2)) (namesOf ts) ∧ (assignEach ts f.env).length = ts.length ∧ (assignEach ts f.env).findIdx? (·.1) = none := by
  induction ts with
  | nil => intro _; exact ⟨.nil, rfl, rfl⟩
  | cons t ts ih =>
    intro h
    obtain ⟨h1, h2⟩ := Bool.and_eq_true_iff.mp h
    cases t with
    | Name x pp =>
      refine byC fun hg => ?_
      refine eAA (ih h2) fun a b c => ?_
      refine hg (iAA (.cons (fun hq => PyProof.Rows.assign_Name hq) a) (congrArg (· + 1) b) ?_)
      show List.findIdx? _ ((false, _) :: assignEach ts f.env) = none
      rw [List.findIdx?_cons, c]; rfl
    | _ => exact Bool.noConfusion h1
variable {EV : EF} {CV : CF} {SV : SF} (hE : ∀ m, SndE G K h₀ f.L m s₀ A XN cx.Φ EV)
include hE
omit H hE in
set_option tactic.hygienic true in
theorem swapOk_is {ts : List PySem.Expr} {e : PySem.Expr} (h : swapOk ts e = true) : nodupS (namesOf ts) = true ∧ allNames ts = true ∧ ∀ n tp l env, swapsWith e (some (.Tuple ts n tp)) l env = pure false := by
  unfold swapOk at h
  split at h
  · rename_i h1 h2
    exact iAA h1 h2 (fun n tp l env => by cases e <;> first | rfl | exact Bool.noConfusion h)
  · exact Bool.noConfusion h
theorem assign_tuple_sound {ts n tp e pos wf} : SndS1 G K h₀ f s₀ A XN cx (.Assign [.Tuple ts n tp] e pos) (fun ρ μ k => stepS SV EV CV wf cx ρ (.Assign [.Tuple ts n tp] e pos) μ k) := by
  intro ρ μ kn r ow0 led0 ce0 m ow led ce ox s Q E h hr S hN hR hX
  refine byC fun hg => ?_
  obtain ⟨hok, h0⟩ := fitS_is (show fitS (swapOk ts e) (EV cx ρ e μ fun v μ => withTup v fun vs => optS (bindAll cx vs ts ρ) fun ρ => kn ρ μ) = r from h) hr
  clear h
  refine eAA (swapOk_is hok) fun hnd0 hall hsw0 => ?_
  refine hg ?_
  clear hg
  have hsw : swapsWithSole [.Tuple ts n tp] e pos.line f.env = pure false := hsw0 n tp pos.line f.env
  -- the value, then the stores
  have key : ∀ {Q' : Value → Shared → Prop}, (∀ a us ds ρ' s1 l1 c1 μ1, SNow G K h₀ f s₀ ow0 led0 ce0 ρ μ1 m ow l1 c1 ox s1 → ITup (In K ow c1 l1) a us → VRs G (In K ow c1 l1) c1 us ds → bindAll cx ds ts ρ = some ρ' → kn ρ' μ1 = r → Q' (.ref a) s1) →
      wpAny (model G.prog G.w) A (eval e f.env) Q' E s := fun {Q'} hq => by
    refine hE m rfl h0 hr S.S (S.hn H) (fun v d s1 l1 c1 μ1 S1 x1 rv h1 => ?_) (S.hx H hX)
    refine byC fun hg => ?_
    refine eEA (withTup_is h1 hr) fun vs ee1 h2 => ?_
    subst ee1
    refine eEA (optS_is h2 hr) fun ρ' hb h3 => ?_
    refine eEEAA (rv.inv) fun a us ee2 t1 t2 => ?_
    subst ee2
    refine hg ?_
    clear hg
    exact hq _ _ _ _ _ _ _ _ (S.ext S1 x1) t1 t2 hb h3
  · have hnd : (namesOf ts).Nodup := nodupS_iff hnd0
    refine byC fun hg => ?_
    refine eAA (each_stores (G := G) (A := A) (f := f) hall) fun e1 e2 e3 => ?_
    refine hg ?_
    clear hg
    rcases swapped_cases (k := n) (p := tp) (env := f.env) hok hall with hw | hw
    · refine Assign_Tuple (key fun a us ds ρ' s1 l1 c1 μ1 S1 t1 t2 hb hk => ?_) hsw hw
      refine byC fun hg => ?_
      refine eAAA (bindAll_is hb) fun zz b2 b3 b4 => ?_
      refine hg ?_
      clear hg
      refine unpackN_ S1.S.F S1.S.N (S1.S.tup t1) (H.hyp m).hh (by rw [e2, b2, List.size_toArray, t2.length]) e3 fun h2 F2 N2 => ?_
      have S2 : SNow G K h₀ f s₀ ow0 led0 ce0 ρ μ1 m ow l1 c1 ox { s1 with heap := h2 } := ⟨⟨F2, N2, S1.S.X, S1.S.big, S1.S.C, S1.S.O, let ⟨_, tk, e⟩ := S1.S.sm; ⟨h2, tk, by rw [e]⟩⟩, S1.R, S1.x, S1.sub, S1.fresh, S1.own⟩
      refine stores_sound H e1 t2 (by rw [namesOf_map hall, List.length_map, b2]) b4 S2 fun m' s' S' => ?_
      exact hN _ _ _ _ _ _ _ _ (b3 ▸ S') hk
    · refine Assign_Tuple_swapped (key fun a us ds ρ' s1 l1 c1 μ1 S1 t1 t2 hb hk => ?_) hsw hw
      refine byC fun hg => ?_
      refine eAAA (bindAll_is hb) fun zz b2 b3 b4 => ?_
      refine hg ?_
      clear hg
      have hlen : (namesOf ts).length = ds.length := by rw [namesOf_map hall, List.length_map, b2]
      refine unpackItemsN_ S1.S.F S1.S.N (S1.S.tup t1) (H.hyp m).hh (by rw [hlen, List.size_toArray, t2.length]) fun h2 F2 N2 => ?_
      have S2 : SNow G K h₀ f s₀ ow0 led0 ce0 ρ μ1 m ow l1 c1 ox { s1 with heap := h2 } := ⟨⟨F2, N2, S1.S.X, S1.S.big, S1.S.C, S1.S.O, let ⟨_, tk, e⟩ := S1.S.sm; ⟨h2, tk, by rw [e]⟩⟩, S1.R, S1.x, S1.sub, S1.fresh, S1.own⟩
      have hst : AllStore G A f ((namesOf ts).reverse.map fun n => PySem.bindName f.env n) (namesOf ts).reverse := by
        generalize (namesOf ts).reverse = l
        induction l with
        | nil => exact .nil
        | cons x l ih => exact .cons (fun hq => PyProof.Rows.bindName_ hq) ih
      refine stores_sound H hst t2.reverse (by simp [hlen]) (fun x hx => b4 x (List.mem_reverse.mp hx)) S2 fun m' s' S' => ?_
      refine hN _ _ _ _ _ _ _ _ (S'.congr fun y => ?_) hk
      rw [b3, ← zip_rev hlen]
      exact putsL_rev (by rw [List.map_fst_zip (by lia)]; exact hnd) y
end
end Mine

end

section
namespace Mine
open PySem PySem.W PySem.Calls PyProof.Rows
section
variable {A : Around} {XN : XNT} {Φ : Nat → List V → Mu → Res} {E : Value → Shared → Prop}
variable {G : Gx} {K : Frag} {h₀ h' : Heap} {L d a : Addr} {m : Str → Option Value} {ow ow0 : List Addr} {s₀ s : Shared} {led led0 : List (Addr × Obj)} {ce ce0 : List Addr} {μ : Mu} {f : Fx} {ρ : Rho} {ox : Option (Str × Addr × List V)}
variable {p : Program} {loose : List Str} {mg mb : Str → Option Value} {cx : Cx} {r : Res}
theorem SNow.grow {x : Str} {l l' : List V} {vs : List Value} {n : Nat} (S : SNow G K h₀ f s₀ ow0 led0 ce0 ρ μ m ow led ce (some (x, a, l)) s) (hx : look x ρ = some (.own l))
    (hs : Heap.SameBut a s.heap h') (hg : h'.get? a = some (lstObj vs n)) (rs : VRs G (In K ow ce led) ce vs l') (tk : Nat) :
    SNow G K h₀ f s₀ ow0 led0 ce0 (put x (.own l') ρ) μ m ow (upd led a (lstObj vs n)) ce (some (x, a, l')) { s with heap := h', toks := tk } := by
  refine byC fun hg => ?_
  refine eAAEEA (S.own x a l rfl) fun h1 h2 us k h3 h4 => ?_
  refine eEAAA (S.R.own x l hx) fun a' e hm hloc hnd => ?_
  refine hg ?_
  clear hg
  cases e
  refine ⟨S.S.setAt h1 h3 hs hg tk, ⟨fun y d' e => ?_, fun y l2 e => ?_⟩, S.x.upd (S.fresh a h1 h2), S.sub, S.fresh, fun y b l2 e => ?_⟩
  · by_cases hy : y = x
    · subst hy; rw [look_put_self] at e; cases e
    · rw [look_put_ne hy] at e
      refine byC fun hg => ?_
      refine eEAA (S.R.val y d' e) fun v' r' q1 q2 => ?_
      refine hg ?_
      clear hg
      refine iEAA v' (r'.mono (fun u9 u9 q => q.upd h1) (fun u9 u9 q => q)) q1 (fun q => ?_)
      refine byC fun hg => ?_
      refine eEEAAAA (q2 q) fun c o w1 w2 w3 w4 w5 => ?_
      refine hg ?_
      clear hg
      exact iEEAAAA c o w1 (upd_ne w2 (fun e => w5 (by rw [show c = a from e]; exact h1))) w3 w4 w5
  · by_cases hy : y = x
    · subst hy; rw [look_put_self] at e; cases e
      exact iEAAA a rfl hm hloc hnd
    · rw [look_put_ne hy] at e
      refine byC fun hg => ?_
      refine eEA (S.R.own y l2 e) fun b e' zz => ?_
      refine hg ?_
      clear hg
      cases e'; exact absurd rfl hy
  · cases e
    exact iAAEEA h1 h2 vs n (upd_self h3) (rs.mono (fun u9 u9 q => q.upd h1) fun u9 u9 q => q)
theorem Now.cellSet {L} (S : Now G K h₀ L m ow s₀ led ce μ s) {i : Nat} {l l' : List V} (hl : μ[i]? = some l) (ha : ce[i]? = some a) {vs us : List Value} {n k : Nat} (hm : (a, lstObj us k) ∈ led)
    (hs : Heap.SameBut a s.heap h') (hg : h'.get? a = some (lstObj vs n)) (rs : VRs G (In K ow ce led) ce vs l') (tk : Nat) :
    Now G K h₀ L m ow s₀ (upd led a (lstObj vs n)) ce (μ.set i l') { s with heap := h', toks := tk } ∧ Ext led ce (upd led a (lstObj vs n)) ce := by
  have hac : a ∈ ce := List.mem_of_getElem? ha
  have inU : ∀ b o, In K ow ce led b o → In K ow ce (upd led a (lstObj vs n)) b o := fun b o q => by
    rcases q with ⟨q1, q2, q3⟩ | q
    · exact .inl ⟨upd_ne q1 (fun e => q3 (by rw [show b = a from e]; exact hac)), q2, q3⟩
    · exact .inr q
  refine ⟨⟨fr_updAt S.F S.N hm hs, news_updAt S.N hm hs hg, S.X, S.big, ⟨by simp [S.C.len], S.C.nodup, S.C.off, fun j lj e => ?_⟩, fun b hb => ?_, let ⟨_, _, e⟩ := S.sm; ⟨h', tk, by rw [e]⟩⟩,
    ⟨⟨[], by simp, by simp⟩, fun p hp hc => upd_ne hp fun e => hc (by rw [e]; exact hac)⟩⟩
  · by_cases hj : j = i
    · subst hj
      have hlt : j < μ.length := (List.getElem?_eq_some_iff.mp hl).1
      rw [List.getElem?_set_self hlt] at e
      cases e
      exact iEEEAA a vs n ha (upd_self hm) (rs.mono inU fun u9 u9 q => q)
    · rw [List.getElem?_set_ne (fun e => hj e.symm)] at e
      refine byC fun hg => ?_
      refine eEEEAA (S.C.at_ j lj e) fun b ws w x y z => ?_
      refine hg ?_
      clear hg
      refine iEEEAA b ws w x (upd_ne y (fun e => hj ?_)) (z.mono inU fun u9 u9 q => q)
      have e' : b = a := e
      subst e'
      exact (List.getElem?_inj (List.getElem?_eq_some_iff.mp x).1 S.C.nodup).mp (x.trans ha.symm)
  · obtain ⟨o, ho⟩ := S.O b hb
    exact ⟨o, upd_ne ho fun e => S.C.off a hac (by rw [← show b = a from e]; exact hb)⟩
theorem lst_size {vs : List Value} {l : List V} {I} (rs : VRs G I ce vs l) {n : Nat} (h : Nat.blt l.length n = true) : vs.length < n := by
  have := Nat.blt_eq.mp h; rw [rs.length]; exact this
theorem machine_kept (n : String) (h : Heap) : ∃ k, (k = Keeper.frame ∨ k = Keeper.machine ∨ k = Keeper.boundFrame) ∧ Looks (model G.prog G.w) h (keeperOf (.builtin n)) k := ⟨.machine, .inr (.inl rfl), .now⟩
theorem evList_one {EV : EF} {e : PySem.Expr} {k : List V → Mu → Res} (h : noStar [e] = true) : evList EV cx ρ [e] μ k = EV cx ρ e μ fun v μ => k [v] μ := by
  simp only [noStar, List.all_cons, List.all_nil, Bool.and_true, Bool.not_eq_true'] at h
  simp only [evList, h]
theorem append_raw {vs : List Value} {n : Nat} {v : Value} {Q : Value → Shared → Prop} (hg : s.heap.get? a = some (lstObj vs n)) (hsz : vs.length < 100000)
    (hQ : ∀ h' k, h'.get? a = some (lstObj (vs ++ [v]) k) → Heap.SameBut a s.heap h' → Q .none { s with heap := h' }) : wpAny (model G.prog G.w) A (call (.builtin "list.append") [.ref a, v]) Q E s := by
  refine wpAny_list_append_plain (items := vs.toArray) ⟨n, hg⟩ (fun h' hp hs => ?_) (by have := sizeLine_big; simp only [List.size_toArray]; lia)
  obtain ⟨k, e⟩ := hp
  exact hQ h' k (by rw [e]; simp [lstObj]) hs
theorem extend_any (l : Addr) (items : Array Value) (n : Nat) (b : Addr) (dd : Option Addr) (sl : Array (Option Value)) (items2 : Array Value) (n2 : Nat) (hc0 : ¬(!items.isEmpty && Builtin.List.listTooLong (items.size + items2.size)) = true) (hc1 : items.size ≤ sizeLine) (hs2 : items.size + items2.size ≤ sizeLine + 1) :
    Meets (Builtin.«list.extend» ⟨[.ref l, .ref b], []⟩) (fun u9 R s => s.heap.get? l = some { cls := .type "list", dict := none, data := .seq items n, slots := #[] } ∧ s.heap.get? b = some { cls := .type "list", dict := dd, data := .seq items2 n2, slots := sl } ∧ R (.ok (.ret Value.none)) { s with heap := s.heap.update l (Obj.mapSeq fun x => x ++ items2), toks := s.toks }) :=
  .of_wp fun prog w A R s h => by
    refine byC fun hg => ?_
    obtain ⟨hp, g, d, tk, os⟩ := s
    obtain ⟨hl, hb, h⟩ := h
    refine hg ?_
    clear hg
    have f1 := AutoSeq1.idx_int
    have f2 := AutoSeq1.sub_tuple_tuple
    have f3 := AutoSeq1.sub_list_list
    have f4 := AutoSeq1.sub_tuple_list
    have f5 := AutoSeq1.sub_list_tuple
    have hz' : (items ++ items2).size ≤ sizeLine + 1 := by rw [Array.size_append]; exact hs2
    wp_walk using (wpAny_updateSeq hl rfl (hz := hc1) (_hz' := hz')), AutoSeq1.wpAny_loadPart' hl, AutoSeq1.wpAny_loadPart' hb
    exact iEA _ rfl h
theorem extend_raw {b : Addr} {vs us : List Value} {n k : Nat} {Q : Value → Shared → Prop} (hg : s.heap.get? a = some (lstObj vs n)) {dd : Option Addr} {sl : Array (Option Value)} (hb : s.heap.get? b = some ⟨.type "list", dd, .seq us.toArray k, sl⟩) (hsz : vs.length + us.length < 100000)
    (hQ : ∀ h' k, h'.get? a = some (lstObj (vs ++ us) k) → Heap.SameBut a s.heap h' → Q .none { s with heap := h' }) : wpAny (model G.prog G.w) A (call (.builtin "list.extend") [.ref a, .ref b]) Q E s := by
  have hsz' : vs.toArray.size + us.toArray.size ≤ sizeLine := by have := sizeLine_big; simp only [List.size_toArray]; lia
  refine call_meets PySem.F.slot_list_extend ⟨_, hg, rfl⟩ PySem.F.entry_list_extend (PySem.F.args_list_extend_2 _ _) (extend_any a vs.toArray n b dd sl us.toArray k (extend_door hsz') (Nat.le_trans (Nat.le_add_right _ _) hsz') (Nat.le_succ_of_le hsz')) ⟨hg, hb, ?_⟩
  have e : vs.toArray ++ us.toArray = (vs ++ us).toArray := by simp
  have ho' : (s.heap.update a (Obj.mapSeq fun x => x ++ us.toArray)).get? a = some (lstObj (vs ++ us) (if (vs.toArray ++ us.toArray).size == vs.toArray.size then n else n + 1)) := by
    rw [Heap.get?_update_self _ hg (by rw [mapSeq_app]; rfl), mapSeq_app, e]
  exact hQ _ _ ho' (Heap.SameBut.update ..)
variable (H : FrameOk G K h₀ f s₀ A XN cx p loose mg mb)
include H
theorem own_eval {x : Str} {l : List V} {pos : Pos} {Q : Value → Shared → Prop} (S : SNow G K h₀ f s₀ ow0 led0 ce0 ρ μ m ow led ce ox s) (hx : look x ρ = some (.own l)) (hQ : ∀ a, ox = some (x, a, l) → Q (.ref a) s) :
    wpAny (model G.prog G.w) A (eval (.Name x pos) f.env) Q E s := by
  refine byC fun hg => ?_
  refine eEAAA (S.R.own x l hx) fun a e hm hl hd => ?_
  refine hg ?_
  clear hg
  exact nameX_L S.S.F hm (hQ a e) H.kind hl hd
theorem f_inter : interactive f.env = false := by unfold interactive; rw [show f.env.scope.kind = .function from H.kind]; rfl
variable {EV : EF} {CV : CF} {SV : SF} (hE : ∀ m, SndE G K h₀ f.L m s₀ A XN cx.Φ EV)
include hE
omit H hE in
theorem one1_is {as : List PySem.Expr} {ks : List Keyword} {a : PySem.Expr} (h : one1 as ks = some a) : as = [a] ∧ ks = [] := by
  match as, ks, h with
  | [b], [], h => exact Option.some.inj h ▸ ⟨rfl, rfl⟩
  | [_], _ :: _, h => exact no_of h
  | [], _, h => exact no_of h
  | _ :: _ :: _, _, h => exact no_of h
omit H hE in
theorem two2_is {as : List PySem.Expr} {ks : List Keyword} {a : PySem.Expr × PySem.Expr} (h : two2 as ks = some a) : as = [a.1, a.2] ∧ ks = [] := by
  match as, ks, h with
  | [b, c], [], h => exact Option.some.inj h ▸ ⟨rfl, rfl⟩
  | [_, _], _ :: _, h => exact no_of h
  | [], _, h => exact no_of h
  | [_], _, h => exact no_of h
  | _ :: _ :: _ :: _, _, h => exact no_of h
omit H hE in
theorem meth1_is {e : PySem.Expr} {q : PySem.Expr × Str × Pos × PySem.Expr × Pos} (h : meth1 e = some q) : e = .Call (.Attribute q.1 q.2.1 q.2.2.1) [q.2.2.2.1] [] q.2.2.2.2 := by
  cases e with
  | Call f as ks pos =>
    refine byC fun hg => ?_
    refine eEA (Option.bind_eq_some_iff.mp (show ((attrOf f).bind fun q => (one1 as ks).map fun a => (q.1, q.2.1, q.2.2, a, pos)) = some q from h)) fun p hp h1 => ?_
    refine eEA (Option.map_eq_some_iff.mp h1) fun a ha e => ?_
    refine hg ?_
    clear hg
    rw [attrOf_is hp, (one1_is ha).1, (one1_is ha).2, ← e]
  | _ => exact no_of h
omit H hE in
theorem call1_is {e : PySem.Expr} {q : PySem.Expr × PySem.Expr × Pos} (h : call1 e = some q) : e = .Call q.1 [q.2.1] [] q.2.2 := by
  cases e with
  | Call f as ks pos =>
    refine byC fun hg => ?_
    refine eEA (Option.map_eq_some_iff.mp (show ((one1 as ks).map fun a => (f, a, pos)) = some q from h)) fun a ha e => ?_
    refine hg ?_
    clear hg
    rw [(one1_is ha).1, (one1_is ha).2, ← e]
  | _ => exact no_of h
omit H hE in
theorem call2_is {e : PySem.Expr} {q : Str × Pos × PySem.Expr × PySem.Expr × Pos} (h : call2 e = some q) : e = .Call (.Name q.1 q.2.1) [q.2.2.1, q.2.2.2.1] [] q.2.2.2.2 := by
  cases e with
  | Call f as ks pos =>
    refine byC fun hg => ?_
    refine eEA (Option.bind_eq_some_iff.mp (show ((nameOf f).bind fun q => (two2 as ks).map fun a => (q.1, q.2, a.1, a.2, pos)) = some q from h)) fun p hp h1 => ?_
    refine eEA (Option.map_eq_some_iff.mp h1) fun a ha e => ?_
    refine hg ?_
    clear hg
    rw [nameOf_is hp, (two2_is ha).1, (two2_is ha).2, ← e]
  | _ => exact no_of h
omit H hE in
theorem ownOf_is {o : PySem.Expr} {q : Str × List V} (h : ownOf ρ o = some q) : ∃ p, o = .Name q.1 p ∧ look q.1 ρ = some (.own q.2) := by
  cases o with
  | Name x p =>
    have h : (match look x ρ with | some (.own l) => some (x, l) | _ => none) = some q := h
    cases hl : look x ρ with
    | none => rw [hl] at h; exact no_of h
    | some sl =>
      rw [hl] at h
      cases sl with
      | own l => exact Option.some.inj h ▸ ⟨p, rfl, hl⟩
      | val v => exact no_of h
  | _ => exact no_of h
theorem own_append {x : Str} {a : Addr} {l : List V} {arg : PySem.Expr} {pos : Pos} {kn : Rho → Mu → Res} {r : Res} {Q : Value → Shared → Prop} (hns : noStar [arg] = true)
    (h : (EV cx ρ arg μ fun v μ => fitS (Nat.blt l.length 100000) (kn (put x (.own (l ++ [v])) ρ) μ)) = r) (hr : r ≠ .stuck) (S : SNow G K h₀ f s₀ ow0 led0 ce0 ρ μ m ow led ce (some (x, a, l)) s) (hx : look x ρ = some (.own l))
    (hN : ∀ ρ' μ' m' ow' led' ce' ox' s', SNow G K h₀ f s₀ ow0 led0 ce0 ρ' μ' m' ow' led' ce' ox' s' → kn ρ' μ' = r → Q .none s') (hX : XThen XN ow0 led0 ce0 (fun n μ' => r = .exc n μ') E) {pl : Sem Bool} :
    wpAny (model G.prog G.w) A (getMethod (.ref a) (Str.ofString "append") pl) (fun fx s₂ => wpAny (model G.prog G.w) A (callWith pos fx.1 fx.2 (backTo pos (starEach [arg] f.env)) (backToKw pos [])) Q E s₂) E s := by
  refine byC fun hg => ?_
  refine eAAEEA (S.own x a l rfl) fun h1 h2 us n h3 h4 => ?_
  refine hg ?_
  clear hg
  refine getMethod_list_append (S.S.N _ h3).1 rfl rfl ?_
  refine callWith_plain (P := fun u9 => True) hns (fun u9 u9 => machine_kept _ _) ?_
  refine evList_sound (H.hyp m) (hE m) rfl (k := fun vs μ => arg1 vs fun v => fitS (Nat.blt l.length 100000) (kn (put x (.own (l ++ [v])) ρ) μ)) (by rw [evList_one hns]; exact h) hr S.S (S.hn H) (fun vs ds s1 l1 c1 μ1 S1 x1 rs h1 => ⟨trivial, ?_⟩) (S.hx H hX)
  refine byC fun hg => ?_
  refine eEA (arg1_is h1 hr) fun v ee1 h5 => ?_
  subst ee1
  obtain ⟨hlt, h6⟩ := fitS_is h5 hr
  refine hg ?_
  clear hg
  have S1' := S.ext S1 x1
  refine byC fun hg => ?_
  refine eAAEEA (S1'.own x a l rfl) fun h1' h2' us' n' h3' h4' => ?_
  refine eEA (rs.one) fun va ee1 rv => ?_
  subst ee1
  refine hg ?_
  clear hg
  refine append_raw (S1.N _ h3').1 (lst_size h4' hlt) fun h' k hg' hs' => ?_
  exact hN _ _ _ _ _ _ _ _ (S1'.grow hx hs' hg' (VRs.append h4' (.cons rv .nil)) _) h6
theorem own_extend {x : Str} {a : Addr} {l : List V} {arg : PySem.Expr} {pos : Pos} {kn : Rho → Mu → Res} {r : Res} {Q : Value → Shared → Prop} (hns : noStar [arg] = true)
    (h : (EV cx ρ arg μ fun v μ => withList v fun r => fitS (Nat.blt (l.length + r.length) 100000) (kn (put x (.own (l ++ r)) ρ) μ)) = r) (hr : r ≠ .stuck) (S : SNow G K h₀ f s₀ ow0 led0 ce0 ρ μ m ow led ce (some (x, a, l)) s) (hx : look x ρ = some (.own l))
    (hN : ∀ ρ' μ' m' ow' led' ce' ox' s', SNow G K h₀ f s₀ ow0 led0 ce0 ρ' μ' m' ow' led' ce' ox' s' → kn ρ' μ' = r → Q .none s') (hX : XThen XN ow0 led0 ce0 (fun n μ' => r = .exc n μ') E) {pl : Sem Bool} :
    wpAny (model G.prog G.w) A (getMethod (.ref a) (Str.ofString "extend") pl) (fun fx s₂ => wpAny (model G.prog G.w) A (callWith pos fx.1 fx.2 (backTo pos (starEach [arg] f.env)) (backToKw pos [])) Q E s₂) E s := by
  refine byC fun hg => ?_
  refine eAAEEA (S.own x a l rfl) fun h1 h2 us n h3 h4 => ?_
  refine hg ?_
  clear hg
  have hg := (S.S.N _ h3).1
  refine getMethod_list_of PySem.F.slot_list_extend PySem.F.type_list_extend ⟨_, hg, rfl, _, rfl⟩ ⟨_, hg, rfl⟩ ?_
  refine callWith_plain (P := fun u9 => True) hns (fun u9 u9 => machine_kept _ _) ?_
  refine evList_sound (H.hyp m) (hE m) rfl (k := fun vs μ => arg1 vs fun v => withList v fun r => fitS (Nat.blt (l.length + r.length) 100000) (kn (put x (.own (l ++ r)) ρ) μ)) (by rw [evList_one hns]; exact h) hr S.S (S.hn H) (fun vs ds s1 l1 c1 μ1 S1 x1 rs h1 => ⟨trivial, ?_⟩) (S.hx H hX)
  refine byC fun hg => ?_
  refine eEA (arg1_is h1 hr) fun v ee1 h5 => ?_
  subst ee1
  refine eEA (withList_is h5 hr) fun lr ee1 h6 => ?_
  subst ee1
  obtain ⟨hlt, h7⟩ := fitS_is h6 hr
  refine hg ?_
  clear hg
  have S1' := S.ext S1 x1
  refine byC fun hg => ?_
  refine eAAEEA (S1'.own x a l rfl) fun h1' h2' us' n' h3' h4' => ?_
  refine eEA (rs.one) fun va ee1 rv => ?_
  subst ee1
  refine eEEAA (rv.inv) fun b ws ee2 yy3 q2 => ?_
  subst ee2
  obtain ⟨⟨oc, odd, oda, osl⟩, k2, q1, qc, qd⟩ := yy3
  refine hg ?_
  clear hg
  dsimp only at qc qd
  subst qc qd
  refine extend_raw (S1.N _ h3').1 (S1.get q1) (by rw [h4'.length, q2.length]; exact Nat.blt_eq.mp hlt) fun h' k hg' hs' => ?_
  exact hN _ _ _ _ _ _ _ _ (S1'.grow hx hs' hg' (VRs.append h4' q2) _) h7
omit H hE in
theorem pushCell_is {i : Nat} {v : V} {ν : Mu} (h : pushCell μ i v = some ν) : ∃ l, μ[i]? = some l ∧ Nat.blt l.length 100000 = true ∧ ν = μ.set i (l ++ [v]) := by
  have h : (match μ[i]? with | some l => fitO (Nat.blt l.length 100000) (some (μ.set i (l ++ [v]))) | none => none) = some ν := h
  cases hl : μ[i]? with
  | none => rw [hl] at h; exact no_of h
  | some l =>
    rw [hl] at h
    obtain ⟨h1, h2⟩ := fitO_is h
    exact iEAA l rfl h1 ((Option.some.inj h2).symm)
theorem cell_append {o arg : PySem.Expr} {pos : Pos} {kn : Rho → Mu → Res} {r : Res} {Q : Value → Shared → Prop} (hns : noStar [arg] = true)
    (h : (EV cx ρ o μ fun ov μ => withCell ov fun i => EV cx ρ arg μ fun v μ => optS (pushCell μ i v) fun μ => kn ρ μ) = r) (hr : r ≠ .stuck) (S : SNow G K h₀ f s₀ ow0 led0 ce0 ρ μ m ow led ce ox s)
    (hN : ∀ ρ' μ' m' ow' led' ce' ox' s', SNow G K h₀ f s₀ ow0 led0 ce0 ρ' μ' m' ow' led' ce' ox' s' → kn ρ' μ' = r → Q .none s') (hX : XThen XN ow0 led0 ce0 (fun n μ' => r = .exc n μ') E) {pl : Value → Sem Bool} :
    wpAny (model G.prog G.w) A (eval o f.env) (fun ov s₁ => wpAny (model G.prog G.w) A (getMethod ov (Str.ofString "append") (pl ov)) (fun fx s₂ => wpAny (model G.prog G.w) A (callWith pos fx.1 fx.2 (backTo pos (starEach [arg] f.env)) (backToKw pos [])) Q E s₂) E s₁) E s := by
  refine hE m rfl h hr S.S (S.hn H) (fun vo o s1 l1 c1 μ1 S1 x1 ro h1 => ?_) (S.hx H hX)
  refine byC fun hg => ?_
  refine eEA (withCell_is h1 hr) fun i ee1 h2 => ?_
  subst ee1
  refine eEA (ro.inv) fun a ee1 hc => ?_
  subst ee1
  obtain ⟨l, hl⟩ : ∃ l, μ1[i]? = some l := ⟨_, List.getElem?_eq_getElem (S1.C.len ▸ (List.getElem?_eq_some_iff.mp hc).1)⟩
  refine eEEEAA (S1.C.at_ i l hl) fun a' us n q1 q2 q3 => ?_
  obtain rfl := Option.some.inj (hc.symm.trans q1)
  refine hg ?_
  clear hg
  have S1' := S.ext S1 x1
  refine getMethod_list_append (S1.N _ q2).1 rfl rfl ?_
  refine callWith_plain (P := fun u9 => True) hns (fun u9 u9 => machine_kept _ _) ?_
  refine evList_sound (H.hyp m) (hE m) rfl (k := fun vs μ => arg1 vs fun v => optS (pushCell μ i v) fun μ => kn ρ μ) (by rw [evList_one hns]; exact h2) hr S1 (S1'.hn H) (fun vs ds s2 l2 c2 μ2 S2 x2 rs h2 => ⟨trivial, ?_⟩) (S1'.hx H hX)
  refine byC fun hg => ?_
  refine eEA (arg1_is h2 hr) fun v ee1 h5 => ?_
  subst ee1
  refine eEA (optS_is h5 hr) fun μ3 hpc h6 => ?_
  refine eEAA (pushCell_is hpc) fun l4 hl4 hlt ee3 => ?_
  subst ee3
  refine eEEEAA (S2.C.at_ i l4 hl4) fun a4 us4 n4 w1 w2 w3 => ?_
  obtain rfl := Option.some.inj ((x2.get hc).symm.trans w1)
  refine eEA (rs.one) fun va ee1 rv => ?_
  subst ee1
  refine hg ?_
  clear hg
  refine append_raw (S2.N _ w2).1 (lst_size w3 hlt) fun h' k hg' hs' => ?_
  obtain ⟨S3, x3⟩ := S2.cellSet hl4 (x2.get hc) w2 hs' hg' (VRs.append w3 (.cons rv .nil)) s2.toks
  exact hN _ _ _ _ _ _ _ _ ((S1'.ext S2 x2).ext S3 x3) h6
theorem expr_sound {e epos wf} : SndS1 G K h₀ f s₀ A XN cx (.Expr e epos) (fun ρ μ k => stepS SV EV CV wf cx ρ (.Expr e epos) μ k) := by
  intro ρ μ kn r ow0 led0 ce0 m ow led ce ox s Q E h hr S hN hR hX
  obtain ⟨q, hq, h1⟩ := optS_is (show (optS (meth1 e) fun q => fitS (plainAt q.1 q.2.2.1 q.2.2.2.2 [q.2.2.2.1])
    (match ownOf ρ q.1 with | some p => sOwn EV cx ρ p.1 p.2 q.2.1 q.2.2.2.1 μ kn | none => sCell EV cx ρ q.1 q.2.1 q.2.2.2.1 μ kn)) = r from h) hr
  clear h
  refine byC fun hg => ?_
  obtain ⟨hp, h2⟩ := fitS_is h1 hr
  clear h1
  obtain ⟨o, nm, ap, a, pos⟩ := q
  obtain rfl : e = .Call (.Attribute o nm ap) [a] [] pos := meth1_is hq
  refine hg ?_
  clear hg
  have hns := (plainAt_is hp).2.2.2
  refine wpAny_Expr (Call_meth hp ?_) (f_inter H) rfl
  have h3 : (match ownOf ρ o with | some p => sOwn EV cx ρ p.1 p.2 nm a μ kn | none => sCell EV cx ρ o nm a μ kn) = r := h2
  clear h2
  cases ho : ownOf ρ o with
  | some p =>
    rw [ho] at h3
    refine byC fun hg => ?_
    obtain ⟨x, l⟩ := p
    refine eEA (ownOf_is ho) fun xp ee1 hx => ?_
    subst ee1
    refine hg ?_
    clear hg
    refine own_eval H S hx fun a hox => ?_
    subst hox
    have h4 : ifS (seq nm (Str.ofString "append")) _ (fitS (seq nm (Str.ofString "extend")) _) = r := h3
    cases hm : seq nm (Str.ofString "append") with
    | true =>
      rw [hm] at h4
      rw [seq_iff.mp hm]
      exact own_append H hE hns h4 hr S hx (fun ρ' μ' m' ow' led' ce' ox' s' S' h' => hN _ _ _ _ _ _ _ _ S' h') hX
    | false =>
      rw [hm] at h4
      obtain ⟨hm2, h5⟩ := fitS_is h4 hr
      rw [seq_iff.mp hm2]
      exact own_extend H hE hns h5 hr S hx (fun ρ' μ' m' ow' led' ce' ox' s' S' h' => hN _ _ _ _ _ _ _ _ S' h') hX
  | none =>
    rw [ho] at h3
    obtain ⟨hm, h4⟩ := fitS_is h3 hr
    rw [seq_iff.mp hm]
    exact cell_append H hE hns h4 hr S (fun ρ' μ' m' ow' led' ce' ox' s' S' h' => hN _ _ _ _ _ _ _ _ S' h') hX
end
end Mine

end

section
namespace Mine
open PySem PySem.W PySem.Calls PyProof.Rows
section
variable {A : Around} {XN : XNT} {Φ : Nat → List V → Mu → Res} {E : Value → Shared → Prop}
variable {G : Gx} {K : Frag} {h₀ h' : Heap} {L d a : Addr} {m : Str → Option Value} {ow ow0 : List Addr} {s₀ s : Shared} {led led0 : List (Addr × Obj)} {ce ce0 : List Addr} {μ : Mu} {f : Fx} {ρ : Rho} {ox : Option (Str × Addr × List V)}
variable {p : Program} {loose : List Str} {mg mb : Str → Option Value} {cx : Cx} {r : Res}
theorem lt63 {j : Nat} (h : j < 100000) : Int.ofNat j < 2 ^ 63 := by
  have : (j : Int) < 100000 := by lia
  show (j : Int) < 2 ^ 63
  lia
theorem assign_plain {e : PySem.Expr} (t : Option PySem.Expr) (line : Nat) (env : Env) (h : plainVal e = true) : swapsWith e t line env = pure false := by
  cases e <;> first | rfl | cases h
theorem raise_of {c : PySem.Expr} {pos : Pos} {Q : Flow → Shared → Prop} {env : Env} (h : wpAny (model G.prog G.w) A (eval c env) (fun xv s₁ => wpAny (model G.prog G.w) A (raiseTail env xv) Q E s₁) E s) :
    wpAny (model G.prog G.w) A (exec (.Raise (some c) none pos) env) Q E s := by
  rw [PySem.arm_exec_Raise]
  refine wpAny_bind (wpAny_standAt ?_)
  show wpAny _ A (raiseStmt env (some (do let v ← eval c env; standAt pos; pure v)) none) Q E s
  unfold raiseStmt
  refine wpAny_bind (wpAny_bind (wpAny_mono h (fun v s₁ h₁ => wpAny_bind (wpAny_standAt (wpAny_pure ?_))) fun u9 u9 e => e))
  exact wpAny_bind (wpAny_pure h₁)
theorem setAt_raw {vs : List Value} {n : Nat} {v : Value} {j : Nat} {t : Tok} {Q : Unit → Shared → Prop} (hg : s.heap.get? a = some (lstObj vs n)) (hj : j < vs.length) (hsz : vs.length < 100000)
    (hQ : ∀ h' k, h'.get? a = some (lstObj (vs.set j v) k) → Heap.SameBut a s.heap h' → Q () { s with heap := h' }) : wpAny (model G.prog G.w) A (setItem (.ref a) (.int (Int.ofNat j) t) v) Q E s := by
  refine ki_setAt (items := vs.toArray) (n := n) hg (Int.natCast_nonneg _) (lt63 (by lia)) (by simp; exact hj) ?_
  have q := PySem.IsL.update (l := a) (items := vs.toArray) (n := n) hg (fun x => x.setIfInBounds j v)
  have e : vs.toArray.setIfInBounds j v = (vs.set j v).toArray := by simp
  rw [e] at q
  exact hQ _ _ q (Heap.SameBut.update ..)
variable (H : FrameOk G K h₀ f s₀ A XN cx p loose mg mb)
variable {EV : EF} {CV : CF} {SV : SF} (hE : ∀ m, SndE G K h₀ f.L m s₀ A XN cx.Φ EV) (hC : ∀ m, SndC G K h₀ f.L m s₀ A XN cx.Φ CV) (hS : SndS G K h₀ f s₀ A XN cx SV)
include H hE
omit H hE in
theorem setCell_is {c : Nat} {j : Int} {v : V} {ν : Mu} (h : setCell μ c j v = some ν) : ∃ (l : List V) (n : Nat), j = .ofNat n ∧ μ[c]? = some l ∧ Nat.blt n l.length = true ∧ Nat.blt l.length 100000 = true ∧ ν = μ.set c (l.set n v) := by
  cases hl : μ[c]? with
  | none => exact no_of (show none = some ν from (show setCell μ c j v = none by unfold setCell; rw [hl]).symm.trans h)
  | some l => cases j with
    | negSucc n => exact no_of (show none = some ν from (show setCell μ c (.negSucc n) v = none by unfold setCell; rw [hl]).symm.trans h)
    | ofNat n =>
      have h : both (Nat.blt n l.length) (Nat.blt l.length 100000) (μ.set c (l.set n v)) = some ν := (show setCell μ c (.ofNat n) v = both (Nat.blt n l.length) (Nat.blt l.length 100000) (μ.set c (l.set n v)) by unfold setCell; rw [hl]; rfl).symm.trans h
      refine byC fun hg => ?_
      refine eAA (both_is h) fun h1 h2 h3 => ?_
      refine hg ?_
      clear hg
      exact iEEAAAA l n rfl rfl h1 h2 h3.symm
theorem assign_sub_sound {b i tp e pos wf} : SndS1 G K h₀ f s₀ A XN cx (.Assign [.Subscript b i tp] e pos) (fun ρ μ k => stepS SV EV CV wf cx ρ (.Assign [.Subscript b i tp] e pos) μ k) := by
  intro ρ μ kn r ow0 led0 ce0 m ow led ce ox s Q E h hr S hN hR hX
  obtain ⟨hpv, h0⟩ := fitS_is (show fitS (plainVal e) (EV cx ρ e μ fun v μ => EV cx ρ b μ fun bv μ => EV cx ρ i μ fun iv μ => withCell bv fun c => withInt iv fun j => optS (setCell μ c j v) fun μ => kn ρ μ) = r from h) hr
  clear h
  refine wpAny_Assign_Subscript (hE m rfl h0 hr S.S (S.hn H) (fun v dv s1 l1 c1 μ1 S1 x1 rv h1 => ?_) (S.hx H hX)) (assign_plain _ _ _ hpv)
  clear h0
  have S1' := S.ext S1 x1
  refine hE m rfl h1 hr S1 (S1'.hn H) (fun vb db s2 l2 c2 μ2 S2 x2 rb h2 => ?_) (S1'.hx H hX)
  clear h1
  have S2' := S1'.ext S2 x2
  refine hE m rfl h2 hr S2 (S2'.hn H) (fun vi di s3 l3 c3 μ3 S3 x3 ri h3 => ?_) (S2'.hx H hX)
  clear h2
  refine byC fun hg => ?_
  refine eEA (withCell_is h3 hr) fun c ee1 h4 => ?_
  subst ee1
  refine eEA (withInt_is h4 hr) fun j ee1 h5 => ?_
  subst ee1
  refine eEA (optS_is h5 hr) fun μ4 hset h6 => ?_
  refine eEEAAAA (setCell_is hset) fun l n ee2 hl hn hsz ee6 => ?_
  subst ee2
  subst ee6
  refine eEA (rb.inv) fun a ee1 hc => ?_
  subst ee1
  obtain ⟨t, rfl⟩ := ri.inv
  refine eEEEAA (S3.C.at_ c l hl) fun a4 us4 n4 w1 w2 w3 => ?_
  obtain rfl := Option.some.inj ((x3.get hc).symm.trans w1)
  refine hg ?_
  clear hg
  refine setAt_raw (S3.N _ w2).1 (by rw [w3.length]; exact Nat.blt_eq.mp hn) (lst_size w3 hsz) fun h' k hg' hs' => ?_
  obtain ⟨S4, x4⟩ := S3.cellSet hl (x3.get hc) w2 hs' hg' (VRs.set w3 ((rv.ext x2).ext x3) n) s3.toks
  exact hN _ _ _ _ _ _ _ _ ((S2'.ext S3 x3).ext S4 x4) h6
omit H hE in
theorem isErr_is {v : V} (h : isErr v = true) : v = .cls 0 := by
  cases v with
  | cls c => cases c with
    | zero => rfl
    | succ c => exact Bool.noConfusion h
  | _ => exact Bool.noConfusion h
omit H hE in
theorem exc2_is {vs : List V} (h : exc2 vs μ = r) (hr : r ≠ .stuck) : ∃ n x, vs = [.int n, .str x] ∧ .exc n μ = r := by
  match vs, h with
  | [v, w], h => cases v with
    | int n => cases w with
      | str x => exact ⟨n, x, rfl, h⟩
      | _ => exact st h hr
    | _ => exact st h hr
  | [], h => exact st h hr
  | [_], h => exact st h hr
  | _ :: _ :: _ :: _, h => exact st h hr
theorem raise_sound {e pos wf} : SndS1 G K h₀ f s₀ A XN cx (.Raise (some e) none pos) (fun ρ μ k => stepS SV EV CV wf cx ρ (.Raise (some e) none pos) μ k) := by
  intro ρ μ kn r ow0 led0 ce0 m ow led ce ox s Q E h hr S hN hR hX
  refine byC fun hg => ?_
  refine eEA (optS_is (show (optS (call2 e) fun q => optS (nameV cx ρ q.1) fun v => fitS (isErr v) (fitS (noStar [q.2.2.1, q.2.2.2.1]) (evList EV cx ρ [q.2.2.1, q.2.2.2.1] μ exc2))) = r from h) hr) fun q hq h1 => ?_
  clear h
  obtain ⟨c, np, a, b, cp⟩ := q
  obtain rfl : e = .Call (.Name c np) [a, b] [] cp := call2_is hq
  refine eEA (optS_is h1 hr) fun v hc h2 => ?_
  obtain ⟨he, h3⟩ := fitS_is h2 hr
  obtain ⟨hns, h4⟩ := fitS_is h3 hr
  clear h1 h2 h3
  obtain rfl := isErr_is he
  refine eEA ((S.hn H).get (pos := np) hc) fun v rv hv => ?_
  obtain ⟨u9, rfl⟩ := rv.inv
  refine hg ?_
  clear hg
  refine raise_of (Call_plain (fun u9 u9 u9 e => PySem.Expr.noConfusion e) (hv S.S .refl ?_))
  refine callWith_plain (P := KeptBy G K (.ref (G.cA 0))) hns (fun u9 x => x) ?_
  refine evList_sound (H.hyp m) (hE m) rfl h4 hr S.S (S.hn H) (fun vs ds s1 l1 c1 μ1 S1 x1 rs h1 => ⟨kept (H.hyp m) S1 .cls rfl, ?_⟩) (S.hx H hX)
  refine byC fun hg => ?_
  refine eEEA (exc2_is h1 hr) fun n x ee2 h5 => ?_
  subst ee2
  refine eEEAA (rs.two) fun v1 v2 ee2 r1 r2 => ?_
  subst ee2
  refine hg ?_
  clear hg
  exact H.raiseX S1 r1 r2 fun e s2 l2 c2 hx x2 => hX e _ s2 l2 c2 μ1 ((H.hyp m).xw hx S.sub) (S.x.trans (x1.trans x2 ((H.hyp m).xnd hx)) ((H.hyp m).xnd hx)) h5.symm
omit hE
include hC hS
theorem while_sound {t b pos wf} : SndS1 G K h₀ f s₀ A XN cx (.While t b [] pos) (fun ρ μ k => stepS SV EV CV wf cx ρ (.While t b [] pos) μ k) := by
  intro ρ μ kn r ow0 led0 ce0 m ow led ce ox s Q E h hr S hN hR hX
  have h : evWhile CV cx t (fun ρ μ k => SV cx ρ b μ k) wf ρ μ kn = r := h
  have hXn : XThen XN ow0 led0 ce0 (fun n μ' => r = .exc n μ') (notedBy (model G.prog G.w) A f.env fun x s' => cameBackBy (model G.prog G.w) A f.env E x s') := fun e n s' l c μ' hx x q => H.loopX hx fun s'' hx' => hX e n s'' l c μ' hx' x q
  refine wpAny_While (codeAny_whileLoop (fun n s' => ∃ ρ μ m ow led ce ox, SNow G K h₀ f s₀ ow0 led0 ce0 ρ μ m ow led ce ox s' ∧ evWhile CV cx t (fun ρ μ k => SV cx ρ b μ k) n ρ μ kn = r) ?_ wf ⟨ρ, μ, m, ow, led, ce, ox, S, h⟩)
  rintro n s' ⟨ρ, μ, m, ow, led, ce, ox, S, h⟩
  cases n with
  | zero => exact absurd h.symm hr
  | succ n =>
    unfold evWhile at h
    refine hC m rfl h hr S.S (S.hn H) (fun c s1 l1 c1 μ1 S1 x1 h1 => ?_) (S.hx H hXn)
    have S1' := S.ext S1 x1
    cases c with
    | true =>
      refine hS h1 hr S1' (fun ρ2 μ2 m2 ow2 l2 c2 ox2 s2 S2 h2 => ?_) (fun v d s2 m2 l2 c2 μ2 S2 x2 rv e => ?_) hXn
      · exact ⟨n, Nat.lt_succ_self n, ρ2, μ2, m2, ow2, l2, c2, ox2, S2, h2⟩
      · exact hR v d s2 m2 l2 c2 μ2 S2 x2 rv e
    | false => exact wpAny_execs_nil (hN _ _ _ _ _ _ _ _ S1' h1)
end
end Mine

end

section
namespace Mine
open PySem PySem.W PySem.Calls PyProof.Rows
section
variable {A : Around} {XN : XNT} {Φ : Nat → List V → Mu → Res} {E : Value → Shared → Prop}
variable {G : Gx} {K : Frag} {h₀ h' : Heap} {L d a : Addr} {m : Str → Option Value} {ow ow0 : List Addr} {s₀ s : Shared} {led led0 : List (Addr × Obj)} {ce ce0 : List Addr} {μ : Mu} {f : Fx} {ρ : Rho} {ox : Option (Str × Addr × List V)}
variable {p : Program} {loose : List Str} {mg mb : Str → Option Value} {cx : Cx} {r : Res}
theorem look_frozen : ∀ {ρ : Rho} {x : Str}, look x (frozen ρ) = (look x ρ).map fun t => match t with | .own l => .val (.list l) | .val v => .val v
  | [], _ => rfl
  | (y, t) :: ρ, x => by
    have ih := look_frozen (ρ := ρ) (x := x)
    cases t <;> simp only [frozen, List.map_cons, look] <;> split <;> first | rfl | exact ih
theorem SNow.freeze (S : SNow G K h₀ f s₀ ow0 led0 ce0 ρ μ m ow led ce ox s) : SNow G K h₀ f s₀ ow0 led0 ce0 (frozen ρ) μ m ow0 led ce none s := by
  refine ⟨S.S.weak S.sub, ⟨fun y d e => ?_, fun y l e => ?_⟩, S.x, fun u9 h => h, fun a h h' => absurd h h', fun y a l e => by cases e⟩
  · rw [look_frozen] at e
    cases q : look y ρ with
    | none => rw [q] at e; cases e
    | some t =>
      rw [q] at e
      cases t with
      | val v =>
        cases e
        refine byC fun hg => ?_
        refine eEAA (S.R.val y _ q) fun v' r q1 q2 => ?_
        refine hg ?_
        clear hg
        exact iEAA v' (r.mono (fun u9 u9 q => q.weak S.sub) (fun u9 u9 q => q)) q1 (fun q => let ⟨c, o, w1, w2, w3, w4, w5⟩ := q2 q; ⟨c, o, w1, w2, w3, w4, fun w => w5 (S.sub _ w)⟩)
      | own l =>
        cases e
        refine byC fun hg => ?_
        refine eEAAA (S.R.own y l q) fun a e hm hl hd => ?_
        refine eAAEEA (S.own y a l e) fun h1 h2 vs n h3 h4 => ?_
        refine hg ?_
        clear hg
        exact iEAA (.ref a) (.list (.of (n := n) (.inl ⟨h3, h2, fun q => S.S.C.off _ q h1⟩)) (h4.mono (fun u9 u9 q => q.weak S.sub) fun u9 u9 q => q)) (fun u9 => hm) (fun q => by rw [hl] at q; cases q)
  · rw [look_frozen] at e
    cases q : look y ρ with
    | none => rw [q] at e; cases e
    | some t => rw [q] at e; cases t <;> cases e
/-! ### a base of its own for each turn of a loop -/
noncomputable def notOwn (ox : Option (Str × Addr × List V)) (a : Addr) : Bool := match ox with | some (_, b, _) => !(a == b) | none => true
noncomputable def owB (ow : List Addr) (ox : Option (Str × Addr × List V)) : List Addr := ow.filter (notOwn ox)
noncomputable def ledB (led : List (Addr × Obj)) (ox : Option (Str × Addr × List V)) : List (Addr × Obj) := led.filter fun p => notOwn ox p.1
theorem notOwn_iff {a : Addr} : notOwn ox a = true ↔ ∀ y b l, ox = some (y, b, l) → a ≠ b := by
  cases ox with
  | none => simp [notOwn]
  | some t => obtain ⟨y, b, l⟩ := t; simp [notOwn]
theorem SNow.rebase (S : SNow G K h₀ f s₀ ow0 led0 ce0 ρ μ m ow led ce ox s) : SNow G K h₀ f s₀ (owB ow ox) (ledB led ox) ce ρ μ m ow led ce ox s := by
  refine ⟨S.S, S.R, ⟨⟨[], by simp, by simp⟩, fun p hp u9 => (List.mem_filter.mp hp).1⟩, fun a ha => (List.mem_filter.mp ha).1, fun a ha hn p hp e => ?_, fun y a l e => ?_⟩
  · have h1 := (List.mem_filter.mp hp).2
    exact hn (List.mem_filter.mpr ⟨ha, by rw [← e]; exact h1⟩)
  · refine eAA (S.own y a l e) fun h1 h2 h3 => ?_
    exact iAA h1 (fun q => (notOwn_iff.mp (List.mem_filter.mp q).2) y a l e rfl) h3
theorem SNow.sub_base (S : SNow G K h₀ f s₀ ow0 led0 ce0 ρ μ m ow led ce ox s) : ∀ a ∈ ow0, a ∈ owB ow ox := fun a ha =>
  List.mem_filter.mpr ⟨S.sub a ha, notOwn_iff.mpr fun y b l e q => (S.own y b l e).2.1 (q ▸ ha)⟩
theorem SNow.ext_base (S : SNow G K h₀ f s₀ ow0 led0 ce0 ρ μ m ow led ce ox s) : Ext led0 ce0 (ledB led ox) ce :=
  ⟨S.x.cells, fun p hp hc => List.mem_filter.mpr ⟨S.x.keep p hp hc, notOwn_iff.mpr fun y b l e => S.fresh b (S.own y b l e).1 (S.own y b l e).2.1 p hp⟩⟩
theorem SNow.unbase {ρ' μ' m' ow' led' ce' ox' s'} (S : SNow G K h₀ f s₀ ow0 led0 ce0 ρ μ m ow led ce ox s) (T : SNow G K h₀ f s₀ (owB ow ox) (ledB led ox) ce ρ' μ' m' ow' led' ce' ox' s') :
    SNow G K h₀ f s₀ ow0 led0 ce0 ρ' μ' m' ow' led' ce' ox' s' := by
  refine ⟨T.S, T.R, S.ext_base.trans T.x T.S.C.nodup, fun a ha => T.sub a (S.sub_base a ha), fun a ha hn p hp e => ?_, fun y a l e => ?_⟩
  · by_cases hb : a ∈ owB ow ox
    · exact S.fresh a (List.mem_filter.mp hb).1 hn p hp e
    · -- p.1 is in the base
      have hq : ∃ o, (p.1, o) ∈ ledB led ox := by
        by_cases hc : p.1 ∈ ce0
        · obtain ⟨o, ho⟩ := S.S.C.mem (S.x.ce_mem hc)
          refine ⟨o, List.mem_filter.mpr ⟨ho, notOwn_iff.mpr fun y b l q z => ?_⟩⟩
          exact S.S.C.off _ (S.x.ce_mem hc) (by rw [show p.1 = b from z]; exact (S.own y b l q).1)
        · exact ⟨p.2, S.ext_base.keep p hp hc⟩
      obtain ⟨o, ho⟩ := hq
      exact T.fresh a ha hb _ ho e
  · refine eAA (T.own y a l e) fun h1 h2 h3 => ?_
    exact iAA h1 (fun q => h2 (S.sub_base a q)) h3
theorem SNow.base {a : Addr} {o : Obj} (T : SNow G K h₀ f s₀ ow0 led0 ce0 ρ μ m ow led ce ox s) (h : In K ow0 ce0 led0 a o) : In K ow ce led a o := by
  rcases h with ⟨h1, h2, h3⟩ | h
  · exact .inl ⟨T.x.keep _ h1 h3, fun q => T.fresh a q h2 _ h1 rfl, T.x.off h1 h3⟩
  · exact .inr h
theorem SNow.inBase {a : Addr} {o : Obj} (S : SNow G K h₀ f s₀ ow0 led0 ce0 ρ μ m ow led ce ox s) (h : In K ow ce led a o) : In K (owB ow ox) ce (ledB led ox) a o := by
  rcases h with ⟨h1, h2, h3⟩ | h
  · exact .inl ⟨List.mem_filter.mpr ⟨h1, notOwn_iff.mpr fun y b l e q => h2 (by rw [show a = b from q]; exact (S.own y b l e).1)⟩, fun q => h2 (List.mem_filter.mp q).1, h3⟩
  · exact .inr h
noncomputable def updW (led : List (Addr × Obj)) (wr : List Addr) (h : Heap) : List (Addr × Obj) := led.map fun p => if p.1 ∈ wr then (p.1, (h.get? p.1).getD p.2) else p
theorem updW_off {p : Addr × Obj} {wr : List Addr} {h : Heap} (hp : p ∈ led) (hn : p.1 ∉ wr) : p ∈ updW led wr h := List.mem_map.mpr ⟨p, hp, by rw [if_neg hn]⟩
theorem updW_on {p : Addr × Obj} {wr : List Addr} {h : Heap} {o : Obj} (hp : p ∈ led) (hn : p.1 ∈ wr) (hg : h.get? p.1 = some o) : (p.1, o) ∈ updW led wr h := List.mem_map.mpr ⟨p, hp, by rw [if_pos hn, hg]; rfl⟩
theorem SNow.setW {wr : List Addr} (S : SNow G K h₀ f s₀ ow0 led0 ce0 ρ μ m ow led ce ox s) (hw : ∀ a ∈ wr, a ∈ ow ∧ a ∉ ow0 ∧ notOwn ox a = true) (hk : ∀ b o, b ∉ wr → s.heap.get? b = some o → h'.get? b = some o)
    (hex : ∀ b ∈ wr, ∃ o, h'.get? b = some o) (tk : Nat) : SNow G K h₀ f s₀ ow0 led0 ce0 ρ μ m ow (updW led wr h') ce ox { s with heap := h', toks := tk } := by
  have inU : ∀ b o, In K ow ce led b o → In K ow ce (updW led wr h') b o := fun b o q => by
    rcases q with ⟨q1, q2, q3⟩ | q
    · exact .inl ⟨updW_off q1 fun z => q2 (hw _ z).1, q2, q3⟩
    · exact .inr q
  have hnews : ∀ a ∈ wr, a ≠ f.L ∧ h₀.get? a = none := fun a ha => let ⟨o, ho⟩ := S.S.O a (hw a ha).1; (S.S.N _ ho).2
  have hL : f.L ∉ wr := fun q => (hnews _ q).1 rfl
  refine ⟨⟨⟨S.S.F.ns.at' fun o e => hk _ o hL e, fun b o e => hk b o (fun q => by rw [(hnews b q).2] at e; cases e) (S.S.F.keep b o e), S.S.F.above⟩, fun q hq => ?_, S.S.X, S.S.big,
      ⟨S.S.C.len, S.S.C.nodup, S.S.C.off, fun i l e => ?_⟩, fun a ha => ?_, let ⟨_, _, e⟩ := S.S.sm; ⟨h', tk, by rw [e]⟩⟩,
    ⟨fun y d e => ?_, S.R.own⟩, ⟨S.x.cells, fun q hq hc => updW_off (S.x.keep q hq hc) fun z => S.fresh _ (hw _ z).1 (hw _ z).2.1 q hq rfl⟩, S.sub, S.fresh, fun y a l e => ?_⟩
  · refine eEA (List.mem_map.mp hq) fun t ht e => ?_
    have N := S.S.N t ht
    by_cases hm : t.1 ∈ wr
    · rw [if_pos hm] at e; subst e
      obtain ⟨o, ho⟩ := hex _ hm
      refine ⟨?_, N.2⟩
      show h'.get? t.1 = some ((h'.get? t.1).getD t.2)
      rw [ho]; rfl
    · rw [if_neg hm] at e; subst e
      exact ⟨hk _ _ hm N.1, N.2⟩
  · refine eEEEAA (S.S.C.at_ i l e) fun a vs n x y z => ?_
    exact iEEEAA a vs n x (updW_off y fun q => S.S.C.off a (List.mem_of_getElem? x) (hw _ q).1) (z.mono inU fun u9 u9 q => q)
  · obtain ⟨o, ho⟩ := S.S.O a ha
    by_cases hm : a ∈ wr
    · obtain ⟨o', ho'⟩ := hex _ hm
      exact ⟨o', updW_on ho hm ho'⟩
    · exact ⟨o, updW_off ho hm⟩
  · refine eEAA (S.R.val y d e) fun v r q1 q2 => ?_
    refine iEAA v (r.mono inU (fun u9 u9 q => q)) q1 (fun q => ?_)
    refine byC fun hg => ?_
    refine eEEAAAA (q2 q) fun c o w1 w2 w3 w4 w5 => ?_
    refine hg ?_
    clear hg
    exact iEEAAAA c o w1 (updW_off w2 fun z => w5 (hw _ z).1) w3 w4 w5
  · refine eAAEEA (S.own y a l e) fun h1 h2 vs n h3 h4 => ?_
    exact iAAEEA h1 h2 vs n (updW_off h3 fun q => notOwn_iff.mp (hw _ q).2.2 y a l e rfl) (h4.mono inU fun u9 u9 q => q)
end
end Mine

end

section
namespace Mine
open PySem PySem.W PySem.Calls PyProof.Rows
section
variable {A : Around} {XN : XNT} {Φ : Nat → List V → Mu → Res} {E : Value → Shared → Prop}
variable {G : Gx} {K : Frag} {h₀ h' : Heap} {L d a : Addr} {m : Str → Option Value} {ow ow0 : List Addr} {s₀ s : Shared} {led led0 : List (Addr × Obj)} {ce ce0 : List Addr} {μ : Mu} {f : Fx} {ρ : Rho} {ox : Option (Str × Addr × List V)}
variable {p : Program} {loose : List Str} {mg mb : Str → Option Value} {cx : Cx} {r : Res}
theorem SNow.inW {wr : List Addr} (S : SNow G K h₀ f s₀ ow0 led0 ce0 ρ μ m ow led ce ox s) (hw : ∀ a ∈ wr, a ∈ ow ∧ a ∉ ow0 ∧ notOwn ox a = true) {h'} : ∀ b o, In K ow ce led b o → In K ow ce (updW led wr h') b o := fun b o q => by
  rcases q with ⟨q1, q2, q3⟩ | q
  · exact .inl ⟨updW_off q1 fun z => q2 (hw _ z).1, q2, q3⟩
  · exact .inr q
theorem SNow.dropW {wr : List Addr} (S : SNow G K h₀ f s₀ ow0 led0 ce0 ρ μ m ow led ce ox s) (hw : ∀ a ∈ wr, a ∈ ow ∧ a ∉ ow0 ∧ notOwn ox a = true) (hk : ∀ b o, b ∉ wr → s.heap.get? b = some o → h'.get? b = some o) (tk : Nat) :
    SNow G K h₀ f s₀ ow0 led0 ce0 ρ μ m (ow.filter (· ∉ wr)) (led.filter fun p => p.1 ∉ wr) ce ox { s with heap := h', toks := tk } := by
  have inF : ∀ {q : Addr × Obj}, q ∈ led → q.1 ∉ wr → q ∈ led.filter fun p => p.1 ∉ wr := fun h n => List.mem_filter.mpr ⟨h, by simpa using n⟩
  have inO : ∀ {a : Addr}, a ∈ ow → a ∉ wr → a ∈ ow.filter (· ∉ wr) := fun h n => List.mem_filter.mpr ⟨h, by simpa using n⟩
  have ofO : ∀ {a : Addr}, a ∈ ow.filter (· ∉ wr) → a ∈ ow ∧ a ∉ wr := fun h => by have := List.mem_filter.mp h; exact ⟨this.1, by simpa using this.2⟩
  have inU : ∀ b o, In K ow ce led b o → In K (ow.filter (· ∉ wr)) ce (led.filter fun p => p.1 ∉ wr) b o := fun b o q => by
    rcases q with ⟨q1, q2, q3⟩ | q
    · exact .inl ⟨inF q1 fun z => q2 (hw _ z).1, fun z => q2 (ofO z).1, q3⟩
    · exact .inr q
  have hnews : ∀ a ∈ wr, a ≠ f.L ∧ h₀.get? a = none := fun a ha => let ⟨o, ho⟩ := S.S.O a (hw a ha).1; (S.S.N _ ho).2
  have hL : f.L ∉ wr := fun q => (hnews _ q).1 rfl
  refine ⟨⟨⟨S.S.F.ns.at' fun o e => hk _ o hL e, fun b o e => hk b o (fun q => by rw [(hnews b q).2] at e; cases e) (S.S.F.keep b o e), S.S.F.above⟩, fun q hq => ?_, S.S.X, S.S.big,
      ⟨S.S.C.len, S.S.C.nodup, fun a ha q => S.S.C.off a ha (ofO q).1, fun i l e => ?_⟩, fun a ha => ?_, let ⟨_, _, e⟩ := S.S.sm; ⟨h', tk, by rw [e]⟩⟩,
    ⟨fun y d e => ?_, S.R.own⟩, ⟨S.x.cells, fun q hq hc => inF (S.x.keep q hq hc) fun z => S.fresh _ (hw _ z).1 (hw _ z).2.1 q hq rfl⟩, fun a ha => inO (S.sub a ha) fun z => (hw _ z).2.1 ha, fun a ha => S.fresh a (ofO ha).1, fun y a l e => ?_⟩
  · have ht := List.mem_filter.mp hq
    exact ⟨hk _ _ (by simpa using ht.2) (S.S.N _ ht.1).1, (S.S.N _ ht.1).2⟩
  · refine eEEEAA (S.S.C.at_ i l e) fun a vs n x y z => ?_
    exact iEEEAA a vs n x (inF y fun q => S.S.C.off a (List.mem_of_getElem? x) (hw _ q).1) (z.mono inU fun u9 u9 q => q)
  · obtain ⟨o, ho⟩ := S.S.O a (ofO ha).1
    exact ⟨o, inF ho (ofO ha).2⟩
  · refine eEAA (S.R.val y d e) fun v r q1 q2 => ?_
    refine iEAA v (r.mono inU (fun u9 u9 q => q)) q1 (fun q => ?_)
    refine byC fun hg => ?_
    refine eEEAAAA (q2 q) fun c o w1 w2 w3 w4 w5 => ?_
    refine hg ?_
    clear hg
    exact iEEAAAA c o w1 (inF w2 fun z => w5 (hw _ z).1) w3 w4 (fun z => w5 (ofO z).1)
  · refine eAAEEA (S.own y a l e) fun h1 h2 vs n h3 h4 => ?_
    exact iAAEEA (inO h1 fun q => notOwn_iff.mp (hw _ q).2.2 y a l e rfl) h2 vs n (inF h3 fun q => notOwn_iff.mp (hw _ q).2.2 y a l e rfl) (h4.mono inU fun u9 u9 q => q)
theorem RetQ.base {Q} (S : SNow G K h₀ f s₀ ow0 led0 ce0 ρ μ m ow led ce ox s) (hR : RetQ G K h₀ f s₀ ow0 led0 ce0 r Q) : RetQ G K h₀ f s₀ (owB ow ox) (ledB led ox) ce r Q :=
  fun v d s' m' led' ce' μ' S' x rv e => hR v d s' m' led' ce' μ' (S'.weak S.sub_base) (S.ext_base.trans x S'.C.nodup) (rv.mono (fun u9 u9 q => q.weak S.sub_base) fun u9 u9 q => q) e
inductive LInv (G : Gx) (K : Frag) (h₀ : Heap) (f : Fx) (s₀ : Shared) (ow0 : List Addr) (led0 : List (Addr × Obj)) (ce0 ow : List Addr) (led : List (Addr × Obj)) (ce wr : List Addr) (n : Nat) (Y : Nat → Rho → Mu → Heap → Prop) : Nat → Shared → Prop
  | mk {s' : Shared} (i : Nat) {ρ1 μ1 m1 ow1 led1 ce1 ox1} (S1 : SNow G K h₀ f s₀ ow0 led0 ce0 ρ1 μ1 m1 ow1 led1 ce1 ox1 s') (y : Y i ρ1 μ1 s'.heap) (hi : i ≤ n) (hw1 : ∀ a ∈ wr, a ∈ ow1 ∧ a ∉ ow0 ∧ notOwn ox1 a = true)
    (hin : ∀ a o, In K ow ce led a o → In K ow1 ce1 led1 a o) (hce : ∀ (i : Nat) a, ce[i]? = some a → ce1[i]? = some a) : LInv G K h₀ f s₀ ow0 led0 ce0 ow led ce wr n Y (n + 1 - i) s'
variable (H : FrameOk G K h₀ f s₀ A XN cx p loose mg mb) {SV : SF} (hS : SndS G K h₀ f s₀ A XN cx SV)
include H hS
set_option tactic.hygienic true in
theorem loop_core {t : PySem.Expr} {b : List Stmt} {I : Addr} {fp wr : List Addr} {P Md : Nat → Value → Heap → Prop} {St : Nat → Heap → Prop} {l : List V} {bind : V → Rho → Option Rho} {kn : Rho → Mu → Res} {Q : Flow → Shared → Prop}
    (W : KTurns G.prog G.w A t I fp wr l.length P Md St) (hex : ∀ i h, St i h → ∀ b ∈ wr, ∃ o, h.get? b = some o) (S : SNow G K h₀ f s₀ ow0 led0 ce0 ρ μ m ow led ce ox s)
    (hw : ∀ a ∈ wr, a ∈ ow ∧ a ∉ ow0 ∧ notOwn ox a = true) (hfp : ∀ b ∈ fp, b ∈ wr ∨ ∃ o, In K ow ce led b o) (hst : St 0 s.heap)
    (h : loopL bind (fun ρ μ k => SV cx ρ b μ k) l ρ μ (fun ρ μ => kn (frozen ρ) μ) = r) (hr : r ≠ .stuck)
    (hA : ∀ {i dv v ρ1 μ1 m1 ow1 led1 ce1 ox1 s1 ρ2 ow2 led2 ce2} {Q : Unit → Shared → Prop} {E : Value → Shared → Prop}, l[i]? = some dv → SNow G K h₀ f s₀ ow2 led2 ce2 ρ1 μ1 m1 ow1 led1 ce1 ox1 s1 → (∀ a o, In K ow ce led a o → In K ow1 ce1 led1 a o) → (∀ (i : Nat) a, ce[i]? = some a → ce1[i]? = some a) →
      P i v s1.heap → bind dv ρ1 = some ρ2 → (∀ m' s', SNow G K h₀ f s₀ ow2 led2 ce2 ρ2 μ1 m' ow1 led1 ce1 ox1 s' → Q () s') → wpAny (model G.prog G.w) A (assign t f.env v) Q E s1)
    (hN : NextQ G K h₀ f s₀ ow0 led0 ce0 kn r Q) (hR : RetQ G K h₀ f s₀ ow0 led0 ce0 r Q) (hX : XThen XN ow0 led0 ce0 (fun n μ' => r = .exc n μ') E) :
    codeAny (model G.prog G.w) A (.forLoop t (.ref I) b [] f.env) (fun r s' => match r with | .ok fl => Q fl s' | .error e => cameBackBy (model G.prog G.w) A f.env E e s') s := by
  have hXn : XThen XN ow0 led0 ce0 (fun n μ' => r = .exc n μ') (notedBy (model G.prog G.w) A f.env fun x s' => cameBackBy (model G.prog G.w) A f.env E x s') := fun e n s' l c μ' hx x q => H.loopX hx fun s'' hx' => hX e n s'' l c μ' hx' x q
  obtain ⟨PO, hq, he⟩ : ∃ PO : Result → Shared → Prop, PO = (fun r s' => match r with | .ok fl => Q fl s' | .error e => cameBackBy (model G.prog G.w) A f.env E e s') ∧ notedBy (model G.prog G.w) A f.env (fun x s' => cameBackBy (model G.prog G.w) A f.env E x s') = notedBy (model G.prog G.w) A f.env (fun x s' => PO (.error x) s') := ⟨_, rfl, rfl⟩
  rw [he] at hXn
  clear he
  have hR : RetQ G K h₀ f s₀ ow0 led0 ce0 r (fun fl s => PO (.ok fl) s) := by rw [hq]; exact hR
  have hN : NextQ G K h₀ f s₀ ow0 led0 ce0 kn r (fun fl s => PO (.ok fl) s) := by rw [hq]; exact hN
  rw [← hq]
  clear hq
  obtain ⟨J, hJ⟩ : ∃ J, J = LInv G K h₀ f s₀ ow0 led0 ce0 ow led ce wr l.length fun i ρ1 μ1 h => St i h ∧ loopL bind (fun ρ μ k => SV cx ρ b μ k) (l.drop i) ρ1 μ1 (fun ρ μ => kn (frozen ρ) μ) = r := ⟨_, rfl⟩
  refine codeAny_forLoop_any J ?_ (l.length + 1) (by rw [hJ]; exact .mk 0 S ⟨hst, h⟩ (Nat.zero_le _) hw (fun _ _ q => q) (fun _ _ q => q))
  generalize notedBy (model G.prog G.w) A f.env (fun x s' => PO (.error x) s') = EN at hXn ⊢
  intro k s' hj
  rw [hJ] at hj
  cases hj with
  | @mk s' i ρ1 μ1 m1 ow1 led1 ce1 ox1 S1 y hi hw1 hin hce =>
  obtain ⟨hst1, h1⟩ := y
  by_cases hlt : i < l.length
  · refine W.item i _ _ _ hlt hst1 fun v h2 tk hMd hk2 => ?_
    refine W.go i v _ _ _ hMd fun h3 hP hst3 hk3 => ?_
    have hk : ∀ b o, b ∉ wr → s'.heap.get? b = some o → h3.get? b = some o := fun b o hb e => hk3 b o hb (hk2 b o hb e)
    have S3 := S1.setW hw1 hk (hex _ _ hst3) tk
    have in3 := S1.inW hw1 (h' := h3)
    have T := S3.rebase
    rw [List.drop_eq_getElem_cons hlt] at h1
    simp only [loopL] at h1
    split at h1
    · rename_i ρ2 hb
      refine hA (List.getElem?_eq_getElem hlt) T (fun a o q => in3 _ _ (hin a o q)) hce hP hb fun m4 s4 T4 => ?_
      refine hS h1 hr T4 (fun ρ5 μ5 m5 ow5 led5 ce5 ox5 s5 T5 h5 => ?_) (RetQ.base S3 hR) ((XThen.weak (XN := XN) (fun h q => (H.hyp m).xw h q) hXn S3.sub_base).after (fun h => (H.hyp m).xnd h) S3.ext_base)
      have S5 := S3.unbase T5
      have wB : ∀ a ∈ wr, a ∈ owB ow1 ox1 := fun a ha => List.mem_filter.mpr ⟨(hw1 a ha).1, (hw1 a ha).2.2⟩
      rw [hJ]
      refine ⟨l.length + 1 - (i + 1), by lia, .mk (i + 1) S5 ⟨W.frame _ _ _ hst3 (fun c hc o e => ?_), h5⟩ hlt (fun a ha => ⟨T5.sub a (wB a ha), (hw1 a ha).2.1, notOwn_iff.mpr fun y c l e q => (T5.own y c l e).2.1 (q ▸ wB a ha)⟩)
        (fun a o q => T5.base (S3.inBase (in3 _ _ (hin a o q)))) (fun j a q => T5.x.get (hce j a q))⟩
      by_cases hcw : c ∈ wr
      · obtain ⟨o', ho'⟩ := S3.S.O c (hw1 c hcw).1
        have g := (S3.S.N _ ho').1
        have e' : h3.get? c = some o := e
        rw [show (({ s' with heap := h3, toks := tk } : Shared).heap.get? (c, o').1) = h3.get? c from rfl, e'] at g
        have eo : o = o' := Option.some.inj g
        rw [← eo] at ho'
        have hb2 : (c, o) ∈ ledB (updW led1 wr h3) ox1 := List.mem_filter.mpr ⟨ho', (hw1 c hcw).2.2⟩
        exact (S5.S.N _ (T5.x.keep _ hb2 fun q => S3.S.C.off _ q (hw1 c hcw).1)).1
      · rcases hfp c hc with q | ⟨o', q⟩
        · exact absurd q hcw
        · have q3 := in3 _ _ (hin c o' q)
          have g := S3.S.get q3
          have e' : h3.get? c = some o := e
          rw [show (({ s' with heap := h3, toks := tk } : Shared).heap.get? c) = h3.get? c from rfl, e'] at g
          have eo : o = o' := Option.some.inj g
          rw [eo]
          exact S5.S.get (T5.base (S3.inBase q3))
    · exact absurd h1.symm hr
  · have hin' : i = l.length := by lia
    subst hin'
    refine W.done _ _ _ hst1 fun h2 tk hk2 => wpAny_execs_nil ?_
    rw [List.drop_length] at h1
    exact hN _ _ _ _ _ _ _ _ (S1.dropW hw1 hk2 tk).freeze h1
end
end Mine

end

section
namespace Mine
open PySem PySem.W PySem.Calls PyProof.Rows
section
variable {A : Around} {XN : XNT} {Φ : Nat → List V → Mu → Res} {E : Value → Shared → Prop}
variable {G : Gx} {K : Frag} {h₀ h' : Heap} {L d a : Addr} {m : Str → Option Value} {ow ow0 : List Addr} {s₀ s : Shared} {led led0 : List (Addr × Obj)} {ce ce0 : List Addr} {μ : Mu} {f : Fx} {ρ : Rho} {ox : Option (Str × Addr × List V)}
variable {p : Program} {loose : List Str} {mg mb : Str → Option Value} {cx : Cx} {r : Res}
theorem SNow.openIt (S : SNow G K h₀ f s₀ ow0 led0 ce0 ρ μ m ow led ce ox s) {o : Obj} (ho : o.isFreed = false) :
    SNow G K h₀ f s₀ ow0 led0 ce0 ρ μ m (s.heap.objs.size :: ow) ((s.heap.objs.size, o) :: led) ce ox { s with heap := s.heap.push o } ∧ (∀ a x, In K ow ce led a x → In K (s.heap.objs.size :: ow) ce ((s.heap.objs.size, o) :: led) a x) ∧
    s.heap.objs.size ∉ ow0 ∧ notOwn ox s.heap.objs.size = true := by
  have hf : ∀ p ∈ led, p.1 ≠ s.heap.objs.size := fun p hp => Nat.ne_of_lt (S.S.fresh p hp)
  have inU : ∀ a x, In K ow ce led a x → In K (s.heap.objs.size :: ow) ce ((s.heap.objs.size, o) :: led) a x := fun a x q => q.open_ hf
  have S2 := S.S.open_ (d := s.heap.objs.size) (o := o) (S.S.F.push o) (News.push S.S.F S.S.N o ho) hf s.toks
  refine iAAA ⟨S2, ⟨fun y d e => ?_, S.R.own⟩, S.x.trans (.push _) S.S.C.nodup, fun a ha => .tail _ (S.sub a ha), fun a ha hn q hq => ?_, fun y a l e => ?_⟩ inU (fun q => S.S.newOff.1 (S.sub _ q)) (notOwn_iff.mpr fun y b l e q => S.S.newOff.1 (q ▸ (S.own y b l e).1))
  · refine eEAA (S.R.val y d e) fun v r q1 q2 => ?_
    refine iEAA v (r.mono inU (fun u9 u9 q => q)) q1 (fun q => ?_)
    refine byC fun hg => ?_
    refine eEEAAAA (q2 q) fun c o w1 w2 w3 w4 w5 => ?_
    refine hg ?_
    clear hg
    exact iEEAAAA c o w1 (.tail _ w2) w3 w4 (fun z => (List.mem_cons.mp z).elim (fun e => hf _ w2 e) w5)
  · rcases List.mem_cons.mp ha with rfl | ha
    · exact Nat.ne_of_lt (S.base_lt q hq)
    · exact S.fresh a ha hn q hq
  · refine eAAEEA (S.own y a l e) fun h1 h2 vs n h3 h4 => ?_
    exact iAAEEA (.tail _ h1) h2 vs n (.tail _ h3) (h4.mono inU fun u9 u9 q => q)
theorem rangeSize_one (n : Nat) : Builtin.Range.rangeSize 0 (Int.ofNat n) 1 = Int.ofNat n := by
  unfold Builtin.Range.rangeSize
  simp
  lia
inductive ItemsK : V → List V → Prop where
  | tup (l : List V) : ItemsK (.tup l) l
  | list (l : List V) : ItemsK (.list l) l
  | str (x : Str) : ItemsK (.str x) (x.cps.toList.map fun c => .str (ch c))
  | rng (n : Nat) (h : Nat.blt n 65536 = true) : ItemsK (.rng n) ((List.range n).map toI)
theorem itemsK {v : V} {l : List V} (h : items v = some l) : ItemsK v l := by
  cases v with
  | tup xs => exact Option.some.inj h ▸ .tup xs
  | list xs => exact Option.some.inj h ▸ .list xs
  | str x => exact Option.some.inj h ▸ .str x
  | rng n =>
    obtain ⟨h1, h2⟩ := fitO_is (b := Nat.blt n 65536) (f := some ((List.range n).map toI)) h
    exact Option.some.inj h2 ▸ .rng n h1
  | _ => exact no_of h
theorem iter_of {v : Value} {dv : V} {l : List V} {Q : Value → Shared → Prop} (hit : items dv = some l) (rv : VR G (In K ow ce led) ce v dv) (S1 : Now G K h₀ L m ow s₀ led ce μ s) (hh : A.handled = none)
    (hQ : ∀ {o : Obj} {fp : List Addr} {P : Nat → Value → Prop} {St : Nat → Heap → Prop}, o.isFreed = false → Walks G.prog G.w A s.heap.objs.size fp [s.heap.objs.size] l.length P St → (∀ i h, St i h → ∃ o, h.get? s.heap.objs.size = some o) →
      (∀ b ∈ fp, b = s.heap.objs.size ∨ ∃ o, In K ow ce led b o) → St 0 (s.heap.push o) →
      (∀ {i dv v ow1 led1 ce1}, l[i]? = some dv → (∀ a o, In K ow ce led a o → In K ow1 ce1 led1 a o) → (∀ (i : Nat) a, ce[i]? = some a → ce1[i]? = some a) → P i v → VR G (In K ow1 ce1 led1) ce1 v dv) →
      Q (.ref s.heap.objs.size) { s with heap := s.heap.push o }) : wpAny (model G.prog G.w) A (pyIter v) Q E s := by
  cases itemsK hit with
  | tup l =>
    refine byC fun hg => ?_
    refine eEEAA (rv.inv) fun a vs ee2 t1 t2 => ?_
    subst ee2
    refine hg ?_
    clear hg
    refine wpAny_pyIter_tuple (S1.tup t1) ?_
    have hlen := t2.length
    refine byC fun hg => ?_
    refine eEEAA (t1) fun ot nt i1 i2 i3 => ?_
    try clear t1
    refine hg ?_
    clear hg
    have hne : a ≠ s.heap.objs.size := Nat.ne_of_lt (Heap.lt_size (S1.get i1))
    have W := Walks.tuple (prog := G.prog) (w := G.w) hh s.heap.objs.size a hne vs.toArray
    rw [(show vs.toArray.size = vs.length from List.size_toArray).trans hlen] at W
    refine hQ (o := { cls := .type "tuple_iterator", data := .fields #[.ref a, .int 0 0] }) rfl W (fun i h st => let ⟨o, q, _⟩ := st.1; ⟨o, q⟩) (fun b hb => ?_) ⟨⟨_, Heap.get?_push_size _ rfl, rfl, rfl⟩, ⟨ot, Heap.get?_push_of_some _ (S1.get i1), i2, nt, i3⟩⟩ (fun {i dv v ow2 led2 ce2} e hin hce hP => ?_)
    · simp only [List.mem_cons, List.not_mem_nil, or_false] at hb
      rcases hb with rfl | rfl
      · exact .inl rfl
      · exact .inr ⟨ot, i1⟩
    · refine eEA (t2.get e) fun v' g rv => ?_
      have : v = v' := by simpa [g] using hP.symm
      rw [this]; exact rv.mono hin hce
  | list l =>
    refine byC fun hg => ?_
    refine eEEAA (rv.inv) fun a vs ee2 t1 t2 => ?_
    subst ee2
    refine hg ?_
    clear hg
    refine wpAny_pyIter_list (S1.list t1) ?_
    have hlen := t2.length
    refine byC fun hg => ?_
    refine eEEAA (t1) fun ob nt i1 oc1 od1 => ?_
    try clear t1
    refine hg ?_
    clear hg
    have hne : a ≠ s.heap.objs.size := Nat.ne_of_lt (Heap.lt_size (S1.get i1))
    have W := Walks.list (prog := G.prog) (w := G.w) hh s.heap.objs.size a hne vs.toArray
    rw [(show vs.toArray.size = vs.length from List.size_toArray).trans hlen] at W
    refine hQ (o := { cls := .type "list_iterator", data := .fields #[.ref a, .int 0 0] }) rfl W (fun i h st => let ⟨o, q, _⟩ := st.1; ⟨o, q⟩) (fun b hb => ?_) ⟨⟨_, Heap.get?_push_size _ rfl, rfl, rfl⟩, ⟨_, Heap.get?_push_of_some _ (S1.get i1), oc1, nt, od1⟩⟩ (fun {i dv v ow2 led2 ce2} e hin hce hP => ?_)
    · simp only [List.mem_cons, List.not_mem_nil, or_false] at hb
      rcases hb with rfl | rfl
      · exact .inl rfl
      · exact .inr ⟨_, i1⟩
    · refine eEA (t2.get e) fun v' g rv => ?_
      have : v = v' := by simpa [g] using hP.symm
      rw [this]; exact rv.mono hin hce
  | str x =>
    obtain ⟨t, rfl⟩ := rv.inv
    refine wpAny_pyIter_strU ?_
    have hl : (x.cps.toList.map fun c => V.str (ch c)).length = x.cps.size := by simp
    have fin : ∀ {St : Nat → Heap → Prop}, Walks G.prog G.w A s.heap.objs.size [s.heap.objs.size] [s.heap.objs.size] x.cps.size (SignAt x) St → (∀ i h, St i h → ∃ o, h.get? s.heap.objs.size = some o) → St 0 (s.heap.push { cls := .type (strIterType x), data := .fields #[.str x t, .int 0 0] }) →
        Q (.ref s.heap.objs.size) { s with heap := s.heap.push { cls := .type (strIterType x), data := .fields #[.str x t, .int 0 0] } } := fun W hex hst => by
      rw [← hl] at W
      refine hQ rfl W hex (fun b hb => .inl (List.mem_singleton.mp hb)) hst (fun {i dv v ow2 led2 ce2} e hin hce hP => ?_)
      refine byC fun hg => ?_
      refine eEEA (hP) fun c u q1 ee3 => ?_
      try clear hP
      subst ee3
      refine hg ?_
      clear hg
      rw [List.getElem?_map] at e
      have q2 : x.cps.toList[i]? = some c := by simpa using q1
      rw [q2] at e
      cases e
      exact .str
    cases ha : x.cps.all (· < 128)
    · exact fin (Walks.strWide hh _ x t) (fun i h st => let ⟨o, q, _⟩ := st; ⟨o, q⟩) ⟨_, Heap.get?_push_size _ rfl, by simp [strIterType, ha], rfl⟩
    · exact fin (Walks.strAscii hh _ x t) (fun i h st => let ⟨o, q, _⟩ := st; ⟨o, q⟩) ⟨_, Heap.get?_push_size _ rfl, by simp [strIterType, ha], rfl⟩
  | rng n hn =>
    refine byC fun hg => ?_
    refine eEEEEA (rv.inv) fun a t u w ee4 i1 => ?_
    subst ee4
    refine hg ?_
    clear hg
    · have hn' : n < 65536 := Nat.blt_eq.mp hn
      have hsz : Builtin.Range.rangeSize 0 (Int.ofNat n) 1 = Int.ofNat n := rangeSize_one n
      refine wpAny_pyIter_range (S1.get i1) (small_one (by lia) (by lia) (by show -(2 ^ 62) ≤ (n : Int); lia) (by show (n : Int) < 2 ^ 62; lia)) ?_
      have W := Walks.range (prog := G.prog) (w := G.w) hh s.heap.objs.size 0 1 n
      have hl : ((List.range n).map toI).length = n := by simp
      rw [← hl] at W
      rw [hsz]
      refine hQ (o := { cls := .type "range_iterator", data := .fields #[rawInt 0, rawInt (Int.ofNat n), rawInt 1] }) rfl W (fun i h st => ⟨_, st⟩) (fun b hb => .inl (List.mem_singleton.mp hb)) ?_ (fun {i dv v ow2 led2 ce2} e hin hce hP => ?_)
      · show Heap.get? _ _ = _
        rw [Heap.get?_push_size _ rfl]
        simp [hl]
      · obtain ⟨t', rfl⟩ := hP
        rw [List.getElem?_map] at e
        refine byC fun hg => ?_
        refine eEA (Option.map_eq_some_iff.mp e) fun z q e' => ?_
        refine hg ?_
        clear hg
        have hi : i < n := by have := (List.getElem?_eq_some_iff.mp q).1; rwa [List.length_range] at this
        rw [List.getElem?_range hi] at q
        rw [← e', ← Option.some.inj q, show (0 : Int) + (i : Int) * 1 = Int.ofNat i by simp]
        exact .int
variable (H : FrameOk G K h₀ f s₀ A XN cx p loose mg mb)
variable {EV : EF} {CV : CF} {SV : SF} (hE : ∀ m, SndE G K h₀ f.L m s₀ A XN cx.Φ EV) (hS : SndS G K h₀ f s₀ A XN cx SV)
include H hE hS
omit hE in
theorem loop_walk {x : Str} {np : Pos} {b : List Stmt} {o : Obj} {fp : List Addr} {P : Nat → Value → Prop} {St : Nat → Heap → Prop} {l : List V} {kn : Rho → Mu → Res} {Q : Flow → Shared → Prop} (ho : o.isFreed = false) (hx : isLocal cx x = true)
    (W : Walks G.prog G.w A s.heap.objs.size fp [s.heap.objs.size] l.length P St) (hex : ∀ i h, St i h → ∃ o, h.get? s.heap.objs.size = some o) (S : SNow G K h₀ f s₀ ow0 led0 ce0 ρ μ m ow led ce ox s)
    (hfp : ∀ b ∈ fp, b = s.heap.objs.size ∨ ∃ o, In K ow ce led b o) (hst : St 0 (s.heap.push o))
    (h : loopL (fun v ρ => some (put x (.val v) ρ)) (fun ρ μ k => SV cx ρ b μ k) l ρ μ (fun ρ μ => kn (frozen ρ) μ) = r) (hr : r ≠ .stuck)
    (hV : ∀ {i dv v ow1 led1 ce1}, l[i]? = some dv → (∀ a o, In K ow ce led a o → In K ow1 ce1 led1 a o) → (∀ (i : Nat) a, ce[i]? = some a → ce1[i]? = some a) → P i v → VR G (In K ow1 ce1 led1) ce1 v dv)
    (hN : NextQ G K h₀ f s₀ ow0 led0 ce0 kn r Q) (hR : RetQ G K h₀ f s₀ ow0 led0 ce0 r Q) (hX : XThen XN ow0 led0 ce0 (fun n μ' => r = .exc n μ') E) :
    codeAny (model G.prog G.w) A (.forLoop (.Name x np) (.ref s.heap.objs.size) b [] f.env) (fun r s' => match r with | .ok fl => Q fl s' | .error e => cameBackBy (model G.prog G.w) A f.env E e s') { s with heap := s.heap.push o } := by
  refine byC fun hg => ?_
  refine eAAA (S.openIt ho) fun S2 in2 h0 hno => ?_
  refine hg ?_
  clear hg
  refine loop_core H hS (KTurns.ofWalks (target := .Name x np) W fun i v s Q E st q => wpAny_pure q) (fun i h st b hb => by rw [List.mem_singleton.mp hb]; exact hex i h st) S2
    (fun a ha => by rw [List.mem_singleton.mp ha]; exact ⟨.head _, h0, hno⟩) (fun b hb => (hfp b hb).elim (fun e => .inl (by rw [e]; exact .head _)) fun ⟨o, q⟩ => .inr ⟨o, in2 _ _ q⟩) hst h hr ?_ hN hR hX
  intro i dv v ρ1 μ1 m1 ow1 led1 ce1 ox1 s1 ρ2 ow2 led2 ce2 Q E e S1 hin hce hP hb hQ
  cases hb
  exact wpAny_assign_Name (store_sound H S1 (isLocal_is hx H.kinds) (hV e (fun a o q => hin _ _ (in2 _ _ q)) hce hP) fun m' s' S' => hQ m' s' S')
theorem for_name_sound {x np it b pos wf} : SndS1 G K h₀ f s₀ A XN cx (.For (.Name x np) it b [] pos) (fun ρ μ k => stepS SV EV CV wf cx ρ (.For (.Name x np) it b [] pos) μ k) := by
  intro ρ μ kn r ow0 led0 ce0 m ow led ce ox s Q E h hr S hN hR hX
  refine byC fun hg => ?_
  obtain ⟨hx, h0⟩ := fitS_is (show fitS (isLocal cx x) (fitS (notSet it) (EV cx ρ it μ fun v μ => optS (items v) fun l => loopL (fun v ρ => some (put x (.val v) ρ)) (fun ρ μ k => SV cx ρ b μ k) l ρ μ fun ρ μ => kn (frozen ρ) μ)) = r from h) hr
  clear h
  obtain ⟨hns, h⟩ := fitS_is h0 hr
  refine hg ?_
  clear hg
  clear h0
  have hset : ∀ x, foldedSetIterable it f.env x = pure x := fun x => by cases it <;> first | rfl | cases hns
  refine wpAny_For (hE m rfl h hr S.S (S.hn H) (fun v dv s1 l1 c1 μ1 S1 x1 rv h1 => ?_) (S.hx H hX)) hset
  clear h
  have S1' := S.ext S1 x1
  have hh := (H.hyp m).hh
  refine byC fun hg => ?_
  refine eEA (optS_is h1 hr) fun l hit h2 => ?_
  refine hg ?_
  clear hg
  clear h1
  exact iter_of hit rv S1 hh (fun {o fp P St} ho W hex hfp hst hV => loop_walk H hS ho hx W hex S1' hfp hst h2 hr hV hN hR hX)
end
end Mine

end

section
namespace Mine
open PySem PySem.W PySem.Calls PyProof.Rows
theorem enumL_get : ∀ (l : List V) (k i : Nat), (enumL l k)[i]? = (l[i]?).map fun v => V.tup [toI (k + i), v]
  | [], k, i => by simp [enumL]
  | v :: l, k, 0 => by simp [enumL]
  | v :: l, k, i + 1 => by
    rw [enumL, List.getElem?_cons_succ, List.getElem?_cons_succ, enumL_get l (k + 1) i]
    rw [show k + 1 + i = k + (i + 1) by lia]
theorem enumL_length : ∀ (l : List V) (k : Nat), (enumL l k).length = l.length
  | [], _ => rfl
  | v :: l, k => by simp [enumL, enumL_length l (k + 1)]
theorem KTurns.ofT {prog : Program} {w : World} {A : Around} {elts : List PySem.Expr} {k : Nat} {pos : Pos} {I : Addr} {fp wr : List Addr} {n : Nat} {Pt : Nat → Array Value → Prop} {St : Nat → Heap → Prop} {Mid : Nat → Addr → Heap → Prop} (W : WalksT prog w A I fp wr n Pt St Mid) :
    KTurns prog w A (.Tuple elts k pos) I fp wr n (fun i v h => ∃ T vals, v = .ref T ∧ Pt i vals ∧ h.IsTuple T vals) (fun i v h => ∃ T vals, v = .ref T ∧ Pt i vals ∧ h.IsTuple T vals ∧ Mid i T h) St where
  sub := W.sub
  frame := W.frame
  item := fun i s Q E hi st hQ => W.item i s Q E hi st fun T vals h' tk hP u9 hT hm hk => hQ (.ref T) h' tk ⟨T, vals, rfl, hP, hT, hm⟩ hk
  go := fun i v s Q E hm hQ => by
    obtain ⟨T, vals, rfl, hP, hT, hm⟩ := hm
    exact W.go elts k pos i T s Q E hm fun h' st hk => hQ h' ⟨T, vals, rfl, hP, hT.at fun o e => hk T o (W.apart i T _ hm) e⟩ st hk
  done := W.done
section
variable {A : Around} {XN : XNT} {Φ : Nat → List V → Mu → Res} {E : Value → Shared → Prop}
variable {G : Gx} {K : Frag} {h₀ h' : Heap} {L d a : Addr} {m : Str → Option Value} {ow ow0 : List Addr} {s₀ s : Shared} {led led0 : List (Addr × Obj)} {ce ce0 : List Addr} {μ : Mu} {f : Fx} {ρ : Rho} {ox : Option (Str × Addr × List V)}
variable {p : Program} {loose : List Str} {mg mb : Str → Option Value} {cx : Cx} {r : Res}
theorem SNow.openAt (S : SNow G K h₀ f s₀ ow0 led0 ce0 ρ μ m ow led ce ox s) {o : Obj} (hk : ∀ b o, s.heap.get? b = some o → h'.get? b = some o) (hg : h'.get? d = some o) (hf : ∀ p ∈ led, p.1 ≠ d) (hb : ∀ p ∈ led0, p.1 ≠ d) (hL : d ≠ f.L) (hn : h₀.get? d = none) :
    SNow G K h₀ f s₀ ow0 led0 ce0 ρ μ m (d :: ow) ((d, o) :: led) ce ox { s with heap := h' } ∧ (∀ a x, In K ow ce led a x → In K (d :: ow) ce ((d, o) :: led) a x) ∧
    d ∉ ow0 ∧ notOwn ox d = true := by
  have inU : ∀ a x, In K ow ce led a x → In K (d :: ow) ce ((d, o) :: led) a x := fun a x q => q.open_ hf
  have hd : d ∉ ow := fun q => let ⟨o, ho⟩ := S.S.O d q; hf _ ho rfl
  have F' : Fr h₀ f.L h' m := ⟨S.S.F.ns.at' fun o e => hk _ o e, fun b o e => hk b o (S.S.F.keep b o e), S.S.F.above⟩
  have N' : News h₀ f.L h' ((d, o) :: led) := fun q hq => by
    rcases List.mem_cons.mp hq with rfl | hq
    · exact iAA hg hL hn
    · exact ⟨hk _ _ (S.S.N q hq).1, (S.S.N q hq).2⟩
  have S2 := S.S.open_ (d := d) (o := o) F' N' hf s.toks
  refine iAAA ⟨S2, ⟨fun y d' e => ?_, S.R.own⟩, S.x.trans (.push _) S.S.C.nodup, fun a ha => .tail _ (S.sub a ha), fun a ha hn q hq => ?_, fun y a l e => ?_⟩ inU (fun q => hd (S.sub _ q)) (notOwn_iff.mpr fun y b l e q => hd (q ▸ (S.own y b l e).1))
  · refine eEAA (S.R.val y d' e) fun v r q1 q2 => ?_
    refine iEAA v (r.mono inU (fun u9 u9 q => q)) q1 (fun q => ?_)
    refine eEEAAAA (q2 q) fun c o w1 w2 w3 w4 w5 => ?_
    exact iEEAAAA c o w1 (.tail _ w2) w3 w4 (fun z => (List.mem_cons.mp z).elim (fun e => hf _ w2 e) w5)
  · rcases List.mem_cons.mp ha with rfl | ha
    · exact hb q hq
    · exact S.fresh a ha hn q hq
  · refine eAAEEA (S.own y a l e) fun h1 h2 vs n h3 h4 => ?_
    exact iAAEEA (.tail _ h1) h2 vs n (.tail _ h3) (h4.mono inU fun u9 u9 q => q)
variable (H : FrameOk G K h₀ f s₀ A XN cx p loose mg mb)
variable {EV : EF} {CV : CF} {SV : SF} (hE : ∀ m, SndE G K h₀ f.L m s₀ A XN cx.Φ EV) (hS : SndS G K h₀ f s₀ A XN cx SV)
include H hE hS
omit H hE hS in
theorem isEnum_is {g : PySem.Expr} (h : isEnum cx ρ g = true) : ∃ y yp, g = .Name y yp ∧ nameV cx ρ y = some (.typ "enumerate") := by
  cases g with
  | Name y yp =>
    refine iEEA y yp rfl ?_
    have h : (match nameV cx ρ y with | some (.typ n) => n == "enumerate" | _ => false) = true := h
    cases hn : nameV cx ρ y with
    | none => rw [hn] at h; exact Bool.noConfusion h
    | some v =>
      rw [hn] at h
      cases v with
      | typ n => rw [beq_iff_eq.mp h]
      | _ => exact Bool.noConfusion h
  | _ => exact Bool.noConfusion h
theorem for_enum_sound {ts n tp it b pos wf} : SndS1 G K h₀ f s₀ A XN cx (.For (.Tuple ts n tp) it b [] pos) (fun ρ μ k => stepS SV EV CV wf cx ρ (.For (.Tuple ts n tp) it b [] pos) μ k) := by
  intro ρ μ kn r ow0 led0 ce0 m ow led ce ox s Q E h hr S hN hR hX
  obtain ⟨q, hq, h1⟩ := optS_is (show (optS (call1 it) fun q => fitS (nodupS (namesOf ts)) (fitS (allNames ts) (fitS (isEnum cx ρ q.1) (fitS (noStar [q.2.1]) (EV cx ρ q.2.1 μ fun v μ => withList v fun l =>
    loopL (fun v ρ => tupOne v fun vs => bindAll cx vs ts ρ) (fun ρ μ k => SV cx ρ b μ k) (enumL l 0) ρ μ fun ρ μ => kn (frozen ρ) μ))))) = r from h) hr
  clear h
  obtain ⟨g, a, cp⟩ := q
  obtain rfl : it = .Call g [a] [] cp := call1_is hq
  obtain ⟨hnd, h2⟩ := fitS_is h1 hr
  obtain ⟨hall, h3⟩ := fitS_is h2 hr
  obtain ⟨hen, h4⟩ := fitS_is h3 hr
  obtain ⟨hns, h5⟩ := fitS_is h4 hr
  clear h1 h2 h3 h4
  refine eEEA (isEnum_is hen) fun y yp ee2 hnm => ?_
  subst ee2
  refine eEA ((S.hn H).get (pos := yp) hnm) fun gv rg hg => ?_
  obtain ⟨u9, rfl⟩ := rg.inv
  have hh := (H.hyp m).hh
  refine wpAny_For (Call_plain (fun u9 u9 u9 e => PySem.Expr.noConfusion e) (hg S.S .refl ?_)) (fun u9 => rfl)
  refine callWith_plain (P := fun u9 => True) hns (fun h u9 => ⟨.machine, .inr (.inl rfl), .now⟩) ?_
  refine evList_sound (H.hyp m) (hE m) rfl (k := fun vs μ => arg1 vs fun v => withList v fun l => loopL (fun v ρ => tupOne v fun vs => bindAll cx vs ts ρ) (fun ρ μ k => SV cx ρ b μ k) (enumL l 0) ρ μ (fun ρ μ => kn (frozen ρ) μ)) (r := r)
    (by rw [evList_one hns]; exact h5) hr S.S (S.hn H) (fun vs ds s1 l1 c1 μ1 S1 x1 rs h1 => ⟨trivial, ?_⟩) (S.hx H hX)
  clear h5
  refine eEA (arg1_is h1 hr) fun v ee1 h2 => ?_
  subst ee1
  refine eEA (withList_is h2 hr) fun l ee1 h3 => ?_
  subst ee1
  clear h1 h2
  refine eEA (rs.one) fun va ee1 rv => ?_
  subst ee1
  refine eEEAA (rv.inv) fun la us ee2 t1 t2 => ?_
  subst ee2
  have S1' := S.ext S1 x1
  refine call_enumerate_list (S1.list t1) fun h2 he hit hz hk => ?_
  refine wpAny_pyIter_enum he ?_
  refine eEEAA (t1) fun obl k1 i1 oc1 od1 => ?_
  try clear t1
  refine eEA (id hit) fun oi hoi zz => ?_
  have hLs : f.L < s1.heap.objs.size := S1.F.ns.lt
  have h0s : h₀.objs.size ≤ s1.heap.objs.size := Nat.le_trans S1.F.above (Nat.le_of_lt hLs)
  have hnone : ∀ d, s1.heap.objs.size ≤ d → h₀.get? d = none := fun d hd => by
    cases q : h₀.get? d with
    | none => rfl
    | some o => exact absurd (Heap.lt_size q) (Nat.not_lt.mpr (Nat.le_trans h0s hd))
  refine eAAA (S1'.openAt (d := s1.heap.objs.size) hk hoi (fun p hp => Nat.ne_of_lt (S1.fresh p hp)) (fun p hp => Nat.ne_of_lt (S1'.base_lt p hp)) (Nat.ne_of_gt hLs) (hnone _ (Nat.le_refl _))) fun S2 in2 w1 w2 => ?_
  obtain ⟨S3, in3, w3, w4⟩ := S2.openAt (h' := h2) (d := s1.heap.objs.size + 1) (fun u9 u9 x => x) he (fun p hp => by
      rcases List.mem_cons.mp hp with rfl | hp
      · exact Nat.ne_of_lt (Nat.lt_succ_self _)
      · exact Nat.ne_of_lt (Nat.lt_succ_of_lt (S1.fresh p hp))) (fun p hp => Nat.ne_of_lt (Nat.lt_succ_of_lt (S1'.base_lt p hp))) (Nat.ne_of_gt (Nat.lt_succ_of_lt hLs)) (hnone _ (Nat.le_succ _))
  have hla : la < s1.heap.objs.size := Heap.lt_size (S1.get i1)
  have W := WalksT.enumerate (prog := G.prog) (w := G.w) hh (s1.heap.objs.size + 1) s1.heap.objs.size la (Nat.succ_ne_self _) (Nat.ne_of_lt (Nat.lt_succ_of_lt hla)) (Nat.ne_of_lt hla) us.toArray
  have hlen : us.toArray.size = (enumL l 0).length := by rw [enumL_length, ← t2.length]; exact List.size_toArray
  rw [hlen] at W
  refine loop_core H hS (KTurns.ofT (elts := ts) (k := n) (pos := tp) W) (fun i h st b hb => ?_) S3 (fun a ha => ?_) (fun b hb => ?_)
    ⟨⟨_, he⟩, hit, ⟨_, hk _ _ (S1.get i1), oc1, k1, od1⟩⟩ h3 hr ?_ hN hR hX
  · refine eAA (st) fun yy0 e2 e3 => ?_
    try clear st
    obtain ⟨old, e1⟩ := yy0
    simp only [List.mem_cons, List.not_mem_nil, or_false] at hb
    rcases hb with rfl | rfl
    · exact ⟨_, e1⟩
    · obtain ⟨o, q, u9⟩ := e2; exact ⟨o, q⟩
  · simp only [List.mem_cons, List.not_mem_nil, or_false] at ha
    rcases ha with rfl | rfl
    · exact iAA (.head _) w3 w4
    · exact iAA (.tail _ (.head _)) w1 w2
  · simp only [List.mem_cons, List.not_mem_nil, or_false] at hb
    rcases hb with rfl | rfl | rfl
    · exact .inl (.head _)
    · exact .inl (.tail _ (.head _))
    · exact .inr ⟨_, in3 _ _ (in2 _ _ i1)⟩
  · intro i dv v ρ1 μ1 m1 ow1 led1 ce1 ox1 s4 ρ2 ow2 led2 ce2 Q E e S4 hin hce hP hb hQ
    refine eEEAA (hP) fun T vals ee2 yy3 hT => ?_
    try clear hP
    subst ee2
    obtain ⟨t, x, hx, rfl⟩ := yy3
    rw [enumL_get] at e
    cases q : l[i]? with
    | none => rw [q] at e; exact no_of e
    | some d =>
      rw [q] at e
      obtain rfl := Option.some.inj e
      refine eEA (t2.get q) fun v' g1 rv => ?_
      have : x = v' := by
        have : us[i]? = some x := by simpa using hx
        rw [g1] at this; exact (Option.some.inj this).symm
      subst this
      have rv4 := rv.mono (fun a o q => hin _ _ (in3 _ _ (in2 _ _ q))) hce
      dsimp only at hb
      refine eAAA (bindAll_is hb) fun b1 b2 b3 b4 => ?_
      refine eAA (each_stores (G := G) (A := A) (f := f) hall) fun e1 e2 e3 => ?_
      refine unpackN_ S4.S.F S4.S.N hT (H.hyp m).hh (by rw [e2, b2]; rfl) e3 fun h5 F5 N5 => ?_
      have S5 : SNow G K h₀ f s₀ ow2 led2 ce2 ρ1 μ1 m1 ow1 led1 ce1 ox1 { s4 with heap := h5 } := ⟨⟨F5, N5, S4.S.X, S4.S.big, S4.S.C, S4.S.O, let ⟨_, tk, e⟩ := S4.S.sm; ⟨h5, tk, by rw [e]⟩⟩, S4.R, S4.x, S4.sub, S4.fresh, S4.own⟩
      refine stores_sound H e1 (us := [.int i t, x]) (ds := [toI i, d]) (.cons (by rw [toI]; exact .int) (.cons rv4 .nil)) (by rw [namesOf_map hall, List.length_map, b2]; rfl) b4 S5 fun m' s' S' => ?_
      rw [Nat.zero_add] at b3
      exact hQ m' s' (b3 ▸ S')
end
end Mine

end

section
namespace Mine
open PySem PySem.W PySem.Calls PyProof.Rows
section
variable {A : Around} {XN : XNT} {Φ : Nat → List V → Mu → Res} {E : Value → Shared → Prop}
variable {G : Gx} {K : Frag} {h₀ h' : Heap} {L d a : Addr} {m : Str → Option Value} {ow ow0 : List Addr} {s₀ s : Shared} {led led0 : List (Addr × Obj)} {ce ce0 : List Addr} {μ : Mu} {nenv : Env} {ρ : Rho}
variable {cx : Cx} {r : Res}
theorem Now.setW {wr : List Addr} (S : Now G K h₀ L m ow s₀ led ce μ s) (hw : ∀ a ∈ wr, a ∈ ow) (hk : ∀ b o, b ∉ wr → s.heap.get? b = some o → h'.get? b = some o)
    (hex : ∀ b ∈ wr, ∃ o, h'.get? b = some o) (tk : Nat) : Now G K h₀ L m ow s₀ (updW led wr h') ce μ { s with heap := h', toks := tk } := by
  have inU : ∀ b o, In K ow ce led b o → In K ow ce (updW led wr h') b o := fun b o q => by
    rcases q with ⟨q1, q2, q3⟩ | q
    · exact .inl ⟨updW_off q1 fun z => q2 (hw _ z), q2, q3⟩
    · exact .inr q
  have hnews : ∀ a ∈ wr, a ≠ L ∧ h₀.get? a = none := fun a ha => let ⟨o, ho⟩ := S.O a (hw a ha); (S.N _ ho).2
  have hL : L ∉ wr := fun q => (hnews _ q).1 rfl
  refine ⟨⟨S.F.ns.at' fun o e => hk _ o hL e, fun b o e => hk b o (fun q => by rw [(hnews b q).2] at e; cases e) (S.F.keep b o e), S.F.above⟩, fun q hq => ?_, S.X, S.big,
      ⟨S.C.len, S.C.nodup, S.C.off, fun i l e => ?_⟩, fun a ha => ?_, let ⟨_, _, e⟩ := S.sm; ⟨h', tk, by rw [e]⟩⟩
  · refine eEA (List.mem_map.mp hq) fun t ht e => ?_
    have N := S.N t ht
    by_cases hm : t.1 ∈ wr
    · rw [if_pos hm] at e; subst e
      obtain ⟨o, ho⟩ := hex _ hm
      refine ⟨?_, N.2⟩
      show h'.get? t.1 = some ((h'.get? t.1).getD t.2)
      rw [ho]; rfl
    · rw [if_neg hm] at e; subst e
      exact ⟨hk _ _ hm N.1, N.2⟩
  · refine eEEEAA (S.C.at_ i l e) fun a vs n x y z => ?_
    exact iEEEAA a vs n x (updW_off y fun q => S.C.off a (List.mem_of_getElem? x) (hw _ q)) (z.mono inU fun u9 u9 q => q)
  · obtain ⟨o, ho⟩ := S.O a ha
    by_cases hm : a ∈ wr
    · obtain ⟨o', ho'⟩ := hex _ hm
      exact ⟨o', updW_on ho hm ho'⟩
    · exact ⟨o, updW_off ho hm⟩
theorem In.updW {wr : List Addr} (hw : ∀ a ∈ wr, a ∈ ow) {b : Addr} {o : Obj} (q : In K ow ce led b o) : In K ow ce (Mine.updW led wr h') b o := by
  rcases q with ⟨q1, q2, q3⟩ | q
  · exact .inl ⟨updW_off q1 fun z => q2 (hw _ z), q2, q3⟩
  · exact .inr q
theorem Ext.updW {wr : List Addr} (x : Ext led0 ce0 led ce) (hf : ∀ p ∈ led0, p.1 ∉ wr) : Ext led0 ce0 (Mine.updW led wr h') ce :=
  ⟨x.cells, fun p hp hc => updW_off (x.keep p hp hc) (hf p hp)⟩
theorem Now.dropW {wr : List Addr} (S : Now G K h₀ L m ow s₀ led ce μ s) (hw : ∀ a ∈ wr, a ∈ ow) (hk : ∀ b o, b ∉ wr → s.heap.get? b = some o → h'.get? b = some o) (tk : Nat) :
    Now G K h₀ L m (ow.filter (· ∉ wr)) s₀ (led.filter fun p => p.1 ∉ wr) ce μ { s with heap := h', toks := tk } ∧ (∀ b o, In K ow ce led b o → In K (ow.filter (· ∉ wr)) ce (led.filter fun p => p.1 ∉ wr) b o) := by
  have inF : ∀ {q : Addr × Obj}, q ∈ led → q.1 ∉ wr → q ∈ led.filter fun p => p.1 ∉ wr := fun h n => List.mem_filter.mpr ⟨h, by simpa using n⟩
  have ofO : ∀ {a : Addr}, a ∈ ow.filter (· ∉ wr) → a ∈ ow ∧ a ∉ wr := fun h => by have := List.mem_filter.mp h; exact ⟨this.1, by simpa using this.2⟩
  have inU : ∀ b o, In K ow ce led b o → In K (ow.filter (· ∉ wr)) ce (led.filter fun p => p.1 ∉ wr) b o := fun b o q => by
    rcases q with ⟨q1, q2, q3⟩ | q
    · exact .inl ⟨inF q1 fun z => q2 (hw _ z), fun z => q2 (ofO z).1, q3⟩
    · exact .inr q
  have hnews : ∀ a ∈ wr, a ≠ L ∧ h₀.get? a = none := fun a ha => let ⟨o, ho⟩ := S.O a (hw a ha); (S.N _ ho).2
  have hL : L ∉ wr := fun q => (hnews _ q).1 rfl
  refine ⟨⟨⟨S.F.ns.at' fun o e => hk _ o hL e, fun b o e => hk b o (fun q => by rw [(hnews b q).2] at e; cases e) (S.F.keep b o e), S.F.above⟩, fun q hq => ?_, S.X, S.big,
      ⟨S.C.len, S.C.nodup, fun a ha q => S.C.off a ha (ofO q).1, fun i l e => ?_⟩, fun a ha => ?_, let ⟨_, _, e⟩ := S.sm; ⟨h', tk, by rw [e]⟩⟩, inU⟩
  · have ht := List.mem_filter.mp hq
    exact ⟨hk _ _ (by simpa using ht.2) (S.N _ ht.1).1, (S.N _ ht.1).2⟩
  · refine eEEEAA (S.C.at_ i l e) fun a vs n x y z => ?_
    exact iEEEAA a vs n x (inF y fun q => S.C.off a (List.mem_of_getElem? x) (hw _ q)) (z.mono inU fun u9 u9 q => q)
  · obtain ⟨o, ho⟩ := S.O a (ofO ha).1
    exact ⟨o, inF ho (ofO ha).2⟩
theorem Ext.dropW {wr : List Addr} (x : Ext led0 ce0 led ce) (hf : ∀ p ∈ led0, p.1 ∉ wr) : Ext led0 ce0 (led.filter fun p => p.1 ∉ wr) ce :=
  ⟨x.cells, fun p hp hc => List.mem_filter.mpr ⟨x.keep p hp hc, by simpa using hf p hp⟩⟩
theorem Now.openAt (S : Now G K h₀ L m ow s₀ led ce μ s) {o : Obj} (hk : ∀ b o, s.heap.get? b = some o → h'.get? b = some o) (hg : h'.get? d = some o) (hf : ∀ p ∈ led, p.1 ≠ d) (hL : d ≠ L) (hn : h₀.get? d = none) (tk : Nat) :
    Now G K h₀ L m (d :: ow) s₀ ((d, o) :: led) ce μ { s with heap := h', toks := tk } := by
  have F' : Fr h₀ L h' m := ⟨S.F.ns.at' fun o e => hk _ o e, fun b o e => hk b o (S.F.keep b o e), S.F.above⟩
  have N' : News h₀ L h' ((d, o) :: led) := fun q hq => by
    rcases List.mem_cons.mp hq with rfl | hq
    · exact iAA hg hL hn
    · exact ⟨hk _ _ (S.N q hq).1, (S.N q hq).2⟩
  exact S.open_ F' N' hf tk
theorem Now.none_of (S : Now G K h₀ L m ow s₀ led ce μ s) {d : Addr} (hd : s.heap.objs.size ≤ d) : h₀.get? d = none := by
  cases q : h₀.get? d with
  | none => rfl
  | some o => exact absurd (Heap.lt_size q) (Nat.not_lt.mpr (Nat.le_trans (Nat.le_trans S.F.above (Nat.le_of_lt S.F.ns.lt)) hd))
structure CompAt (G : Gx) (K : Frag) (h₀ : Heap) (L : Addr) (m : Str → Option Value) (ow : List Addr) (s₀ : Shared) (led : List (Addr × Obj)) (ce : List Addr) (I C D : Addr) (ow1 : List Addr) (led1 : List (Addr × Obj)) (ce1 : List Addr) (μ1 : Mu) (ys : List Value) (ds : List V) (s : Shared) : Prop where
  S : Now G K h₀ L m ow1 s₀ led1 ce1 μ1 s
  x : Ext led ce led1 ce1
  hI : I ∈ ow1
  hC : C ∈ ow1
  hD : D ∈ ow1
  sub : ∀ a ∈ ow, a ∈ ow1
  inn : ∀ b o, In K ow ce led b o → In K ow1 ce1 led1 b o
  ns : ∃ oC m₂, (C, oC) ∈ led1 ∧ NsIs oC m₂
  acc : ∃ n, (D, lstObj ys n) ∈ led1
  vs : VRs G (In K ow1 ce1 led1) ce1 ys ds
structure FarOff (K : Frag) (ow : List Addr) (led : List (Addr × Obj)) (ce : List Addr) (fp : List Addr) (I C D : Addr) (OW : List Addr) : Prop where
  ic : I ≠ C
  dc : D ≠ C
  id : I ≠ D
  off : ∀ p ∈ led, p.1 ≠ I ∧ p.1 ≠ D ∧ p.1 ≠ C
  sub : ∀ a ∈ C :: ow, a ∈ OW.filter (· ∉ [I])
  co : C ∉ ow
  do_ : D ∉ C :: ow
  fp : ∀ b ∈ fp, b ≠ C ∧ (b = I ∨ ∃ o, In K ow ce led b o)
theorem each_is1 {f : V → Mu → Res} {d : V} {l : List V} {μ : Mu} {k : List V → Mu → Res} {r : Res} (h : evEach f (d :: l) μ k = r) (hr : r ≠ .stuck) :
    ∃ d2 μ2, f d μ = .ret d2 μ2 ∧ evEach f l μ2 (fun es μ => k (d2 :: es) μ) = r := by
  have h : (match f d μ with | .ret d μ => evEach f l μ (fun es μ => k (d :: es) μ) | _ => .stuck) = r := h
  cases q : f d μ with
  | ret d2 μ2 => rw [q] at h; exact ⟨d2, μ2, rfl, h⟩
  | exc n μ2 => rw [q] at h; exact absurd h.symm hr
  | stuck => rw [q] at h; exact absurd h.symm hr
  | next => rw [q] at h; exact absurd h.symm hr
inductive CInv (G : Gx) (K : Frag) (h₀ : Heap) (L : Addr) (m : Str → Option Value) (ow : List Addr) (s₀ : Shared) (led : List (Addr × Obj)) (ce : List Addr) (I C D : Addr) (OW : List Addr) (n : Nat) (Y : Nat → List V → Mu → Heap → Prop) (k : Nat) (s' : Shared) : Prop
  | mk (i : Nat) {led1 ce1 μ1 ys ds} (hk : k = n + 1 - i) (T : CompAt G K h₀ L m ow s₀ led ce I C D OW led1 ce1 μ1 ys ds s') (y : Y i ds μ1 s'.heap) (hi : i ≤ n) (hdl : ds.length = i) : CInv G K h₀ L m ow s₀ led ce I C D OW n Y k s'
variable (H : Hyp G K h₀ L m s₀ A XN Φ) {EV : EF} (hE : SndE G K h₀ L m s₀ A XN Φ EV)
include H hE
omit H in
set_option tactic.hygienic true in
theorem comp_turns {x : Str} {np : Pos} {elt it : PySem.Expr} {sc : Scope} {cl : List (Str × Addr)} {pos : Pos} {fp : List Addr} {P : Nat → Value → Prop} {St : Nat → Heap → Prop} {l : List V} {k : List V → Mu → Res} {PO : Result → Shared → Prop} {I C D : Addr} {OW : List Addr} {led0 : List (Addr × Obj)} {s₃ : Shared} {cx : Cx}
    (hΦ : cx.Φ = Φ) (htop : cx.top = false) (hx : sc.names.lookup x = some .local) (hkind : sc.kind = .function)
    (hn : ∀ {ow' led' ce' v dv C oC m₂}, (∀ a o, In K ow ce led a o → In K ow' ce' led' a o) → Ext led ce led' ce' → ce'.Nodup → (C, oC) ∈ led' → C ∉ ce' → NsIs oC m₂ → m₂ x = some v →
      VR G (In K ow' ce' led') ce' v dv → HNg A G K h₀ L m ow' s₀ (compEnvC sc cl C nenv) cx ((x, .val dv) :: ρ) led' ce')
    (O : FarOff K ow led ce fp I C D OW) (W : Walks G.prog G.w A I fp [I] l.length P St) (hex : ∀ i h, St i h → ∃ o, h.get? I = some o) (hsz : l.length ≤ 100000) (hr : r ≠ .stuck)
    (hV : ∀ {i dv v ow1 led1 ce1}, l[i]? = some dv → (∀ a o, In K ow ce led a o → In K ow1 ce1 led1 a o) → (∀ (i : Nat) a, ce[i]? = some a → ce1[i]? = some a) → P i v → VR G (In K ow1 ce1 led1) ce1 v dv)
    (hRR : ∀ ds led' ce' μ' s', Now G K h₀ L m (C :: ow) s₀ led' ce' μ' s' → (∃ oC m₂, (C, oC) ∈ led' ∧ NsIs oC m₂) → Ext led ce led' ce' → VR G (In K (C :: ow) ce' led') ce' (.ref D) (.list ds) → k ds μ' = r → PO (.ok .next) s')
    (T0 : CompAt G K h₀ L m ow s₀ led ce I C D OW led0 ce μ [] [] s₃) (hst₁ : St 0 s₃.heap) (h : evEach (fun d μ => EV cx ((x, .val d) :: ρ) elt μ .ret) l μ k = r) :
    codeAny (model G.prog G.w) A (.compLoop (.ListComp elt [⟨.Name x np, it, [], 0⟩] sc pos) 0 (.ref I) (.ref D) (compEnvC sc cl C nenv)) PO s₃ := by
  refine gen4 (fun i ds μ1 h => St i h ∧ evEach (fun d μ => EV cx ((x, .val d) :: ρ) elt μ .ret) (l.drop i) μ1 (fun es μ => k (ds ++ es) μ) = r) fun Y hY2 hY1 => ?_
  refine gen_eq (CInv G K h₀ L m ow s₀ led ce I C D OW l.length Y) fun J hJ => ?_
  refine codeAny_compLoop_tests J ?_ (l.length + 1) (by rw [← hJ]; exact .mk 0 rfl T0 (hY2 ⟨hst₁, h⟩) (Nat.zero_le _) rfl)
  clear T0 hst₁ h
  refine gen_eq (notedBy (model G.prog G.w) A (compEnvC sc cl C nenv) (fun x s' => PO (.error x) s')) fun EN hEN => ?_
  rw [hEN]
  clear hEN
  intro k' s' hj
  rw [← hJ] at hj
  refine byC fun hg => ?_
  obtain ⟨i, hk', T, y, hi, hdl⟩ := hj
  rename_i led1 ce1 μ1 ys ds
  obtain ⟨hst', h'⟩ := hY1 y
  refine hg ?_
  clear hg
  by_cases hlt : i < l.length
  · refine W.item i _ _ _ hlt hst' fun v h₂ tk₂ hPv hst₂ hk₂ => ?_
    refine byC fun hg => ?_
    obtain ⟨oC1, m₂, hmC, esC, epC, w1, w2, w3⟩ := T.ns
    refine hg ?_
    clear hg
    have gC1 := (T.S.N _ hmC).1
    have gC2 : h₂.get? C = some oC1 := hk₂ _ _ (out1 (Ne.symm O.ic)) gC1
    have hn2 : h₂.Ns C m₂ := ⟨oC1, esC, epC, gC2, w1, w2, w3⟩
    refine wpAny_assign_Name (wpAny_storeName_local (env := compEnvC sc cl C nenv) (lookup_relabel_local hx) hn2 (fun h₃ hn₃ hs₃ => ?_) (kind_fn hkind _))
    refine wpAny_tests_nil ?_
    show wpAny (model G.prog G.w) A (eval elt _) _ _ _
    have hwr : ∀ a ∈ [I, C], a ∈ OW := mem2 T.hI T.hC
    have hst₃ : St (i + 1) h₃ := W.frame _ _ _ hst₂ fun b hb z e => hs₃.extBut b z (O.fp b hb).1 e
    refine byC fun hg => ?_
    refine eEEEAAA (id hn₃) fun oC3 es3 ep3 gC3 u1 u2 u3 => ?_
    obtain ⟨nD, hmD⟩ := T.acc
    refine hg ?_
    clear hg
    have S4 := T.S.setW (h' := h₃) hwr (fun b z hb e => hs₃.extBut b z (off2 hb).2 (hk₂ b z (fun q => (off2 hb).1 (List.mem_singleton.mp q)) e)) (mem2 (hex _ _ hst₃) ⟨_, gC3⟩) (tk₂ + 1)
    have in4 : ∀ b z, In K (OW) ce1 led1 b z → In K (OW) ce1 (updW led1 [I, C] h₃) b z := fun b z q => q.updW hwr
    have hmC3 : (C, oC3) ∈ updW led1 [I, C] h₃ := updW_on (p := (C, oC1)) hmC (.tail _ (.head _)) gC3
    have hmD3 : (D, lstObj ys nD) ∈ updW led1 [I, C] h₃ := updW_off hmD (out2 (Ne.symm O.id) O.dc)
    have hCce : C ∉ ce1 := fun q => T.S.C.off _ q T.hC
    have x4 : Ext led ce (updW led1 [I, C] h₃) ce1 := T.x.updW fun q hq => out2 (O.off q hq).1 (O.off q hq).2.2
    rw [List.drop_eq_getElem_cons hlt] at h'
    refine byC fun hg => ?_
    refine eEEA (each_is1 h' hr) fun d2 μ2 hev h' => ?_
    refine hg ?_
    clear hg
    have rv := hV (List.getElem?_eq_getElem hlt) (fun b z q => in4 b z (T.inn b z q)) (fun j a e => T.x.get e) hPv
    have HN' : HN A G K h₀ L m (OW) s₀ (compEnvC sc cl C nenv) cx ((x, .val l[i]) :: ρ) (updW led1 [I, C] h₃) ce1 :=
      ⟨hn (fun b z q => in4 b z (T.inn b z q)) x4 T.S.C.nodup hmC3 hCce ⟨es3, ep3, u1, u2, u3⟩ (if_pos rfl) rv, fun q => Bool.noConfusion ((compOk_top htop).symm.trans q)⟩
    refine hE (r := .ret d2 μ2) (by exact hΦ) hev (by simp) S4 HN' (fun y d' s5 led5 ce5 μ5 S5 x5 ry q => ?_) (fun e n s' led' ce' μ' _ _ q => by cases q)
    cases q
    have offD : D ∉ ce1 := fun q => T.S.C.off _ q T.hD
    have mD5 := x5.keep _ hmD3 offD
    have offC5 : C ∉ ce5 := fun q => S5.C.off _ q T.hC
    have offI5 : I ∉ ce5 := fun q => S5.C.off _ q T.hI
    refine append_raw (S5.N _ mD5).1 (by rw [T.vs.length, hdl]; exact Nat.lt_of_lt_of_le hlt hsz) fun h5 n5 hg5 hs5 => ?_
    have S6 := S5.setAt T.hD mD5 hs5 hg5 s5.toks
    have in6 : ∀ b z, In K (OW) ce5 led5 b z → In K (OW) ce5 (upd led5 D (lstObj (ys ++ [y]) n5)) b z := fun b z q => q.upd T.hD
    have in5 : ∀ b z, In K (OW) ce1 led1 b z → In K (OW) ce5 (upd led5 D (lstObj (ys ++ [y]) n5)) b z := fun b z q => in6 b z (x5.inn (in4 b z q))
    have hI3 : ∃ oI, (I, oI) ∈ updW led1 [I, C] h₃ := S4.O I T.hI
    rw [← hJ]
    refine ⟨l.length + 1 - (i + 1), by rw [hk']; lia, .mk (i + 1) rfl (ys := ys ++ [y]) (ds := ds ++ [d2]) ⟨S6, ((x4.trans x5 S5.C.nodup).upd fun q hq => (O.off q hq).2.1), T.hI, T.hC, T.hD, T.sub, fun b z q => in5 b z (T.inn b z q),
        ⟨oC3, _, upd_ne (x5.keep _ hmC3 hCce) (Ne.symm O.dc), es3, ep3, u1, u2, u3⟩, ⟨n5, upd_self mD5⟩, VRs.append (T.vs.mono in5 fun j a e => x5.get e) (.cons (ry.mono in6 fun _ _ e => e) .nil)⟩ (hY2 ⟨W.frame _ _ _ hst₃ (fun b hb z e => ?_), app1 k ds d2 ▸ h'⟩) hlt (by rw [List.length_append, hdl]; rfl)⟩
    rcases (O.fp b hb).2 with rfl | ⟨y', q⟩
    · obtain ⟨oI, hoI⟩ := hI3
      have g1 := (S4.N _ hoI).1
      have : oI = z := Option.some.inj (g1.symm.trans e)
      rw [this] at hoI
      have := x5.keep _ hoI fun q => T.S.C.off _ q T.hI
      exact hs5.extBut _ _ O.id (S5.N _ this).1
    · have q4 := in4 b y' (T.inn b y' q)
      have g1 := S4.get q4
      have : y' = z := Option.some.inj (g1.symm.trans e)
      rw [this] at q4
      exact S6.get (in6 b z (x5.inn q4))
  · have hin' : i = l.length := by lia
    subst hin'
    refine W.done _ _ _ hst' fun h₂ tk₂ hk₂ => ?_
    rw [List.drop_length] at h'
    simp only [evEach, List.append_nil] at h'
    refine byC fun hg => ?_
    obtain ⟨S4, in4⟩ := T.S.dropW (wr := [I]) (h' := h₂) (fun a ha => by rw [List.mem_singleton.mp ha]; exact T.hI) hk₂ tk₂
    refine eEEA (T.ns) fun oC1 m₂ hmC hns1 => ?_
    obtain ⟨nD, hmD⟩ := T.acc
    refine hg ?_
    clear hg
    have hmD4 : (D, lstObj ys nD) ∈ led1.filter fun p => p.1 ∉ [I] := List.mem_filter.mpr ⟨hmD, decide_eq_true (out1 (Ne.symm O.id))⟩
    refine hRR ds _ ce1 μ1 _ (S4.weak O.sub) ⟨oC1, m₂, List.mem_filter.mpr ⟨hmC, decide_eq_true (out1 (Ne.symm O.ic))⟩, hns1⟩ (T.x.dropW fun q hq z => (O.off q hq).1 (List.mem_singleton.mp z)) ?_ h'
    exact .list (.of (n := nD) (.inl ⟨hmD4, O.do_, fun q => T.S.C.off _ q T.hD⟩)) (T.vs.mono (fun b z q => (in4 b z q).weak O.sub) fun _ _ e => e)
theorem comp_loop {x : Str} {np : Pos} {elt it : PySem.Expr} {sc : Scope} {cl : List (Str × Addr)} {pos : Pos} {o : Obj} {fp : List Addr} {P : Nat → Value → Prop} {St : Nat → Heap → Prop} {l : List V} {k : List V → Mu → Res} {RR : Value → Addr → Result → Shared → Prop}
    (hΦ : cx.Φ = Φ) (ho : o.isFreed = false) (hok : compOk cx ρ x sc = true)
    (hn : ∀ {ow' led' ce' v dv C oC m₂}, (∀ a o, In K ow ce led a o → In K ow' ce' led' a o) → Ext led ce led' ce' → ce'.Nodup → (C, oC) ∈ led' → C ∉ ce' → NsIs oC m₂ → m₂ x = some v →
      VR G (In K ow' ce' led') ce' v dv → HNg A G K h₀ L m ow' s₀ (compEnvC sc cl C nenv) { cx with kinds := compKinds x sc, top := false } ((x, .val dv) :: ρ) led' ce')
    (W : Walks G.prog G.w A s.heap.objs.size fp [s.heap.objs.size] l.length P St) (hex : ∀ i h, St i h → ∃ o, h.get? s.heap.objs.size = some o) (S : Now G K h₀ L m ow s₀ led ce μ s)
    (hfp : ∀ b ∈ fp, b = s.heap.objs.size ∨ ∃ o, In K ow ce led b o) (hst : St 0 (s.heap.push o)) (hsz : l.length ≤ 100000)
    (h : evEach (fun d μ => EV { cx with kinds := compKinds x sc, top := false } ((x, .val d) :: ρ) elt μ .ret) l μ k = r) (hr : r ≠ .stuck)
    (hV : ∀ {i dv v ow1 led1 ce1}, l[i]? = some dv → (∀ a o, In K ow ce led a o → In K ow1 ce1 led1 a o) → (∀ (i : Nat) a, ce[i]? = some a → ce1[i]? = some a) → P i v → VR G (In K ow1 ce1 led1) ce1 v dv)
    (hRR : ∀ D C ds led' ce' μ' s', Now G K h₀ L m (C :: ow) s₀ led' ce' μ' s' → C ∉ ow → (∃ oC m₂, (C, oC) ∈ led' ∧ NsIs oC m₂) → (∀ p ∈ led, p.1 ≠ C) → Ext led ce led' ce' → VR G (In K (C :: ow) ce' led') ce' (.ref D) (.list ds) → k ds μ' = r → RR (.ref D) C (.ok .next) s') :
    wpAny (model G.prog G.w) A (newList []) (fun acc s₃ => wpAny (model G.prog G.w) A (newFunctionEnv sc nenv.globals cl [] nenv.qual none .none (some nenv)) (fun cenv s₄ =>
      codeAny (model G.prog G.w) A (.compStart (.ListComp elt [⟨.Name x np, it, [], 0⟩] sc pos) 0 (.ref s.heap.objs.size) acc { cenv with scope := relabel sc nenv }) (RR acc cenv.locals) s₄) E s₃) E { s with heap := s.heap.push o } := by
  refine byC fun hg => ?_
  refine eAA (compOk_is hok) fun hkind hx0 hall => ?_
  refine hg ?_
  clear hg
  have hx : sc.names.lookup x = some .local := by rw [← look_lookup]; exact hx0
  have hcell : ∀ y ∈ sc.names, y.2 ≠ .cell := fun y hy => (nameOk_is (hall y hy)).2.1
  refine wpAny_newObj_type (wpAny_newFunctionEnv hcell (by intro y hy; simp at hy) (fun h₁ hns₁ hsb₁ => ?_) hkind)
  dsimp only at hns₁ hsb₁ ⊢
  generalize hH2 : (s.heap.push o).push { cls := .type "list", dict := none, data := .seq ([] : List Value).toArray } = H2 at hns₁ hsb₁ ⊢
  have hI1 : (s.heap.push o).objs.size = s.heap.objs.size + 1 := Heap.size_push ..
  have hC2 : H2.objs.size = s.heap.objs.size + 2 := by rw [← hH2, Heap.size_push, hI1]
  have hID : s.heap.objs.size ≠ (s.heap.push o).objs.size := by rw [hI1]; exact Nat.ne_of_lt (Nat.lt_succ_self _)
  have hIC : s.heap.objs.size ≠ H2.objs.size := by rw [hC2]; exact Nat.ne_of_lt (Nat.lt_succ_of_lt (Nat.lt_succ_self _))
  have hDC : (s.heap.push o).objs.size ≠ H2.objs.size := by rw [hI1, hC2]; exact Nat.ne_of_lt (Nat.lt_succ_self _)
  have below : ∀ b, b < s.heap.objs.size → b ≠ s.heap.objs.size ∧ b ≠ (s.heap.push o).objs.size ∧ b ≠ H2.objs.size := fun b hb => ⟨Nat.ne_of_lt hb, by rw [hI1]; exact Nat.ne_of_lt (Nat.lt_succ_of_lt hb), by rw [hC2]; exact Nat.ne_of_lt (Nat.lt_succ_of_lt (Nat.lt_succ_of_lt hb))⟩
  have up2 : ∀ b x, H2.get? b = some x → b ≠ H2.objs.size → h₁.get? b = some x := fun b x e hb => hsb₁.extBut b x hb (Heap.get?_push_of_some _ e)
  have up1 : ∀ b x, (s.heap.push o).get? b = some x → H2.get? b = some x := fun b x e => hH2 ▸ Heap.get?_push_of_some _ e
  have up0 : ∀ b x, s.heap.get? b = some x → h₁.get? b = some x := fun b x e => up2 b x (up1 b x (Heap.get?_push_of_some _ e)) (below b (Heap.lt_size e)).2.2
  have gI : h₁.get? s.heap.objs.size = some o := up2 _ _ (up1 _ _ (Heap.get?_push_size _ ho)) hIC
  have gD : h₁.get? (s.heap.push o).objs.size = some (lstObj [] 0) := up2 _ _ (hH2 ▸ Heap.get?_push_size _ rfl) hDC
  refine byC fun hg => ?_
  refine eEEEAAA (id hns₁) fun oC es ep gC hd1 hd2 hd3 => ?_
  refine hg ?_
  clear hg
  have hLlt : L < s.heap.objs.size := S.F.ns.lt
  have hfl : ∀ p ∈ led, p.1 < s.heap.objs.size := S.fresh
  have S1 := S.openAt (d := s.heap.objs.size) up0 gI (fun p hp => (below _ (hfl p hp)).1) (Nat.ne_of_gt hLlt) (S.none_of (Nat.le_refl _)) s.toks
  have S2 := S1.openAt (h' := h₁) (d := (s.heap.push o).objs.size) (fun u9 u9 x => x) gD (fun p hp => by
      rcases List.mem_cons.mp hp with rfl | hp
      · exact hID
      · exact (below _ (hfl p hp)).2.1) (Ne.symm (below _ hLlt).2.1) (S.none_of (by rw [hI1]; exact Nat.le_succ _)) s.toks
  have S3 := S2.openAt (h' := h₁) (d := H2.objs.size) (fun u9 u9 x => x) gC (fun p hp => by
      rcases List.mem_cons.mp hp with rfl | hp
      · exact hDC
      · rcases List.mem_cons.mp hp with rfl | hp
        · exact hIC
        · exact (below _ (hfl p hp)).2.2) (Ne.symm (below _ hLlt).2.2) (S.none_of (by rw [hC2]; exact Nat.le_trans (Nat.le_succ _) (Nat.le_succ _))) (s.toks + ([] : List (Str × Value)).length)
  have notI : s.heap.objs.size ∉ ow := S.newOff.1
  have owlt : ∀ a ∈ ow, a < s.heap.objs.size := fun a ha => let ⟨q, hq⟩ := S.O a ha; hfl (a, q) hq
  generalize hIe : s.heap.objs.size = I at *
  generalize hDe : (s.heap.push o).objs.size = D at *
  generalize hCe : H2.objs.size = C at *
  have in3 : ∀ b x, In K ow ce led b x → In K (C :: D :: I :: ow) ce ((C, oC) :: (D, lstObj [] 0) :: (I, o) :: led) b x := fun b x q => by
    rcases q with ⟨q1, q2, q3⟩ | q
    · refine .inl ⟨.tail _ (.tail _ (.tail _ q1)), fun z => ?_, q3⟩
      have hb := below b (hfl (b, x) q1)
      rcases List.mem_cons.mp z with z | z
      · exact hb.2.2 z
      · rcases List.mem_cons.mp z with z | z
        · exact hb.2.1 z
        · rcases List.mem_cons.mp z with z | z
          · exact hb.1 z
          · exact q2 z
    · exact .inr q
  have hst₁ : St 0 h₁ := W.frame _ _ _ hst fun b hb x e => up2 b x (up1 b x e) (by
    rcases hfp b hb with rfl | ⟨y, q⟩
    · exact hIC
    · exact (below b (hIe ▸ Heap.lt_size (S.get q))).2.2)
  have O : FarOff K ow led ce fp I C D (C :: D :: I :: ow) := ⟨hIC, hDC, hID, fun p hp => below _ (hfl p hp), fun a ha => by
    refine List.mem_filter.mpr ⟨?_, ?_⟩
    · rcases List.mem_cons.mp ha with rfl | ha
      · exact .head _
      · exact .tail _ (.tail _ (.tail _ ha))
    · rcases List.mem_cons.mp ha with rfl | ha
      · simp [Ne.symm hIC]
      · simp; rintro rfl; exact notI ha, fun q => (below C (hIe ▸ owlt C q)).2.2 rfl, fun z => (List.mem_cons.mp z).elim hDC fun z => (below D (hIe ▸ owlt D z)).2.1 rfl,
    fun b hb => ⟨by
      rcases hfp b hb with rfl | ⟨y, q⟩
      · exact hIC
      · exact (below b (hIe ▸ Heap.lt_size (S.get q))).2.2, hfp b hb⟩⟩
  have loop := comp_turns hE (cx := { cx with kinds := compKinds x sc, top := false }) (it := it) (np := np) (pos := pos) hΦ rfl hx hkind hn O W hex hsz hr hV (fun ds led' ce' μ' s' a b c => hRR D C ds led' ce' μ' s' a O.co b (fun q hq => (O.off q hq).2.2) c) (s₃ := { s with heap := h₁, toks := s.toks + ([] : List (Str × Value)).length })
    ⟨S3, ((Ext.push _).trans ((Ext.push _).trans (.push _) S.C.nodup) S.C.nodup), .tail _ (.tail _ (.head _)), .head _, .tail _ (.head _), fun a ha => .tail _ (.tail _ (.tail _ ha)), in3, ⟨oC, _, .head _, es, ep, hd1, hd2, hd3⟩, ⟨0, .tail _ (.head _)⟩, .nil⟩ hst₁ h
  exact codeAny_compStart_list loop (W.self 0 _ _ _ hst₁ loop)
end
end Mine

end

section
namespace Mine
open PySem PySem.W PySem.Calls PyProof.Rows
section
variable {A : Around} {XN : XNT} {Φ : Nat → List V → Mu → Res} {E : Value → Shared → Prop}
variable {G : Gx} {K : Frag} {h₀ h' : Heap} {L d a : Addr} {m : Str → Option Value} {ow ow0 : List Addr} {s₀ s : Shared} {led led0 : List (Addr × Obj)} {ce ce0 : List Addr} {μ : Mu} {nenv : Env} {ρ : Rho}
variable {cx : Cx} {r : Res}
theorem NsIs.ns {C : Addr} {oC : Obj} {m₂ : Str → Option Value} (x : NsIs oC m₂) {h : Heap} (g : h.get? C = some oC) : h.Ns C m₂ := let ⟨es, ep, a, b, c⟩ := x; ⟨oC, es, ep, g, a, b, c⟩
theorem Now.leaveC {C : Addr} (S : Now G K h₀ L m (C :: ow) s₀ led ce μ s) (hC : C ∉ ow) (hs : Heap.SameBut C s.heap h') :
    ∃ led', Now G K h₀ L m ow s₀ led' ce μ { s with heap := h' } ∧ (∀ led0 ce0, Ext led0 ce0 led ce → (∀ p ∈ led0, p.1 ≠ C) → Ext led0 ce0 led' ce) ∧ ∀ b o, In K (C :: ow) ce led b o → In K ow ce led' b o := by
  obtain ⟨S2, in2⟩ := S.dropW (wr := [C]) (h' := h') (fun a ha => by rw [List.mem_singleton.mp ha]; exact .head _) (fun b o hb e => hs.extBut b o (by simpa using hb) e) s.toks
  have hsub : ∀ a ∈ ow, a ∈ (C :: ow).filter (· ∉ [C]) := fun a ha => List.mem_filter.mpr ⟨.tail _ ha, by simp; rintro rfl; exact hC ha⟩
  exact iEAA _ (S2.weak hsub) (fun led0 ce0 x hf => x.dropW fun p hp z => hf p hp (List.mem_singleton.mp z)) (fun b o q => (in2 b o q).weak hsub)
variable (H : Hyp G K h₀ L m s₀ A XN Φ) {EV : EF} (hE : SndE G K h₀ L m s₀ A XN Φ EV)
include H hE
theorem comp_sound : SndComp G K h₀ L m s₀ A XN Φ EV := by
  intro ow cx ρ elt gens sc pos μ k r nenv led ce s Q E hΦ h hr S hn hQ hX
  obtain ⟨q, hq, h1⟩ := optS_is (show (optS (gen1 gens) fun q => fitS (compOk cx ρ q.1 sc) (fitS (notSet q.2.2) (EV cx ρ q.2.2 μ fun v μ => optS (items v) fun l => fitS (fitL l)
    (evEach (fun d μ => EV { cx with kinds := compKinds q.1 sc, top := false } ((q.1, .val d) :: ρ) elt μ .ret) l μ fun ds μ => k (.list ds) μ)))) = r from h) hr
  clear h
  refine byC fun hg => ?_
  obtain ⟨x, np, it⟩ := q
  obtain rfl : gens = [⟨.Name x np, it, [], 0⟩] := gen1_is hq
  obtain ⟨hok, h2⟩ := fitS_is h1 hr
  obtain ⟨hns, h⟩ := fitS_is h2 hr
  refine hg ?_
  clear hg
  clear h1 h2
  have hset : ∀ x, foldedSetIterable it nenv x = pure x := fun x => by cases it <;> first | rfl | cases hns
  refine byC fun hg => ?_
  refine eAA (compOk_is hok) fun hkind hx0 hall => ?_
  refine eEA (hn.comp hok) fun cl hclos hcomp => ?_
  refine hg ?_
  clear hg
  rw [eval_ListComp]
  refine wpAny_comprehension_free (use := none) rfl hset hclos hkind (fun y hy e => by rw [← look_lookup, (nameOk_is (hall y hy)).1, e]) (hE hΦ h hr S hn (fun v d s1 l1 c1 μ1 S1 x1 rv h1 => ?_) hX)
  refine byC fun hg => ?_
  refine eEA (optS_is h1 hr) fun l hit h2 => ?_
  obtain ⟨hfit, h3⟩ := fitS_is h2 hr
  refine hg ?_
  clear hg
  clear h h1 h2
  refine iter_of hit rv S1 H.hh (fun {o fp P St} ho W hex hfp hst hV => ?_)
  refine comp_loop H hE (cl := cl) (RR := fun acc C => compPost (model G.prog G.w) A E none Q acc C) hΦ ho hok (fun hin hx hnd hm hc hns hv hr => hcomp (fun a o q => hin _ _ (x1.inn q)) (x1.trans hx hnd) hnd hm hc hns hv hr) W hex S1 hfp hst (Nat.le_of_ble_eq_true hfit) h3 hr hV
    (fun D C ds led' ce' μ' s' S' hCow ⟨oC, m₂, hm, hns⟩ hfC x' rv' hk => ?_)
  refine ⟨m₂, hns.ns (S'.N _ hm).1, fun h' hs => ?_⟩
  refine byC fun hg => ?_
  refine eEAA (S'.leaveC hCow hs) fun l2 S2 e2 in2 => ?_
  refine hg ?_
  clear hg
  exact hQ _ _ _ _ _ _ S2 (x1.trans (e2 _ _ x' hfC) S2.C.nodup) (rv'.mono in2 fun u9 u9 e => e) hk
end
end Mine

end

section
namespace Mine
open PySem PySem.W PySem.Calls PyProof.Rows
section
variable {A : Around} {XN : XNT} {Φ : Nat → List V → Mu → Res} {E : Value → Shared → Prop}
variable {G : Gx} {K : Frag} {h₀ h' : Heap} {L d a : Addr} {m : Str → Option Value} {ow ow0 : List Addr} {s₀ s : Shared} {led led0 : List (Addr × Obj)} {ce ce0 : List Addr} {μ : Mu} {f : Fx} {ρ : Rho} {ox : Option (Str × Addr × List V)}
variable {p : Program} {loose : List Str} {mg mb : Str → Option Value} {cx : Cx} {r : Res}
theorem SNow.setN {x : Str} {v : Value} {dv : V} {led' : List (Addr × Obj)} {ce' : List Addr} {μ' : Mu} {s' : Shared} (S : SNow G K h₀ f s₀ ow0 led0 ce0 ρ μ m ow led ce ox s) (hl : f.cs.names.lookup x = some .local)
    (S' : Now G K h₀ f.L (fun y => if y = x then some v else m y) ow s₀ led' ce' μ' s') (x' : Ext led ce led' ce') (rv : VR G (In K ow ce' led') ce' v dv) :
    SNow G K h₀ f s₀ ow0 led0 ce0 (put x (.val dv) ρ) μ' (fun y => if y = x then some v else m y) ow led' ce' ox s' := by
  have R := S.R.ext x'
  refine ⟨S', ⟨fun y d' e => ?_, fun y l e => ?_⟩, S.x.trans x' S'.C.nodup, S.sub, S.fresh, fun y a l e => let ⟨h1, h2, vs, n, h3, h4⟩ := S.own y a l e; ⟨h1, h2, vs, n, x'.mem h3 (fun q => S.S.C.off _ q h1), h4.ext x'⟩⟩
  · by_cases hy : y = x
    · subst hy
      rw [look_put_self] at e; cases e
      exact iEAA v rv (fun u9 => by simp) (fun q => by rw [hl] at q; cases q)
    · rw [look_put_ne hy] at e
      refine byC fun hg => ?_
      refine eEAA (R.val y d' e) fun v' r' a b => ?_
      refine hg ?_
      clear hg
      exact iEAA v' r' (fun q => by simp only [if_neg hy]; exact a q) b
  · by_cases hy : y = x
    · subst hy
      rw [look_put_self] at e; cases e
    · rw [look_put_ne hy] at e
      refine byC fun hg => ?_
      refine eEAA (R.own y l e) fun a h1 h2 h3 => ?_
      refine hg ?_
      clear hg
      exact iEAA a h1 (by simp only [if_neg hy]; exact h2) h3
inductive StK : Stmt → Prop where
  | expr (e : PySem.Expr) (p : Pos) : StK (.Expr e p)
  | ret (e : Option PySem.Expr) (p : Pos) : StK (.Return e p)
  | name (x : Str) (np : Pos) (e : PySem.Expr) (p : Pos) : StK (.Assign [.Name x np] e p)
  | tup (ts n tp) (e : PySem.Expr) (p : Pos) : StK (.Assign [.Tuple ts n tp] e p)
  | sub (b i tp) (e : PySem.Expr) (p : Pos) : StK (.Assign [.Subscript b i tp] e p)
  | aug (t e : PySem.Expr) (p : Pos) : StK (.AugAssign t .FloorDiv e p)
  | ifs (t : PySem.Expr) (b o : List Stmt) (p : Pos) : StK (.If t b o p)
  | loop (t : PySem.Expr) (b : List Stmt) (p : Pos) : StK (.While t b [] p)
  | forN (x : Str) (np : Pos) (it : PySem.Expr) (b : List Stmt) (p : Pos) : StK (.For (.Name x np) it b [] p)
  | forT (ts n tp) (it : PySem.Expr) (b : List Stmt) (p : Pos) : StK (.For (.Tuple ts n tp) it b [] p)
  | raise (e : PySem.Expr) (p : Pos) : StK (.Raise (some e) none p)
  | pass (p : Pos) : StK (.Pass p)
theorem stK {SV : SF} {EV : EF} {CV : CF} {wf : Nat} {s : Stmt} {k : Rho → Mu → Res} (h : stepS SV EV CV wf cx ρ s μ k = r) (hr : r ≠ .stuck) : StK s := by
  cases s with
  | Expr e p => exact .expr e p
  | Return e p => exact .ret e p
  | Assign ts e p => cases ts with
    | nil => exact st h hr
    | cons t ts => cases ts with
      | cons _ _ => exact st h hr
      | nil => cases t with
        | Name x np => exact .name x np e p
        | Tuple ts n tp => exact .tup ts n tp e p
        | Subscript b i tp => exact .sub b i tp e p
        | _ => exact st h hr
  | AugAssign t op e p => cases op with
    | FloorDiv => exact .aug t e p
    | _ => exact st h hr
  | If t b o p => exact .ifs t b o p
  | While t b o p => cases o with
    | nil => exact .loop t b p
    | cons _ _ => exact st h hr
  | For t it b o p => cases o with
    | cons _ _ => exact st h hr
    | nil => cases t with
      | Name x np => exact .forN x np it b p
      | Tuple ts n tp => exact .forT ts n tp it b p
      | _ => exact st h hr
  | Raise e c p => cases c with
    | some _ => exact st h hr
    | none => cases e with
      | none => exact st h hr
      | some e => exact .raise e p
  | Pass p => exact .pass p
  | _ => exact st h hr
theorem names_free {x : Str} {l : List (Str × NameKind)} (h : (l.all fun q => match q.2 with | .local => !(seq q.1 x) | .cell => false | _ => true) = true) : (l.any fun (n, k) => n == x && (k == NameKind.local || k == NameKind.cell)) = false := by
  induction l with
  | nil => rfl
  | cons q l ih =>
    obtain ⟨n, k⟩ := q
    obtain ⟨h1, h2⟩ := Bool.and_eq_true_iff.mp h
    show (((n == x) && (k == NameKind.local || k == NameKind.cell)) || l.any _) = false
    rw [ih h2, Bool.or_false]
    cases k with
    | «local» =>
      replace h1 : (!(seq n x)) = true := h1
      rw [seq_beq, (Bool.not_eq_true' _).mp h1]; rfl
    | cell => exact Bool.noConfusion h1
    | _ => exact Bool.and_false _
theorem swaps_is {x : Str} {np p2 : Pos} {elt : PySem.Expr} {gens : List Comprehension} {sc : Scope} {env : Env} {line : Nat} (hct : compTo x np (.ListComp elt gens sc p2) = true) (hb : env.blockKind = .function) (hk : env.kindOf x = some .local) :
    swapsWith (.ListComp elt gens sc p2) (some (.Name x np)) line env = pure true := by
  replace hct : (match Nat.beq np.line p2.line with | true => (sc.names.all fun q => match q.2 with | .local => !(seq q.1 x) | .cell => false | _ => true) | false => false) = true := hct
  cases q : Nat.beq np.line p2.line with
  | false => rw [q] at hct; exact Bool.noConfusion hct
  | true =>
    rw [q] at hct
    show (pure (env.blockKind == .function && env.kindOf x == some .local && np.line == p2.line && !(sc.names.any fun (n, k) => n == x && (k == NameKind.local || k == NameKind.cell))) : Sem Bool) = pure true
    rw [hb, hk, names_free hct, Nat.eq_of_beq_eq_true q, beq_self_eq_true p2.line]
    rfl
variable (H : FrameOk G K h₀ f s₀ A XN cx p loose mg mb)
variable {EV : EF} {CV : CF} {SV : SF} (hE : ∀ m, SndE G K h₀ f.L m s₀ A XN cx.Φ EV)
include H hE
theorem compTo_sound : SndCA G K h₀ f s₀ A XN cx (stepE EV CV) := by
  intro x np elt gens sc p2 pos ρ μ kn r ow0 led0 ce0 m ow led ce ox s Q E hl hct h hr S hN hX
  obtain ⟨q, hq, h1⟩ := optS_is (show (optS (gen1 gens) fun q => fitS (compOk cx ρ q.1 sc) (fitS (notSet q.2.2) (EV cx ρ q.2.2 μ fun v μ => optS (items v) fun l => fitS (fitL l)
    (evEach (fun d μ => EV { cx with kinds := compKinds q.1 sc, top := false } ((q.1, .val d) :: ρ) elt μ .ret) l μ fun ds μ => kn (put x (.val (.list ds)) ρ) μ)))) = r from h) hr
  clear h
  refine byC fun hg => ?_
  obtain ⟨y, yp, it⟩ := q
  obtain rfl : gens = [⟨.Name y yp, it, [], 0⟩] := gen1_is hq
  obtain ⟨hok, h2⟩ := fitS_is h1 hr
  obtain ⟨hns, h⟩ := fitS_is h2 hr
  refine hg ?_
  clear hg
  clear h1 h2
  have hset : ∀ x, foldedSetIterable it f.env x = pure x := fun x => by cases it <;> first | rfl | cases hns
  refine byC fun hg => ?_
  refine eAA (compOk_is hok) fun hkind hx0 hall => ?_
  refine eEA ((S.hn H).comp hok) fun cl hclos hcomp => ?_
  refine hg ?_
  clear hg
  have hl' := isLocal_is hl H.kinds
  have hsw : swapsWith (.ListComp elt [⟨.Name y yp, it, [], 0⟩] sc p2) (some (.Name x np)) pos.line f.env = pure true := swaps_is hct (by unfold Env.blockKind; rw [show f.env.scope.kind = .function from H.kind]; rfl) hl'
  rw [exec_Assign_Name_used _ _ _ _ hsw]
  refine wpAny_bind (wpAny_standAt (wpAny_bind ?_))
  show wpAny _ A (do let _ ← comprehension (.ListComp elt [⟨.Name y yp, it, [], 0⟩] sc p2) sc f.env _ (newList []) false (eval it f.env) (some (assign (.Name x np) f.env))) _ _ s
  refine wpAny_bind (wpAny_mono (wpAny_comprehension_free (use := some (assign (.Name x np) f.env)) (Q := fun u9 s' => Q .next s') rfl hset hclos hkind (fun y hy e => by rw [← look_lookup, (nameOk_is (hall y hy)).1, e])
    (hE m rfl h hr S.S (S.hn H) (fun v d s1 l1 c1 μ1 S1 x1 rv h1 => ?_) (S.hx H hX))) (fun u9 s' hq => wpAny_pure (wpAny_pure hq)) fun u9 u9 e => e)
  refine byC fun hg => ?_
  refine eEA (optS_is h1 hr) fun l hit h2 => ?_
  obtain ⟨hfit, h3⟩ := fitS_is h2 hr
  refine hg ?_
  clear hg
  clear h h1 h2
  refine iter_of hit rv S1 (H.hyp m).hh (fun {o fp P St} ho W hex hfp hst hV => ?_)
  refine comp_loop (H.hyp m) (hE m) (cl := cl) (RR := fun acc C => compPost (model G.prog G.w) A E (some (assign (.Name x np) f.env)) (fun u9 s' => Q .next s') acc C) rfl ho hok (fun hin hx hnd hm hc hns hv hr => hcomp (fun a o q => hin _ _ (x1.inn q)) (x1.trans hx hnd) hnd hm hc hns hv hr) W hex S1 hfp hst (Nat.le_of_ble_eq_true hfit) h3 hr hV
    (fun D C ds led' ce' μ' s' S' hCow ⟨oC, m₂, hm, hns⟩ hfC x' rv' hk => ?_)
  show wpAny _ A (assign (.Name x np) f.env (.ref D)) _ _ _
  refine wpAny_assign_Name (storeX_L S'.F S'.N (fun h2 F2 N2 => ?_) H.kind hl')
  refine iEA m₂ (hns.ns (N2 _ hm).1) (fun h3 hs => ?_)
  have S2 : Now G K h₀ f.L (fun y => if y = x then some (.ref D) else m y) (C :: ow) s₀ led' ce' μ' { s' with heap := h2, toks := s'.toks + 1 } := ⟨F2, N2, S'.X, S'.big, S'.C, S'.O, let ⟨_, _, e⟩ := S'.sm; ⟨h2, _, by rw [e]⟩⟩
  refine byC fun hg => ?_
  refine eEAA (S2.leaveC hCow hs) fun l2 S3 e2 in2 => ?_
  refine hg ?_
  clear hg
  exact hN _ _ _ _ _ _ _ _ (S.setN hl' S3 (x1.trans (e2 _ _ x' hfC) S3.C.nodup) (rv'.mono in2 fun u9 u9 e => e)) hk
variable (hC : ∀ m, SndC G K h₀ f.L m s₀ A XN cx.Φ CV) (hS : SndS G K h₀ f s₀ A XN cx SV) (hA : SndCA G K h₀ f s₀ A XN cx EV)
include hC hS hA
theorem stmt_sound {wf : Nat} (st : Stmt) : SndS1 G K h₀ f s₀ A XN cx st (fun ρ μ k => stepS SV EV CV wf cx ρ st μ k) := by
  intro ρ μ kn r ow0 led0 ce0 m ow led ce ox s Q E h hr S hN hR hX
  cases stK h hr with
  | expr e p => exact expr_sound H hE h hr S hN hR hX
  | ret e p => exact return_sound H hE h hr S hN hR hX
  | name x np e p => exact assign_name_sound H hE hA h hr S hN hR hX
  | tup ts n tp e p => exact assign_tuple_sound H hE h hr S hN hR hX
  | sub b i tp e p => exact assign_sub_sound H hE h hr S hN hR hX
  | aug t e p => exact aug_sound H hE h hr S hN hR hX
  | ifs t b o p => exact if_sound H hC hS h hr S hN hR hX
  | loop t b p => exact while_sound H hC hS h hr S hN hR hX
  | forN x np it b p => exact for_name_sound H hE hS h hr S hN hR hX
  | forT ts n tp it b p => exact for_enum_sound H hE hS h hr S hN hR hX
  | raise e p => exact raise_sound H hE h hr S hN hR hX
  | pass p => exact pass_sound H h hr S hN hR hX
theorem stmts_sound {wf : Nat} : SndS G K h₀ f s₀ A XN cx (stepSs SV EV CV wf) := by
  intro ρ ss μ kn r ow0 led0 ce0 m ow led ce ox s Q E h hr S hN hR hX
  cases ss with
  | nil => exact wpAny_execs_nil (hN _ _ _ _ _ _ _ _ S h)
  | cons st ss =>
    refine wpAny_execs_cons (stmt_sound H hE hC hS hA (wf := wf) st (kn := fun ρ μ => SV cx ρ ss μ kn) (show stepS SV EV CV wf cx ρ st μ (fun ρ μ => SV cx ρ ss μ kn) = r from h) hr S (fun ρ' μ' m' ow' led' ce' ox' s' S' h' => ?_) (fun v d s' m' led' ce' μ' S' x rv e => hR v d s' m' led' ce' μ' S' x rv e) hX)
    exact hS h' hr S' hN hR hX
end
end Mine

end

section
namespace Mine
open PySem PySem.W PySem.Calls PyProof.Rows
section
variable {A : Around} {XN : XNT} {Φ : Nat → List V → Mu → Res}
variable {G : Gx} {K : Frag} {h₀ : Heap} {L : Addr} {m : Str → Option Value} {s₀ : Shared} {f : Fx}
variable {p : Program} {loose : List Str} {mg mb : Str → Option Value} {cx : Cx}
theorem ev_sound (H : Hyp G K h₀ L m s₀ A XN Φ) : ∀ n, SndE G K h₀ L m s₀ A XN Φ (evE n) ∧ SndC G K h₀ L m s₀ A XN Φ (evC n)
  | 0 => ⟨by intro ow cx ρ e μ k r nenv led ce s Q E _ h hr; exact absurd (show Res.stuck = r from h).symm hr, by intro ow cx ρ e μ k r nenv led ce s Q E _ h hr; exact absurd (show Res.stuck = r from h).symm hr⟩
  | n + 1 => by
    obtain ⟨h1, h2⟩ := ev_sound H n
    exact ⟨stepE_sound H h1 h2 (comp_sound H h1), stepC_sound H h1 h2⟩
theorem evCA_sound (H : FrameOk G K h₀ f s₀ A XN cx p loose mg mb) : ∀ n, SndCA G K h₀ f s₀ A XN cx (evE n)
  | 0 => by intro _ _ h hr; exact absurd (show Res.stuck = _ from h).symm hr
  | n + 1 => compTo_sound H (CV := evC n) fun m => (ev_sound (H.hyp m) n).1
theorem evS_sound (H : FrameOk G K h₀ f s₀ A XN cx p loose mg mb) : ∀ n, SndS G K h₀ f s₀ A XN cx (evS n)
  | 0 => by intro h hr; exact absurd (show Res.stuck = _ from h).symm hr
  | n + 1 => stmts_sound H (fun m => (ev_sound (H.hyp m) n).1) (fun m => (ev_sound (H.hyp m) n).2) (evS_sound H n) (evCA_sound H n)
end
end Mine

end

section
namespace Mine
open PySem PySem.W PySem.Calls PyProof.Rows
structure XS (B : Heap) (l : List Env) (e dx : Addr) (cls : Value) (tr : Bool) (h : Heap) : Prop where
  stays : B.StaysIn h
  new : B.get? e = none
  frames : h.FunFrames B l
  obj : ∃ oe vs tv, h.get? e = some oe ∧ oe.cls = cls ∧ oe.dict = some dx ∧ oe.data = .fields vs ∧ vs[1]? = some tv ∧
    ((tv = .none ∧ tr = false) ∨ (tr = true ∧ ∃ T oT ts v3, tv = .ref T ∧ B.get? T = none ∧ T ≠ e ∧ h.get? T = some oT ∧ oT.data = .fields ts ∧ ts[3]? = some v3))
theorem XS.tail {B l env e dx cls tr h} (x : XS B (env :: l) e dx cls tr h) : XS B l e dx cls tr h := ⟨x.stays, x.new, x.frames.2.2, x.obj⟩
section
variable {M : Model} {A : Around} {E : Value → Shared → Prop} {s : Shared} {B : Heap} {env : Env} {outer l : List Env} {L e dx : Addr} {cls : Value} {tr : Bool} {Q : Unit → Shared → Prop}
theorem not_fields {h : Heap} {b T : Addr} {o oT : Obj} {ts : Array Value} (hb : h.get? b = some o) (hn : ∀ vs, o.data ≠ .fields vs) (hT : h.get? T = some oT) (hd : oT.data = .fields ts) : b ≠ T := by
  rintro rfl
  rw [hT] at hb
  cases hb
  exact hn _ hd
theorem XS.flight (x : XS B l e dx cls tr s.heap) {fo : Option Addr} (hQ : ∀ h', XS B l e dx cls tr h' → s.heap.UpToSlots h' → Q () { s with heap := h' }) : wpAny M A (setFlight (.ref e) fo) Q E s := by
  refine byC fun hg => ?_
  refine eEEEAAAAA (x.obj) fun oe vs tv he hc hdx hd h1 hT => ?_
  refine hg ?_
  clear hg
  unfold setFlight
  refine wpAny_bind (wpAny_field he hd h1 ?_)
  rcases hT with ⟨rfl, rfl⟩ | ⟨rfl, T, oT, ts, v3, rfl, hnT, hTe, hT, hdT, h3⟩
  · rw [if_neg (by decide)]
    exact wpAny_pure (hQ _ x (Heap.UpToSlots.refl _))
  · rw [if_pos (show (Value.ref T != Value.none) = true from by simp)]
    have hsz3 : 3 < ts.size := (Array.getElem?_eq_some_iff.mp h3).1
    refine wpAny_setField hT hdT hsz3 (hQ _ ?_ ?_)
    · have other : ∀ b, b ≠ T → (s.heap.update T (Obj.mapFields (·.setIfInBounds 3 (fo.elim Value.none fun f => rawInt f)))).get? b = s.heap.get? b := fun b hb => Heap.get?_update_other _ _ (Ne.symm hb)
      refine ⟨fun b o hbo => (other b fun q => by rw [q, hnT] at hbo; cases hbo).trans (x.stays b o hbo), x.new, x.frames.of_keeps fun b o hb hn => ⟨o, (other b (not_fields hb hn hT hdT)).trans hb, rfl⟩, ?_⟩
      exact ⟨oe, vs, .ref T, (other e (Ne.symm hTe)).trans he, hc, hdx, hd, h1, .inr ⟨rfl, T, _, _, _, rfl, hnT, hTe, Heap.get?_update_self _ hT (Obj.isFreed_of_fields (Obj.data_mapFields hdT _)), Obj.data_mapFields hdT _, by
        rw [Array.getElem?_setIfInBounds_self, if_pos hsz3]⟩⟩
    · intro b o hb hn
      exact ⟨o.slots, (Heap.get?_update_other _ _ (Ne.symm (not_fields hb hn hT hdT))).trans hb⟩
theorem XS.entry (hfr : A.frames = some (env :: outer)) (hf : env.frame = some L) (x : XS B (env :: outer) e dx cls tr s.heap) {head : Value} {hadNext : Bool}
    (hQ : ∀ h', XS B (env :: outer) e dx cls true h' → s.heap.UpToSlots h' → Q () { s with heap := h' }) :
    wpAny M A (do let a ← frameOf env; let pl ← entryPlaceOf L hadNext; let b ← EntryCells.newEntry head a .none (rawInt L) .none pl; setField (.ref e) 1 b) Q E s := by
  refine byC fun hg => ?_
  refine eEEEAAAAA (x.obj) fun oe vs tv he hc hdx hd h1 zz => ?_
  refine hg ?_
  clear hg
  have hsz : 1 < vs.size := (Array.getElem?_eq_some_iff.mp h1).1
  have hene : e ∉ (env :: outer).filterMap (·.frame) := fun hm => by
    refine byC fun hg => ?_
    obtain ⟨u9, o, ho, hnf⟩ := x.frames.mem hm
    refine hg ?_
    clear hg
    rw [he] at ho; cases ho; exact hnf vs hd
  refine wpAny_bind (wpAny_frameOf_fun hfr x.frames hf fun h₁ hs₁ => ?_)
  refine wpAny_bind (wpAny_entryPlaceOf fun pl hpl => ?_)
  unfold EntryCells.newEntry newFields
  refine wpAny_bind (wpAny_newObj_type ?_ (hpl.sizeOk5 _ _ _ _ _))
  generalize hob : ({ cls := .type "traceback", dict := none, data := .fields ([head, .ref L, .none, rawInt L, .none] ++ (if pl.isEmpty then List.replicate 6 Value.none else pl)).toArray } : Obj) = ob
  have hobd : ob.data = .fields ([head, .ref L, .none, rawInt L, .none] ++ (if pl.isEmpty then List.replicate 6 Value.none else pl)).toArray := by rw [← hob]
  have hobf : ob.isFreed = false := Obj.isFreed_of_fields hobd
  have he₁ : h₁.get? e = some oe := (hs₁.2.1 e hene).trans he
  have st₁ : B.StaysIn h₁ := fun b o hbo => (hs₁.2.1 b fun hm => by rw [(x.frames.mem hm).1] at hbo; cases hbo).trans (x.stays b o hbo)
  have he₂ : (h₁.push ob).get? e = some oe := Heap.get?_push_of_some _ he₁
  have hne : h₁.objs.size ≠ e := Nat.ne_of_gt (Heap.lt_size he₁)
  refine wpAny_setField he₂ hd hsz (hQ _ ?_ ?_)
  · have other : ∀ b o, b ≠ e → h₁.get? b = some o → ((h₁.push ob).update e (Obj.mapFields (·.setIfInBounds 1 (Value.ref h₁.objs.size)))).get? b = some o := fun b o hbe hb =>
      (Heap.get?_update_other _ _ (Ne.symm hbe)).trans (Heap.get?_push_of_some _ hb)
    refine ⟨fun b o hbo => other b o (fun q => by rw [q, x.new] at hbo; cases hbo) (st₁ b o hbo), x.new, x.frames.of_keeps fun b o hb hn => ?_, ?_⟩
    · obtain ⟨sl, hs⟩ := hs₁.2.2 b o hb
      exact ⟨_, other b _ (not_fields hb hn he hd) hs, rfl⟩
    · have hd₂ := Obj.data_mapFields hd (·.setIfInBounds 1 (Value.ref h₁.objs.size))
      refine ⟨_, _, .ref h₁.objs.size, Heap.get?_update_self _ he₂ (Obj.isFreed_of_fields hd₂), (Obj.cls_mapFields _ _).trans hc, ?_, hd₂, by rw [Array.getElem?_setIfInBounds_self, if_pos hsz], .inr ⟨rfl, h₁.objs.size, ob, _, rawInt L, rfl, ?_, hne, ?_, hobd, ?_⟩⟩
      · obtain ⟨oc, od, odt, osl⟩ := oe
        cases odt <;> exact hdx
      · cases q : B.get? h₁.objs.size with
        | none => rfl
        | some o => exact absurd (Heap.lt_size (st₁ _ _ q)) (Nat.lt_irrefl _)
      · exact (Heap.get?_update_other _ _ (Ne.symm hne)).trans (Heap.get?_push_at rfl hobf)
      · simp
  · intro b o hb hn
    obtain ⟨sl, hs⟩ := hs₁.2.2 b o hb
    exact ⟨sl, (Heap.get?_update_other _ _ (Ne.symm (not_fields hb hn he hd))).trans (Heap.get?_push_of_some _ hs)⟩
theorem XS.note (hfr : A.frames = some (env :: outer)) (hf : env.frame = some L) (x : XS B (env :: outer) e dx cls tr s.heap)
    (hQ : ∀ h', XS B (env :: outer) e dx cls true h' → s.heap.UpToSlots h' → Q () { s with heap := h' }) : wpAny M A (noteFrame (.ref e) env) Q E s := by
  refine byC fun hg => ?_
  refine eEEEAAAAA (x.obj) fun oe vs tv he hc hdx hd h1 hT => ?_
  refine hg ?_
  clear hg
  unfold noteFrame
  simp only [hf]
  refine wpAny_bind (wpAny_field he hd h1 ?_)
  rcases hT with ⟨rfl, rfl⟩ | ⟨rfl, T, oT, ts, v3, rfl, hnT, hTe, hT, hdT, h3⟩
  · rw [if_neg (by decide)]
    exact x.entry hfr hf hQ
  · rw [if_pos (show (Value.ref T != Value.none) = true from by simp)]
    refine wpAny_bind (wpAny_field hT hdT h3 ?_)
    split
    · exact wpAny_pure (hQ _ x (Heap.UpToSlots.refl _))
    · have hsz3 : 3 < ts.size := (Array.getElem?_eq_some_iff.mp h3).1
      refine wpAny_bind (wpAny_setField hT hdT hsz3 ?_)
      have other : ∀ b, b ≠ T → (s.heap.update T (Obj.mapFields (·.setIfInBounds 3 Value.none))).get? b = s.heap.get? b := fun b hb => Heap.get?_update_other _ _ (Ne.symm hb)
      have up : s.heap.UpToSlots (s.heap.update T (Obj.mapFields (·.setIfInBounds 3 Value.none))) := fun b o hb hn => ⟨o.slots, (other b (not_fields hb hn hT hdT)).trans hb⟩
      have x' : XS B (env :: outer) e dx cls true (s.heap.update T (Obj.mapFields (·.setIfInBounds 3 Value.none))) :=
        ⟨fun b o hbo => (other b fun q => by rw [q, hnT] at hbo; cases hbo).trans (x.stays b o hbo), x.new, x.frames.of_keeps fun b o hb hn => ⟨o, (other b (not_fields hb hn hT hdT)).trans hb, rfl⟩,
          ⟨oe, vs, .ref T, (other e (Ne.symm hTe)).trans he, hc, hdx, hd, h1, .inr ⟨rfl, T, _, _, .none, rfl, hnT, hTe, Heap.get?_update_self _ hT (Obj.isFreed_of_fields (Obj.data_mapFields hdT _)), Obj.data_mapFields hdT _, by
            rw [Array.getElem?_setIfInBounds_self, if_pos hsz3]⟩⟩⟩
      exact XS.entry (s := { s with heap := s.heap.update T (Obj.mapFields (·.setIfInBounds 3 Value.none)) }) hfr hf x' fun h' x'' u => hQ h' x'' (up.trans u)
theorem XS.leave (hfr : A.frames = some (env :: outer)) (hf : env.frame = some L) (x : XS B (env :: outer) e dx cls tr s.heap)
    (hQ : ∀ h', XS B outer e dx cls true h' → s.heap.UpToSlots h' → Q () { s with heap := h' }) : wpAny M A (leaving env (.ref e)) Q E s := by
  unfold leaving
  refine wpAny_bind (x.note hfr hf fun h' x' u => ?_)
  exact XS.flight (s := { s with heap := h' }) x' fun h2 x2 u2 => hQ h2 x2.tail (u.trans u2)
theorem XS.loop {E' : Value → Shared → Prop} (hfr : A.frames = some (env :: outer)) (hf : env.frame = some L) (x : XS B (env :: outer) e dx cls tr s.heap)
    (hQ : ∀ h', XS B (env :: outer) e dx cls true h' → s.heap.UpToSlots h' → E' (.ref e) { s with heap := h' }) :
    notedBy M A env (fun x s' => cameBackBy M A env E' x s') (.ref e) s := by
  refine x.note hfr hf fun h' x' u => ?_
  refine byC fun hg => ?_
  refine eEEEAAAAA (x'.obj) fun oe vs tv he hc hdx hd h1 hT => ?_
  refine hg ?_
  clear hg
  rcases hT with ⟨_, q⟩ | ⟨_, T, oT, ts, v3, rfl, _⟩
  · cases q
  show wpAny M A _ _ _ _
  refine wpAny_bind (wpAny_field he hd h1 ?_)
  rw [if_neg (show ¬((Value.ref T == Value.none) = true) from by simp)]
  exact XS.flight (s := { s with heap := h' }) x' fun h2 x2 u2 => hQ h2 x2 (u.trans u2)
end
end Mine

end

section
namespace Mine
open PySem PySem.W PySem.Calls PyProof.Rows
theorem zip_look {α : Type} : ∀ {ns : List Str} {vs : List α}, ns.Nodup → vs.length = ns.length → ns.filterMap (fun n => ((ns.zip vs).lookup n).map (n, ·)) = ns.zip vs
  | [], vs, _, _ => rfl
  | n :: ns, [], _, h => by simp at h
  | n :: ns, v :: vs, hn, h => by
    have hn' := List.nodup_cons.mp hn
    rw [List.zip_cons_cons, List.filterMap_cons]
    simp only [List.lookup_cons, beq_self_eq_true, Option.map_some]
    congr 1
    have ih := zip_look hn'.2 (show vs.length = ns.length by simpa using h)
    have cg : ∀ l : List Str, (∀ m ∈ l, m ≠ n) → l.filterMap (fun m => Option.map (m, ·) (match m == n with | true => some v | false => (ns.zip vs).lookup m)) = l.filterMap (fun m => ((ns.zip vs).lookup m).map (m, ·)) := by
      intro l
      induction l with
      | nil => intro _; rfl
      | cons m l ih =>
        intro hm
        have : (m == n) = false := beq_eq_false_iff_ne.mpr (hm m (.head _))
        rw [List.filterMap_cons, List.filterMap_cons, ih fun x hx => hm x (.tail _ hx), this]
    exact (cg ns fun m hm e => hn'.1 (e ▸ hm)).trans ih
theorem zip_some {α : Type} : ∀ {ns : List Str} {vs : List α}, vs.length = ns.length → ∀ n ∈ ns, ((ns.zip vs).lookup n).isSome = true
  | [], vs, _, n, hn => by cases hn
  | m :: ns, [], h, _, _ => by simp at h
  | m :: ns, v :: vs, h, n, hn => by
    rw [List.zip_cons_cons, List.lookup_cons]
    cases q : n == m with
    | true => rfl
    | false =>
      rcases List.mem_cons.mp hn with rfl | hn
      · simp at q
      · exact zip_some (by simpa using h) n hn
theorem if_no {c : Prop} [Decidable c] {α : Type} {t e x : α} (h : ¬ c) (he : e = x) : ite c t e = x := (if_neg h).trans he
theorem drop_e (n : Nat) : List.drop n ((none : Option (Array Value)).getD #[]).toList = [] := List.drop_nil
theorem bind_simple {fd : FuncData} {as : List Arg} (hp : fd.params = ⟨[], as, none, [], [], none, []⟩) (hd : fd.defaults = .none) (hnd : (as.map (·.arg)).Nodup) {vs : List Value} (hl : vs.length = as.length) :
    bindArgs fd ⟨vs, []⟩ = pure ((as.map (·.arg)).zip vs) := by
  have hl' : vs.length = (as.map (·.arg)).length := hl.trans (List.length_map ..).symm
  cases fd
  cases hp
  cases hd
  refine if_no (c := (decide (vs.length > (as.map (·.arg)).length) && true) = true) (fun h => ?_) ?_
  · rw [hl', Bool.and_true] at h
    exact Nat.lt_irrefl _ (of_decide_eq_true h)
  · rw [drop_e, List.zip_nil_right]
    refine if_no (c := (!(List.filter (fun n => (((as.map (·.arg)).zip vs).lookup n).isNone) ((as.map (·.arg)).take (as.map (·.arg)).length)).isEmpty) = true) (fun h => ?_) ?_
    · have e : (List.filter (fun n => (((as.map (·.arg)).zip vs).lookup n).isNone) ((as.map (·.arg)).take (as.map (·.arg)).length)) = [] := by
        rw [List.filter_eq_nil_iff]
        intro n hn he
        have := zip_some hl' n (List.mem_of_mem_take hn)
        cases q : ((as.map (·.arg)).zip vs).lookup n with
        | none => rw [q] at this; cases this
        | some v => rw [q] at he; cases he
      rw [e] at h
      cases h
    · refine Eq.trans ?_ (congrArg pure (zip_look hnd hl'))
      show (pure (List.filterMap _ (as.map (·.arg) ++ [])) : Sem _) = _
      rw [List.append_nil]
      rfl
end Mine

end

section
namespace Mine
open PySem PySem.W PySem.Calls PyProof.Rows
theorem cellsFrom_ge : ∀ (names : List (Str × NameKind)) (k j : Nat) (acc : List (Str × Addr)), j ≤ k → (∀ q ∈ acc, j ≤ q.2) → ∀ q ∈ cellsFrom k names acc, j ≤ q.2
  | [], k, j, acc, _, h => h
  | (n, kd) :: r, k, j, acc, hk, h => by
    unfold cellsFrom
    split
    · exact cellsFrom_ge r (k + 1) j _ (Nat.le_succ_of_le hk) fun q hq => (List.mem_cons.mp hq).elim (fun e => by rw [e]; exact hk) (h q)
    · exact cellsFrom_ge r k j acc hk h
theorem CellsAre.look {cm : Str → Option Value} {cs : List (Str × Addr)} {cells : List (Addr × Obj)} (h : CellsAre cm cs cells) {x : Str} {c : Addr} (e : cs.lookup x = some c) : ∃ o, (c, o) ∈ cells ∧ o.data = .cell (cm x) := by
  induction h with
  | nil => cases e
  | @cons n c' o cs cells hd _ ih =>
    rw [List.lookup_cons] at e
    cases q : x == n with
    | true => rw [q] at e; cases e; rw [eq_of_beq q]; exact ⟨o, .head _, hd⟩
    | false => rw [q] at e; obtain ⟨o', h1, h2⟩ := ih e; exact ⟨o', .tail _ h1, h2⟩
section
variable {kd : Str → Option NameKind}
theorem bindL_not {x : Str} : ∀ {binds : List (Str × Value)} {m}, x ∉ binds.map (·.1) → bindL kd binds m x = m x
  | [], _, _ => rfl
  | (n, v) :: r, m, h => by
    simp only [List.map_cons, List.mem_cons, not_or] at h
    unfold bindL
    rw [bindL_not h.2]
    split
    · simp only [if_neg h.1]
    · rfl
theorem bindL_mem {x : Str} {v : Value} (hk : kd x = some .local) : ∀ {binds : List (Str × Value)} {m}, (binds.map (·.1)).Nodup → (x, v) ∈ binds → bindL kd binds m x = some v
  | (n, u) :: r, m, hn, h => by
    simp only [List.map_cons, List.nodup_cons] at hn
    unfold bindL
    rcases List.mem_cons.mp h with e | h
    · cases e
      rw [bindL_not hn.1, if_pos hk]; simp
    · exact bindL_mem hk hn.2 h
theorem bindC_not {x : Str} : ∀ {binds : List (Str × Value)} {m}, x ∉ binds.map (·.1) → bindC kd binds m x = m x
  | [], _, _ => rfl
  | (n, v) :: r, m, h => by
    simp only [List.map_cons, List.mem_cons, not_or] at h
    unfold bindC
    rw [bindC_not h.2]
    split
    · rfl
    · simp only [if_neg h.1]
theorem bindC_mem {x : Str} {v : Value} (hk : kd x ≠ some .local) : ∀ {binds : List (Str × Value)} {m}, (binds.map (·.1)).Nodup → (x, v) ∈ binds → bindC kd binds m x = some v
  | (n, u) :: r, m, hn, h => by
    simp only [List.map_cons, List.nodup_cons] at hn
    unfold bindC
    rcases List.mem_cons.mp h with e | h
    · cases e
      rw [bindC_not hn.1, if_neg hk]; simp
    · exact bindC_mem hk hn.2 h
end
theorem argsRho_is {G : Gx} {I : Addr → Obj → Prop} {ce : List Addr} {x : Str} {sl : Slot} {ps : List Str} : ∀ {ds : List V} {vs : List Value} {ρ : Rho}, argsRho ps ds = some ρ → VRs G I ce vs ds → look x ρ = some sl → ∃ v d, sl = .val d ∧ VR G I ce v d ∧ (x, v) ∈ ps.zip vs := by
  induction ps with
  | nil => intro ds vs ρ h r e; cases ds with
    | nil => rw [← Option.some.inj (show some [] = some ρ from h)] at e; exact no_of e
    | cons _ _ => exact no_of h
  | cons p ps ih => intro ds vs ρ h r e; cases ds with
    | nil => exact no_of h
    | cons d ds =>
      refine byC fun hg => ?_
      replace h : (argsRho ps ds).map ((p, .val d) :: ·) = some ρ := h
      cases q : argsRho ps ds with
      | none => rw [q] at h; exact no_of h
      | some ρ' =>
        rw [q] at h
        rw [← Option.some.inj (show some ((p, .val d) :: ρ') = some ρ from h)] at e
        cases r with
        | cons r1 r2 =>
          cases hx : seq x p with
          | true => exact hg (iEEAA _ d (Option.some.inj ((look_hit (p := (p, Slot.val d)) hx).symm.trans e)).symm r1 (by rw [seq_iff.mp hx]; exact .head _))
          | false => exact eEEAA (ih q r2 ((look_miss (p := (p, Slot.val d)) hx).symm.trans e)) fun v' d' h1 h2 h3 => hg (iEEAA v' d' h1 h2 (.tail _ h3))
theorem argsRho_len : ∀ {ps : List Str} {ds : List V} {ρ : Rho}, argsRho ps ds = some ρ → ds.length = ps.length
  | [], [], _, _ => rfl
  | [], _ :: _, _, h => by cases h
  | _ :: _, [], _, h => by cases h
  | p :: ps, d :: ds, ρ, h => by
    unfold argsRho at h
    cases q : argsRho ps ds with
    | none => rw [q] at h; cases h
    | some ρ' => simp [argsRho_len q]

noncomputable def NumAt (B : Heap) (dx : Addr) (n : Int) : Prop := ∃ o t, B.get? dx = some o ∧ lookIn "number" o = some (some (.int n t))
structure FCtx (K : Frag) (p : Program) (loose : List Str) (mean : ExcName → Option Value) (mg mb : Str → Option Value) (base : Heap) (d : Nat) (A : Around) (outer : List Env) (h₀ : Heap) (f : Fx) : Prop where
  fr : A.frames = some (f.env :: outer)
  st : base.StaysIn h₀
  ff : h₀.FunFrames base outer
  T : Top p loose mean mg mb h₀
  X : K.In h₀
  hk : f.cs.kind = .function
  hh : A.handled = none
  room : A.depth + d + 10 < recursionLimit
  hu : A.units + 3 * d + 300 < cLine
  hg : A.guards = some []
structure XNF (G : Gx) (K : Frag) (base : Heap) (outer : List Env) (h₀ : Heap) (f : Fx) (s₀ : Shared) (e : Value) (n : Int) (ow : List Addr) (led : List (Addr × Obj)) (ce : List Addr) (μ : Mu) (s : Shared) : Prop where
  ex : ∃ ea dx tr B, e = .ref ea ∧ XS B (f.env :: outer) ea dx (.ref (G.cA 0)) tr s.heap ∧ base.StaysIn B ∧ NumAt B dx n ∧ ∀ p ∈ led, B.get? p.1 = some p.2
  news : ∀ p ∈ led, p.1 ≠ f.L ∧ h₀.get? p.1 = none
  up : h₀.UpToSlots s.heap
  C : Cells G K ow led ce μ
  O : ∀ a ∈ ow, ∃ o, (a, o) ∈ led
  sm : ∃ h tk, s = { s₀ with heap := h, toks := tk }
theorem Cells.weak {G : Gx} {K : Frag} {ow ow0 : List Addr} {led : List (Addr × Obj)} {ce : List Addr} {μ : Mu} (C : Cells G K ow led ce μ) (hs : ∀ a ∈ ow0, a ∈ ow) : Cells G K ow0 led ce μ :=
  ⟨C.len, C.nodup, fun a ha hh => C.off a ha (hs _ hh), fun i l e => let ⟨a, vs, n, x, y, z⟩ := C.at_ i l e; ⟨a, vs, n, x, y, z.mono (fun u9 u9 q => q.weak hs) fun u9 u9 q => q⟩⟩
section
variable {G : Gx} {K : Frag} {p : Program} {loose : List Str} {mean : ExcName → Option Value} {mg mb : Str → Option Value} {base h₀ : Heap} {d : Nat} {A : Around} {outer : List Env} {f : Fx} {s₀ : Shared}
theorem XNF.xnd {e n ow led ce μ s} (x : XNF G K base outer h₀ f s₀ e n ow led ce μ s) : ce.Nodup := x.C.nodup
theorem XNF.xw {e n ow ow0 led ce μ s} (x : XNF G K base outer h₀ f s₀ e n ow led ce μ s) (h : ∀ a ∈ ow0, a ∈ ow) : XNF G K base outer h₀ f s₀ e n ow0 led ce μ s :=
  ⟨x.ex, x.news, x.up, x.C.weak h, fun a ha => x.O a (h a ha), x.sm⟩
theorem XNF.loop (C : FCtx K p loose mean mg mb base d A outer h₀ f) {M : Model} {e n ow led ce μ s} {E : Value → Shared → Prop} (x : XNF G K base outer h₀ f s₀ e n ow led ce μ s) (hE : ∀ s', XNF G K base outer h₀ f s₀ e n ow led ce μ s' → E e s') :
    notedBy M A f.env (fun x s' => cameBackBy M A f.env E x s') e s := by
  refine byC fun hg => ?_
  refine eEEEEAAAA (x.ex) fun ea dx tr B ee4 X hB hn hl => ?_
  subst ee4
  refine hg ?_
  clear hg
  refine X.loop C.fr rfl fun h' X' u => hE _ ⟨⟨ea, dx, true, B, rfl, X', hB, hn, hl⟩, x.news, x.up.trans u, x.C, x.O, let ⟨_, tk, e⟩ := x.sm; ⟨h', tk, by rw [e]⟩⟩
theorem XNF.leave {M : Model} {h₁ : Heap} {m : Str → Option Value} {env' : Fx} {A' : Around} (C : FCtx K p loose mean mg mb base d A outer h₀ f) (FG : Fr h₀ f.L h₁ m) (hf : A'.frames = some (env'.env :: f.env :: outer)) {e n ow led ce μ s} {Q : Unit → Shared → Prop} {E : Value → Shared → Prop}
    (x : XNF G K base (f.env :: outer) h₁ env' s₀ e n ow led ce μ s) (hQ : ∀ s', XNF G K base outer h₀ f s₀ e n ow led ce μ s' → s'.heap.Ns f.L m → Q () s') : wpAny M A' (leaving env'.env e) Q E s := by
  refine byC fun hg => ?_
  refine eEEEEAAAA (x.ex) fun ea dx tr B ee4 X hB hn hl => ?_
  subst ee4
  refine hg ?_
  clear hg
  refine X.leave hf rfl fun h' X' u => ?_
  have up : h₁.UpToSlots h' := x.up.trans u
  refine hQ _ ⟨⟨ea, dx, true, B, rfl, X', hB, hn, hl⟩, fun p hp => ⟨fun q => ?_, ?_⟩, (Heap.UpToSlots.of_keeps FG.keep).trans up, x.C, x.O, let ⟨_, tk, e⟩ := x.sm; ⟨h', tk, by rw [e]⟩⟩ (up.ns FG.ns)
  · refine eEEEA (FG.ns) fun o zz zz ho zz => ?_
    have := (x.news p hp).2
    rw [q, ho] at this; cases this
  · cases q : h₀.get? p.1 with
    | none => rfl
    | some o => have := (x.news p hp).2; rw [FG.keep _ _ q] at this; cases this
end
end Mine

end

section
namespace Mine
open PySem PySem.W PySem.Calls PyProof.Rows
noncomputable def FnOk (i : Nat) (fd : FuncData) : Prop := ∃ name qual as body scope dV kV doc pm an cdv ct,
  fd = fnX name qual ⟨[], as, none, [], [], none, []⟩ body scope [] dV kV doc pm an cdv ct ∧ dV = .none ∧ fnInfo i = some ⟨as.map (·.arg), body, scope.names⟩ ∧ (as.map (·.arg)).Nodup ∧
  scope.kind = .function ∧ scope.isCoroutine = false ∧ scope.isGenerator = false ∧ (∀ y ∈ scope.names, y.2 ≠ .free) ∧
  (∀ x ∈ as.map (·.arg), scope.names.lookup x = some .local ∨ scope.names.lookup x = some .cell) ∧ ((cellsFrom 0 scope.names []).map (·.1)).Nodup
noncomputable abbrev mkCx (kinds : List (Str × NameKind)) (Φ : Nat → List V → Mu → Res) : Cx := { top := true, kinds := kinds, gl := gl, isCell := fun u9 => false, Φ := Φ }
theorem lookup_nofree {names : List (Str × NameKind)} (h : ∀ y ∈ names, y.2 ≠ .free) {x : Str} : names.lookup x ≠ some .free := fun e => h _ (lookup_mem e) rfl
section
variable {G : Gx} {K : Frag} {p : Program} {loose : List Str} {mean : ExcName → Option Value} {mg mb : Str → Option Value} {base : Heap}
structure Rest (G : Gx) (K : Frag) (p : Program) (loose : List Str) (mean : ExcName → Option Value) (mg mb : Str → Option Value) (base : Heap) : Prop where
  gl : GlobOk G K gl
  raiseX : ∀ {d A outer h₀ f s₀}, FCtx K p loose mean mg mb base d A outer h₀ f → ∀ {va vb n x m ow led ce μ s Q E}, Now G K h₀ f.L m ow s₀ led ce μ s → VR G (In K ow ce led) ce va (.int n) → VR G (In K ow ce led) ce vb (.str x) →
    (∀ e s' led' ce', XNF G K base outer h₀ f s₀ e n ow led' ce' μ s' → Ext led ce led' ce' → E e s') → wpAny (model G.prog G.w) A (call (.ref (G.cA 0)) [va, vb]) (fun xv s₁ => wpAny (model G.prog G.w) A (raiseTail f.env xv) Q E s₁) E s
noncomputable def HypF (G : Gx) (K : Frag) (p : Program) (loose : List Str) (mean : ExcName → Option Value) (mg mb : Str → Option Value) (base : Heap) (d : Nat) (Φ : Nat → List V → Mu → Res) : Prop :=
  ∀ {A outer h₀ f}, FCtx K p loose mean mg mb base d A outer h₀ f → ∀ m s₀, Hyp G K h₀ f.L m s₀ A (XNF G K base outer h₀ f s₀) Φ
theorem frameOk {d : Nat} {A : Around} {outer : List Env} {h₀ : Heap} {f : Fx} {s₀ : Shared} {Φ : Nat → List V → Mu → Res} (R : Rest G K p loose mean mg mb base) (H : HypF G K p loose mean mg mb base d Φ) (C : FCtx K p loose mean mg mb base d A outer h₀ f)
    (hf : ∀ y ∈ f.cs.names, y.2 ≠ .free) (ic : Pos → Bool) : FrameOk G K h₀ f s₀ A (XNF G K base outer h₀ f s₀) { top := true, kinds := f.cs.names, gl := gl, isCell := ic, Φ := Φ } p loose mg mb :=
  ⟨fun m => H C m s₀, C.hk, topRead_of C.T, C.X, R.gl, rfl, hf, fun S ra rb hE => R.raiseX C S ra rb hE, fun x hE => x.loop C hE⟩
theorem call_in {i : Nat} {fd : FuncData} {a : Addr} {d : Nat} {A : Around} {outer : List Env} {h₀ : Heap} {f : Fx} {s₀ : Shared} {m : Str → Option Value} {ow : List Addr} {led : List (Addr × Obj)} {ce : List Addr} {μ : Mu} {s : Shared} {vs : List Value} {args : List V}
    {Φ : Nat → List V → Mu → Res} {r : Res} {Q E : Value → Shared → Prop} (R : Rest G K p loose mean mg mb base) (H : HypF G K p loose mean mg mb base d Φ) (C : FCtx K p loose mean mg mb base (d + 1) A outer h₀ f)
    (hfd : FnOk i fd) {o : Obj} (ho : s.heap.get? a = some o) (hod : o.data = .func fd) (hcd : s.heap.CodeRec fd.code fd.qualname) (S : Now G K h₀ f.L m ow s₀ led ce μ s) (rs : VRs G (In K ow ce led) ce vs args)
    (h : ∀ F, fnInfo i = some F → runF Φ F args μ = r) (hr : outR r = true) (hQ : Then G K h₀ f.L m ow s₀ led ce (fun v μ' => r = .ret v μ') Q)
    (hE : ∀ e n s' led' ce' μ', XNF G K base outer h₀ f s₀ e n ow led' ce' μ' s' → s'.heap.Ns f.L m → Ext led ce led' ce' → r = .exc n μ' → E e s') : wpAny (model G.prog G.w) A (call (.ref a) vs) Q E s := by
  refine byC fun hg => ?_
  obtain ⟨name, qual, as, body, scope, dV, kV, doc, pm, an, cdv, ct, rfl, rfl, hi, hnd, hk, hco, hgen, hfree, hpk, hcn⟩ := hfd
  refine hg ?_
  clear hg
  have hrs : r ≠ .stuck := fun e => by rw [e] at hr; cases hr
  replace h := h _ hi
  unfold runF at h
  dsimp only at h
  cases hρ : argsRho (as.map (·.arg)) args with
  | none => rw [hρ] at h; exact absurd h.symm hrs
  | some ρ =>
  rw [hρ] at h
  dsimp only at h
  have hlen : vs.length = as.length := by rw [rs.length, argsRho_len hρ]; simp
  refine wpAny_call (callX_cells (A₀ := { A with frames := some outer }) (env := f.env) (m := m) (news := led) (base := base) (binds := (as.map (·.arg)).zip vs) ⟨rfl, C.st, C.ff⟩ S.F S.N C.T.nolimit C.fr rfl C.hk ho hod hcd (by have := C.room; lia) (BindsTo.of_eq (bind_simple rfl rfl hnd hlen)) (fun n x hx => ?_) hcn
    (fun g L' h₁ tk cells FG F' N' Y B' st lt => ?_) hco hgen hk)
  · have hx' : x.1 ∈ as.map (·.arg) := (List.of_mem_zip hx).1
    rcases hpk _ hx' with q | q
    · exact .inl q
    · exact .inr ⟨q, cellsFrom_some _ _ _ (.inl q)⟩
  · have hkeys : ((as.map (·.arg)).zip vs).map (·.1) = as.map (·.arg) := List.map_fst_zip (by simp [hlen])
    have hnd' : (((as.map (·.arg)).zip vs).map (·.1)).Nodup := by rw [hkeys]; exact hnd
    let f' : Fx := ⟨qual, scope, L', a, cdv, cellsFrom (L' + 1) scope.names []⟩
    have C' : FCtx K p loose mean mg mb base d (A.deeper f'.env) (f.env :: outer) g f' :=
      ⟨Around.frames_deeper C.fr, B'.stays, B'.frames, C.T.keeps st, C.X.keeps st, hk, C.hh, by have := C.room; show A.depth + 1 + d + 10 < _; lia, by have := C.hu; show A.units + 3 + 3 * d + 300 < _; lia, C.hg⟩
    have hcge : ∀ q ∈ cells, L' + 1 ≤ q.1 := by
      have : ∀ {cs cl cm}, CellsAre cm cs cl → (∀ q ∈ cs, L' + 1 ≤ q.2) → ∀ q ∈ cl, L' + 1 ≤ q.1 := by
        intro cs cl cm hc
        induction hc with
        | nil => intro _ q hq; cases hq
        | cons _ _ ih =>
          intro hge q hq
          rcases List.mem_cons.mp hq with rfl | hq
          · exact hge _ (.head _)
          · exact ih (fun q hq => hge q (.tail _ hq)) q hq
      exact this Y (cellsFrom_ge _ _ _ _ (Nat.le_refl _) (fun q hq => by cases hq))
    have sub : ∀ q ∈ led, q ∈ cells ++ led := fun q hq => List.mem_append_right _ hq
    have x0 : Ext led ce (cells ++ led) ce := ⟨⟨[], by simp, by simp⟩, fun q hq u9 => sub q hq⟩
    have offC : ∀ q ∈ cells, q.1 ∉ ce ∧ q.1 ∉ ow := fun q hq => by
      have h1 := hcge q hq
      refine ⟨fun hc => ?_, fun hc => ?_⟩
      · obtain ⟨o', ho'⟩ := S.C.mem hc
        have := lt _ ho'
        exact absurd this (Nat.not_lt.mpr (Nat.le_of_lt h1))
      · obtain ⟨o', ho'⟩ := S.O _ hc
        have := lt _ ho'
        exact absurd this (Nat.not_lt.mpr (Nat.le_of_lt h1))
    have S' : Now G K g L' (bindL f'.env.kindOf ((as.map (·.arg)).zip vs) fun u9 => none) ow s₀ (cells ++ led) ce μ { s with heap := h₁, toks := tk } :=
      ⟨F', N', C.X.keeps st, C.T.nolimit.keeps st, S.C.ext sub, fun b hb => let ⟨o', q⟩ := S.O b hb; ⟨o', sub _ q⟩, let ⟨_, _, e⟩ := S.sm; ⟨h₁, tk, by rw [e]⟩⟩
    have RR : RhoOk G K f' (bindL f'.env.kindOf ((as.map (·.arg)).zip vs) fun u9 => none) ow (cells ++ led) ce ρ none := by
      refine ⟨fun x dv e => ?_, fun x l e => ?_⟩
      · refine eEEAA (argsRho_is hρ rs e) fun v dv' e1 r1 hm => ?_
        cases e1
        refine iEAA v (r1.ext x0) (fun hkd => bindL_mem hkd hnd' hm) (fun hkd => ?_)
        have hcs := cellsFrom_some (x := x) scope.names (L' + 1) [] (.inl hkd)
        refine byC fun hg => ?_
        obtain ⟨c, hc⟩ := Option.isSome_iff_exists.mp hcs
        refine eEA (CellsAre.look Y hc) fun oc hoc hod' => ?_
        refine hg ?_
        clear hg
        refine iEEAAAA c oc hc (List.mem_append_left _ hoc) ((offC _ hoc).1) ?_ ((offC _ hoc).2)
        rw [hod', bindC_mem (by show scope.names.lookup x ≠ some .local; rw [show scope.names.lookup x = some .cell from hkd]; decide) hnd' hm]
      · refine eEEA (argsRho_is hρ rs e) fun v dv' e1 zz => ?_
        cases e1
    have SN : SNow G K g f' s₀ ow (cells ++ led) ce ρ μ (bindL f'.env.kindOf ((as.map (·.arg)).zip vs) fun u9 => none) ow (cells ++ led) ce none { s with heap := h₁, toks := tk } :=
      ⟨S', RR, .refl, fun u9 q => q, fun b h1 h2 => absurd h1 h2, fun y b l e => by cases e⟩
    have FO := frameOk R H C' hfree (fun u9 => false) (s₀ := s₀)
    have back : ∀ {v dv m' s' led' ce' μ'}, Now G K g L' m' ow s₀ led' ce' μ' s' → Ext (cells ++ led) ce led' ce' → VR G (In K ow ce' led') ce' v dv → r = .ret dv μ' →
        LeaveK h₀ f.L m g (fun r s' => match r with | .ok (.ret v) => Q v s' | .ok _ => False | .error e => E e s') v s' := fun {v dv m' s' led' ce' μ'} T x rv e =>
      leaveK_ T.F T.N fun F N => hQ _ _ _ _ _ _ ⟨F, N, S.X, S.big, T.C, T.O, T.sm⟩ (x0.trans x T.C.nodup) rv e
    exact evS_sound FO fuelS h hrs SN (fun ρ' μ' m' ow' led' ce' ox' s' T e => back (T.S.weak T.sub) T.x .none e.symm) (fun v dv s' m' led' ce' μ' T x rv e => back T x rv e)
      (fun e n s' led' ce' μ' X x e1 => X.leave (A' := A.deeper f'.env) (env' := f') C FG C'.fr fun s'' X' ns => hE e n s'' led' ce' μ' X' ns (x0.trans x X.C.nodup) e1)
end
end Mine

end

section
namespace Mine
open PySem PySem.W PySem.Calls PyProof.Rows
noncomputable def asgAttr : Stmt → Option (PySem.Expr × Str × Pos × PySem.Expr × Pos)
  | .Assign ts e p => match ts with
    | [t] => (attrOf t).map fun q => (q.1, q.2.1, q.2.2, e, p)
    | _ => none
  | _ => none
theorem asgAttr_is {st : Stmt} {q : PySem.Expr × Str × Pos × PySem.Expr × Pos} (h : asgAttr st = some q) : st = .Assign [.Attribute q.1 q.2.1 q.2.2.1] q.2.2.2.1 q.2.2.2.2 := by
  cases st with
  | Assign ts e p => cases ts with
    | nil => exact no_of h
    | cons t ts => cases ts with
      | cons _ _ => exact no_of h
      | nil =>
        refine eEA (Option.map_eq_some_iff.mp (show ((attrOf t).map fun q => (q.1, q.2.1, q.2.2, e, p)) = some q from h)) fun r hr e => ?_
        rw [attrOf_is hr, ← e]
  | _ => exact no_of h
noncomputable def endsWith (e : PySem.Expr) (r : List Stmt) (a : Str) : Option (List Str × Option Str) := match r with
  | [] => (emptyList e).map fun u9 => ([], some a)
  | _ :: _ => none
noncomputable def initOf (self : Str) : List Stmt → Option (List Str × Option Str)
  | [] => some ([], none)
  | st :: r => (asgAttr st).bind fun q => (nameOf q.1).bind fun s => fitO (seq s.1 self) (match nameOf q.2.2.2.1 with
    | some x => fitO (seq x.1 q.2.1) ((initOf self r).map fun p => (q.2.1 :: p.1, p.2))
    | none => endsWith q.2.2.2.1 r q.2.1)
inductive Init1 (self : Str) : Stmt → List Stmt → List Str → Option Str → Prop where
  | put {y : Str} {r : List Stmt} {ps : List Str} {tl : Option Str} (p1 p2 p3 p4 : Pos) (h : initOf self r = some (ps, tl)) : Init1 self (.Assign [.Attribute (.Name self p1) y p2] (.Name y p4) p3) r (y :: ps) tl
  | last (a : Str) (p1 p2 p3 p4 : Pos) : Init1 self (.Assign [.Attribute (.Name self p1) a p2] (.List [] p4) p3) [] [] (some a)
theorem init1 {self : Str} {st : Stmt} {r : List Stmt} {ps : List Str} {tl : Option Str} (h : initOf self (st :: r) = some (ps, tl)) : Init1 self st r ps tl := by
  obtain ⟨q, hq, h1⟩ := Option.bind_eq_some_iff.mp (show ((asgAttr st).bind fun q => (nameOf q.1).bind fun s => fitO (seq s.1 self) (match nameOf q.2.2.2.1 with
    | some x => fitO (seq x.1 q.2.1) ((initOf self r).map fun p => (q.2.1 :: p.1, p.2))
    | none => endsWith q.2.2.2.1 r q.2.1)) = some (ps, tl) from h)
  clear h
  refine eEA (Option.bind_eq_some_iff.mp h1) fun s hs h2 => ?_
  obtain ⟨h3, h4⟩ := fitO_is h2
  clear h1 h2
  obtain rfl := asgAttr_is hq
  obtain ⟨o, a, p2, e, p3⟩ := q
  obtain rfl : o = .Name s.1 s.2 := nameOf_is hs
  obtain ⟨s, p1⟩ := s
  obtain rfl : s = self := seq_iff.mp h3
  cases hn : nameOf e with
  | some x =>
    have h5 : fitO (seq x.1 a) ((initOf s r).map fun (p : List Str × Option Str) => (a :: p.1, p.2)) = some (ps, tl) := (congrArg (fun o => (match o with | some (x : Str × Pos) => fitO (seq x.1 a) ((initOf s r).map fun (p : List Str × Option Str) => (a :: p.1, p.2)) | none => endsWith e r a)) hn.symm).trans h4
    obtain ⟨h6, h7⟩ := fitO_is h5
    refine eEA (Option.map_eq_some_iff.mp h7) fun p hp e2 => ?_
    obtain rfl : e = .Name x.1 x.2 := nameOf_is hn
    obtain ⟨y, p4⟩ := x
    obtain rfl : y = a := seq_iff.mp h6
    obtain ⟨qs, ql⟩ := p
    obtain ⟨e3, e4⟩ := Prod.mk.inj e2
    obtain rfl : y :: qs = ps := e3
    obtain rfl : ql = tl := e4
    exact .put p1 p2 p3 p4 hp
  | none =>
    have h5 : endsWith e r a = some (ps, tl) := (congrArg (fun o => (match o with | some (x : Str × Pos) => fitO (seq x.1 a) ((initOf s r).map fun (p : List Str × Option Str) => (a :: p.1, p.2)) | none => endsWith e r a)) hn.symm).trans h4
    cases r with
    | cons _ _ => exact no_of h5
    | nil =>
      refine eEA (Option.map_eq_some_iff.mp (show ((emptyList e).map fun u9 => (([] : List Str), some a)) = some (ps, tl) from h5)) fun p4 hp e2 => ?_
      obtain rfl := newList_is hp
      obtain ⟨e3, e4⟩ := Prod.mk.inj e2
      obtain rfl : [] = ps := e3
      obtain rfl : some a = tl := e4
      exact .last a p1 p2 p3 p4
structure ClsOk (K : Frag) (C : Addr) : Prop where
  makes : makesIn K C = true
  sa : findIn K (.ref C) "__setattr__" = some (some (.builtin "object.__setattr__"))
  over : plainOver K C = true
  hd : hasDictIn K C = true
structure InitOk (K : Frag) (C : Addr) (ps : List Str) (tl : Option Str) : Prop where
  ok : ClsOk K C
  taker : ∀ a ∈ ps ++ tl.toList, takerIn K C a = some none
  fn : ∃ fI qual as body scope kV doc pm an cdv ct o self, findIn K (.ref C) "__init__" = some (some (.ref fI)) ∧ typeIn K (.ref fI) = some (.type "function") ∧ K.lookup fI = some o ∧
    o.data = .func (fnX "__init__" qual ⟨[], as, none, [], [], none, []⟩ body scope [] .none kV doc pm an cdv ct) ∧ codeIn K cdv qual = true ∧ as.map (·.arg) = self :: ps ∧ (self :: (ps ++ tl.toList)).Nodup ∧ initOf self body = some (ps, tl) ∧
    scope.kind = .function ∧ scope.isCoroutine = false ∧ scope.isGenerator = false ∧ (∀ x ∈ scope.names, x.2 ≠ .cell) ∧ (∀ x ∈ self :: ps, scope.names.lookup x = some .local) ∧ (∀ x ∈ self :: ps, (x == ("__debug__" : Str)) = false)
section
variable {prog : Program} {w : World} {A : Around} {E : Value → Shared → Prop} {s : Shared} {K : Frag} {C L x dx : Addr} {h₀ : Heap} {m : Str → Option Value} {led : List (Addr × Obj)} {es : List DictEntry} {n : Nat}
theorem putL_new {name : Str} {h : Int} {k v : Value} : ∀ {es : List DictEntry}, es.any (·.key.isStr name) = false → putL name h k v es = es ++ [⟨h, k, v⟩]
  | [], _ => rfl
  | e :: r, q => by
    simp only [List.any_cons, Bool.or_eq_false_iff] at q
    unfold putL
    rw [if_neg (by rw [q.1]; decide), putL_new q.2]; rfl
inductive Keys : List DictEntry → List Str → Prop
  | nil : Keys [] []
  | cons {h y t v es ys} : Keys es ys → Keys (⟨h, .str y t, v⟩ :: es) (y :: ys)
theorem Keys.append {es ys} (h : Keys es ys) {hs y t v} : Keys (es ++ [⟨hs, .str y t, v⟩]) (ys ++ [y]) := by
  induction h with
  | nil => exact .cons .nil
  | cons _ ih => exact .cons ih
theorem Keys.any {es ys} (h : Keys es ys) {y : Str} (hn : y ∉ ys) : es.any (·.key.isStr y) = false := by
  induction h with
  | nil => rfl
  | @cons hs z t v es ys _ ih =>
    simp only [List.mem_cons, not_or] at hn
    rw [List.any_cons, ih hn.2, Bool.or_false]
    show (z == y) = false
    rw [beq_eq_false_iff_ne]; exact fun e => hn.1 e.symm
theorem Keys.get {es ys} (h : Keys es ys) {y : Str} (hn : y ∉ ys) : getL y es = some none := by
  have h1 := h.any hn
  have h2 : es.any (·.refKey) = false := by
    clear h1 hn
    induction h with
    | nil => rfl
    | cons _ ih => rw [List.any_cons, ih]; rfl
  unfold getL
  have : es.find? (·.key.isStr y) = none := by
    rw [List.find?_eq_none]
    intro e he q
    have := List.any_eq_false.mp h1 e he
    exact this q
  rw [this]
  simp only [h2, Bool.false_eq_true, if_false]
theorem Keys.esAre {es ys} (h : Keys es ys) : EsAre ys es (es.map (·.val)) := by
  induction h with
  | nil => exact .nil
  | cons _ ih => exact .cons ih
theorem set_new {Q : Unit → Shared → Prop} {a : Str} {v : Value} {ys : List Str} {pre post : List (Addr × Obj)} (ok : ClsOk K C) (ht : takerIn K C a = some none) (F : Fr h₀ L s.heap m) (X : K.In h₀)
    (N : News h₀ L s.heap (pre ++ (x, instObj C dx) :: (dx, dictOf es n) :: post)) (hk : Keys es ys) (ha : a ∉ ys) (h1 : ∀ p ∈ pre, p.1 ≠ dx) (h2 : x ≠ dx) (h3 : ∀ p ∈ post, p.1 ≠ dx) (hz : es.length < 100)
    (h : ∀ h' tk hs t, Fr h₀ L h' m → News h₀ L h' (pre ++ (x, instObj C dx) :: (dx, dictOf (es ++ [⟨hs, .str a t, v⟩]) (n + 1)) :: post) → Q () { s with heap := h', toks := tk }) :
    wpAny (model prog w) A (setAttr (.ref x) a v) Q E s := by
  have upd : ∀ {d : Addr} {o o' : Obj} {l l' : List (Addr × Obj)} {pre : List (Addr × Obj)}, Upd d o o' l l' → (∀ p ∈ pre, p.1 ≠ d) → Upd d o o' (pre ++ l) (pre ++ l') := fun {d o o' l l' pre} U hp => by
    induction pre with
    | nil => exact U
    | cons q pre ih => exact .tail (hp q (.head _)) (ih fun p hp' => hp p (.tail _ hp'))
  refine set_dict F X N (InstAt.of_news N (List.mem_append_right _ (.head _)) (List.mem_append_right _ (.tail _ (.head _)))) rfl ok.sa ok.over ht ok.hd (by rw [hk.get ha]; rfl) (Prod.ext (putL_new (hk.any ha)) rfl)
    (upd (.tail h2 (.head h3)) h1) (by simp; omega) fun h' F' N' => ?_
  rw [show putN a es n = n + 1 by unfold putN; rw [hk.any ha]; rfl] at N'
  exact h h' _ _ _ F' N'
end
section
variable {prog : Program} {w : World} {A : Around} {E : Value → Shared → Prop} {K : Frag} {C L x dx a : Addr} {h₀ : Heap} {m : Str → Option Value} {led : List (Addr × Obj)} {cn : Str} {cs : Scope} {ccd : Value} {cl : List (Str × Addr)} {self : Str}
theorem exec_inits (ok : ClsOk K C) (X : K.In h₀) (hk : cs.kind = .function) (hself : m self = some (.ref x)) (hls : cs.names.lookup self = some .local) (hds : (self == ("__debug__" : Str)) = false) (h2 : x ≠ dx) (h3 : ∀ p ∈ led, p.1 ≠ dx) {body : List Stmt} :
    ∀ {ps : List Str} {tl : Option Str} {es : List DictEntry} {n : Nat} {ys : List Str} {s : Shared} {Q : Flow → Shared → Prop}, initOf self body = some (ps, tl) → Keys es ys → (ys ++ ps ++ tl.toList).Nodup → es.length + ps.length < 50 →
      (∀ y ∈ ps ++ tl.toList, takerIn K C y = some none) → (∀ y ∈ ps, cs.names.lookup y = some .local ∧ (y == ("__debug__" : Str)) = false ∧ ∃ v, m y = some v) → Fr h₀ L s.heap m → News h₀ L s.heap ((x, instObj C dx) :: (dx, dictOf es n) :: led) →
      (∀ h' tk es' n', Fr h₀ L h' m → Keys (es ++ es') (ys ++ ps ++ tl.toList) → (∀ y v, (y, v) ∈ ps.zip (es'.map (·.val)) → m y = some v) →
        (match tl with
          | none => News h₀ L h' ((x, instObj C dx) :: (dx, dictOf (es ++ es') n') :: led)
          | some _ => ∃ D, x < D ∧ (es'.map (·.val))[ps.length]? = some (.ref D) ∧ News h₀ L h' ((D, lstObj [] 0) :: (x, instObj C dx) :: (dx, dictOf (es ++ es') n') :: led)) → Q .next { s with heap := h', toks := tk }) →
      wpAny (model prog w) A (execs body (envX cn cs L a ccd cl)) Q E s := by
  induction body with
  | nil =>
    intro ps tl es n ys s Q hi hK hn hz ht hm F N h
    obtain ⟨e1, e2⟩ := Prod.mk.inj (Option.some.inj (show some (([] : List Str), (none : Option Str)) = some (ps, tl) from hi))
    subst e1 e2
    exact wpAny_execs_nil (h s.heap s.toks [] n F (by simpa using hK) (fun y v q => absurd q List.not_mem_nil) (by simpa using N))
  | cons st r ih =>
    intro ps tl es n ys s Q hi hK hn hz ht hm F N h
    cases init1 hi with
    | @put y _ ps' _ p1 p2 p3 p4 hr =>
      refine eAAE (hm y (.head _)) fun hl hd v hv => ?_
      have hny : y ∉ ys := fun q => (List.nodup_append.mp (List.nodup_append.mp hn).1).2.2 y q y (.head _) rfl
      refine wpAny_execs_cons (plainObj_wpAny_Assign_Attribute (nameX_L F hv (nameX_L F hself (set_new (pre := []) ok (ht y (.head _)) F X N hK hny (fun p hp => absurd hp List.not_mem_nil) h2 h3 (by simp at hz; omega) fun h' tk hs t F' N' => ?_) hk hls hds) hk hl hd))
      refine ih hr hK.append (by simpa using hn) (by simp at hz ⊢; omega) (fun z hz' => ht z (.tail _ hz')) (fun z hz' => hm z (.tail _ hz')) F' N' fun h2' tk2 es' n' F2 K2 M2 N2 => ?_
      refine h h2' tk2 (⟨hs, .str y t, v⟩ :: es') n' F2 (by simpa using K2) (fun z u q => ?_) ?_
      · rcases List.mem_cons.mp q with e | q
        · obtain ⟨e1, e2⟩ := Prod.mk.inj e
          rw [e1, e2]; exact hv
        · exact M2 z u q
      · cases tl with
        | none => simpa using N2
        | some b =>
          refine eEAA (N2) fun D d1 d2 d3 => ?_
          try clear N2
          exact iEAA D d1 (by simpa using d2) (by simpa using d3)
    | last a1 p1 p2 p3 p4 =>
      have hny : a1 ∉ ys := fun q => (List.nodup_append.mp hn).2.2 a1 (by simpa using q) a1 (.head _) rfl
      refine wpAny_execs_cons (plainObj_wpAny_Assign_Attribute (List_ (spliced_nil (newList_N F N (fun h' F1 N1 => nameX_L F1 hself ?_ hk hls hds) (by decide)))))
      have hx : x < s.heap.objs.size := Heap.lt_size (N _ (.head _)).1
      have hdx : dx < s.heap.objs.size := Heap.lt_size (N _ (.tail _ (.head _))).1
      refine set_new (s := { s with heap := h' }) (pre := [(s.heap.objs.size, lstObj [] 0)]) ok (ht a1 (.head _)) F1 X N1 hK hny (fun p hp => by rw [List.mem_singleton.mp hp]; exact Nat.ne_of_gt hdx) h2 h3 (by simp at hz; omega) fun h2' tk hs t F' N' => ?_
      exact wpAny_execs_nil (h h2' tk [⟨hs, .str a1 t, .ref s.heap.objs.size⟩] (n + 1) F' (by simpa using hK.append) (fun y v q => absurd q List.not_mem_nil) ⟨s.heap.objs.size, hx, rfl, N'⟩)
end
end Mine

end

section
namespace Mine
open PySem PySem.W PySem.Calls PyProof.Rows
theorem lookup_nodup {α : Type} {x : Str} {v : α} : ∀ {l : List (Str × α)}, (l.map (·.1)).Nodup → (x, v) ∈ l → l.lookup x = some v
  | (y, u) :: r, hn, h => by
    simp only [List.map_cons, List.nodup_cons] at hn
    rw [List.lookup_cons]
    rcases List.mem_cons.mp h with e | h2
    · cases e; rw [beq_self_eq_true]
    · have : (x == y) = false := by
        rw [beq_eq_false_iff_ne]
        rintro rfl
        exact hn.1 (List.mem_map.mpr ⟨(x, v), h2, rfl⟩)
      rw [this]; exact lookup_nodup hn.2 h2
theorem lookup_rev {α : Type} {x : Str} {v : α} {l : List (Str × α)} (hn : (l.map (·.1)).Nodup) (h : (x, v) ∈ l) : l.reverse.lookup x = some v :=
  lookup_nodup (by rw [List.map_reverse]; exact nodup_rev hn) (List.mem_reverse.mpr h)
theorem Keys.len {es ys} (h : Keys es ys) : es.length = ys.length := by induction h with | nil => rfl | cons _ ih => simp [ih]
theorem zip_same {α : Type} {m : Str → Option α} : ∀ {ps : List Str} {us vs : List α}, us.length = ps.length → vs.length = ps.length → (∀ y v, (y, v) ∈ ps.zip us → m y = some v) → (∀ y v, (y, v) ∈ ps.zip vs → m y = some v) → us = vs
  | [], [], [], _, _, _, _ => rfl
  | [], _ :: _, _, h, _, _, _ => by simp at h
  | [], _, _ :: _, _, h, _, _ => by simp at h
  | _ :: _, [], _, h, _, _, _ => by simp at h
  | _ :: _, _, [], _, h, _, _ => by simp at h
  | p :: ps, u :: us, v :: vs, h1, h2, a, b => by
    have e := (a p u (.head _)).symm.trans (b p v (.head _))
    cases e
    rw [zip_same (by simpa using h1) (by simpa using h2) (fun y v q => a y v (.tail _ q)) fun y v q => b y v (.tail _ q)]
theorem zip_take {α : Type} : ∀ {ps : List Str} {us : List α}, ps.zip us = ps.zip (us.take ps.length)
  | [], _ => by simp
  | _ :: _, [] => by simp
  | p :: ps, u :: us => by simp [← zip_take (ps := ps) (us := us)]
section
variable {K : Frag} {p : Program} {loose : List Str} {mean : ExcName → Option Value} {mg mb : Str → Option Value} {base h₀ : Heap} {d : Nat} {A : Around} {outer : List Env} {f : Fx} {s : Shared} {C : Addr} {led : List (Addr × Obj)} {m : Str → Option Value} {prog : Program} {w : World}
theorem call_new {ps : List Str} {tl : Option Str} {vs : List Value} {Q E : Value → Shared → Prop} (I : InitOk K C ps tl) (X : FCtx K p loose mean mg mb base d A outer h₀ f) (F : Fr h₀ f.L s.heap m) (N : News h₀ f.L s.heap led) (hv : vs.length = ps.length) (hsz : ps.length < 50)
    (hQ : ∀ x dx h' tk es n, Fr h₀ f.L h' m → dx < x → (∀ p ∈ led, p.1 < dx) → EsAre (ps ++ tl.toList) es (es.map (·.val)) →
      (match tl with
        | none => es.map (·.val) = vs ∧ News h₀ f.L h' ((x, instObj C dx) :: (dx, dictOf es n) :: led)
        | some _ => ∃ D, x < D ∧ es.map (·.val) = vs ++ [.ref D] ∧ News h₀ f.L h' ((D, lstObj [] 0) :: (x, instObj C dx) :: (dx, dictOf es n) :: led)) → Q (.ref x) { s with heap := h', toks := tk }) :
    wpAny (model prog w) A (call (.ref C) vs) Q E s := by
  refine byC fun hg => ?_
  obtain ⟨fI, qual, as, body, scope, kV, doc, pm, an, cdv, ct, o, self, hi, hf, ho, hod, hcd, has, hnd, hb, hk, hco, hgen, hcell, hloc, hdb⟩ := I.fn
  refine hg ?_
  clear hg
  refine wpAny_call (make_K F N (X.X.keeps F.keep) I.ok.makes hi hf fun x dx h1 F1 N1 l1 l2 => ?_)
  have hfr : (A.under (.builtin "type.__call__" ⟨.ref C :: vs, []⟩)).frames = some (f.env :: outer) := by
    rw [show (A.under (.builtin "type.__call__" ⟨.ref C :: vs, []⟩)).frames = pushEnvs (Code.envs (.builtin "type.__call__" ⟨.ref C :: vs, []⟩)) A.frames from rfl, X.fr]; rfl
  have hnd' : (self :: ps).Nodup := by
    have := hnd
    rw [← List.cons_append] at this
    exact (List.nodup_append.mp this).1
  have hlen : (Value.ref x :: vs).length = as.length := by
    have := congrArg List.length has
    simp at this ⊢
    lia
  have hkeys : (((as.map (·.arg)).zip (Value.ref x :: vs)).map (·.1)) = self :: ps := by rw [List.map_fst_zip (by simp; simp at hlen; lia), has]
  have hndk : (((as.map (·.arg)).zip (Value.ref x :: vs)).map (·.1)).Nodup := by rw [hkeys]; exact hnd'
  refine callX_plain (A₀ := { A with frames := some outer }) (cl := []) (env := f.env) (m := m) (base := base) (s := { s with heap := h1 }) ⟨rfl, X.st, X.ff⟩ F1 N1 X.T.nolimit hfr rfl X.hk ((X.X.keeps F1.keep) _ _ ho) hod (codeRec_of (X.X.keeps F1.keep) hcd) (by have := X.room; show A.depth + 1 < _; lia)
    (BindsTo.of_eq (bind_simple rfl rfl (by rw [has]; exact hnd') hlen)) (fun y hy => ?_) (fun g L' h2 FG F2 N2 B' st lt => ?_) hcell hco hgen hk
  · have : y.1 ∈ self :: ps := has ▸ (List.of_mem_zip hy).1
    exact hloc _ this
  · have hm : ∀ y v, (y, v) ∈ (as.map (·.arg)).zip (Value.ref x :: vs) → (((as.map (·.arg)).zip (Value.ref x :: vs)).reverse.lookup y) = some v := fun y v q => lookup_rev hndk q
    rw [has, List.zip_cons_cons] at hm
    have hself := hm self (.ref x) (.head _)
    have hps : ∀ y v, (y, v) ∈ ps.zip vs → (((as.map (·.arg)).zip (Value.ref x :: vs)).reverse.lookup y) = some v := fun y v q => by rw [has]; exact hm y v (.tail _ q)
    refine exec_inits I.ok (X.X.keeps st) hk (by rw [has]; exact hself) (hloc _ (.head _)) (hdb _ (.head _)) (Nat.ne_of_gt l2) (fun p hp => Nat.ne_of_lt (l1 p hp)) hb .nil (by simpa using (List.nodup_cons.mp hnd).2) (by simpa using hsz) I.taker (fun y hy => ?_) F2 N2
      fun h3 tk es' n' F3 K3 M3 N3 => ?_
    · obtain ⟨v, hv'⟩ : ∃ v, (y, v) ∈ ps.zip vs := by
        refine byC fun hg => ?_
        obtain ⟨i, hi', e⟩ := List.getElem_of_mem hy
        refine hg ?_
        clear hg
        exact ⟨vs[i]'(by lia), by
          rw [← e]
          have := List.getElem_mem (l := ps.zip vs) (n := i) (by simp; lia)
          simpa using this⟩
      exact ⟨hloc _ (.tail _ hy), hdb _ (.tail _ hy), v, hps y v hv'⟩
    · simp only [List.nil_append] at K3 N3
      have hl := K3.len
      cases tl with
      | none =>
        simp only [Option.toList_none, List.append_nil] at K3 hl ⊢
        refine leaveK_ F3 N3 fun F4 N4 => ⟨rfl, hQ x dx h3 tk es' n' F4 l2 l1 (by simpa using K3.esAre) ⟨zip_same (by simpa using hl) hv M3 hps, N4⟩⟩
      | some b =>
        refine byC fun hg => ?_
        refine eEAA (N3) fun D d1 d2 d3 => ?_
        try clear N3
        refine hg ?_
        clear hg
        refine leaveK_ F3 d3 fun F4 N4 => ⟨rfl, hQ x dx h3 tk es' n' F4 l2 l1 K3.esAre ⟨D, d1, ?_, N4⟩⟩
        have hl' : (es'.map (·.val)).length = ps.length + 1 := by simp at hl ⊢; omega
        have h1' : (es'.map (·.val)).take ps.length = vs := by
          refine zip_same (ps := ps) (m := fun y => ((as.map (·.arg)).zip (Value.ref x :: vs)).reverse.lookup y) (by simp; simp at hl; lia) hv (fun y v q => M3 y v ?_) hps
          have e : ps.zip (es'.map (·.val)) = ps.zip ((es'.map (·.val)).take ps.length) := zip_take
          rw [e]; exact q
        have h2' : (es'.map (·.val)).drop ps.length = [.ref D] := by
          have hlt : ps.length < (es'.map (·.val)).length := by lia
          rw [List.drop_eq_getElem_cons hlt]
          rw [List.getElem?_eq_getElem hlt] at d2
          rw [Option.some.inj d2, List.drop_of_length_le (by lia)]
        rw [← h1', ← h2', List.take_append_drop]
end
end Mine

end

section
namespace Mine
open PySem PySem.W PySem.Calls PyProof.Rows
theorem EsAre.keys {ys es vs} (h : EsAre ys es vs) : Keys es ys := by
  induction h with
  | nil => exact .nil
  | cons _ ih => exact .cons ih
theorem getL_hit {x : Str} {hs} {t} {v : Value} {es : List DictEntry} : getL x (⟨hs, .str x t, v⟩ :: es) = some (some v) := by
  unfold getL
  rw [List.find?_cons]
  rw [show (Value.str x t).isStr x = true from beq_self_eq_true x]
theorem getL_miss {x y : Str} {hs} {t} {v u : Value} {es : List DictEntry} (h : x ≠ y) (g : getL x es = some (some u)) : getL x (⟨hs, .str y t, v⟩ :: es) = some (some u) := by
  unfold getL at g ⊢
  rw [List.find?_cons_of_neg (by rw [show (Value.str y t).isStr x = (y == x) from rfl, beq_eq_false_iff_ne.mpr (Ne.symm h)]; decide)]
  cases q : es.find? (·.key.isStr x) with
  | some e => rw [q] at g; exact g
  | none =>
    rw [q] at g
    replace g : (if es.any (·.refKey) then none else some none) = some (some u) := g
    by_cases q : es.any (·.refKey) = true
    · rw [if_pos q] at g; exact no_of g
    · rw [if_neg q] at g; exact no_of (Option.some.inj g)
theorem look_fields {G : Gx} {I : Addr → Obj → Prop} {ce : List Addr} {x : Str} {d : V} {ys : List Str} {es : List DictEntry} {vs : List Value} (e : EsAre ys es vs) : ∀ {fs : List V}, VRs G I ce vs fs → look x (ys.zip fs) = some d → ∃ v, VR G I ce v d ∧ getL x es = some (some v) := by
  induction e with
  | nil => exact fun u9 h => no_of h
  | @cons y hs t v ys es vs e ih =>
    intro fs rs h
    cases rs with
    | @cons _ f _ fs r rs =>
      cases q : seq x y with
      | true => exact iEA v (Option.some.inj ((look_hit (p := (y, f)) q).symm.trans h) ▸ r) (by rw [← seq_iff.mp q]; exact getL_hit)
      | false => exact eEA (ih rs ((look_miss (p := (y, f)) q).symm.trans h)) fun u r' g => iEA u r' (getL_miss (seq_no q) g)
inductive MkK (μ : Mu) (k : V → Mu → Res) (r : Res) : Nat → List V → Prop
  | c1 (h : k (.inst 1 []) μ = r) : MkK μ k r 1 []
  | c2 (a : V) (h : k (.inst 2 [a]) μ = r) : MkK μ k r 2 [a]
  | c3 (a : V) (h : k (.inst 3 [a]) μ = r) : MkK μ k r 3 [a]
  | c5 (a b c : V) (h : k (.inst 5 [a, b, c]) μ = r) : MkK μ k r 5 [a, b, c]
  | c7 (a b c d : V) (h : k (.inst 7 [a, b, c, d, .cell μ.length]) (μ ++ [[]]) = r) : MkK μ k r 7 [a, b, c, d]
theorem mkK {c : Nat} {args : List V} {μ : Mu} {k : V → Mu → Res} {r : Res} (h : mkInst c args μ k = r) (hr : r ≠ .stuck) : MkK μ k r c args := by
  cases c with
  | zero => exact st h hr
  | succ c => cases c with
    | zero => cases args with
      | nil => exact .c1 h
      | cons _ _ => exact st h hr
    | succ c => cases c with
      | zero => cases args with
        | nil => exact st h hr
        | cons a l => cases l with
          | nil => exact .c2 a h
          | cons _ _ => exact st h hr
      | succ c => cases c with
        | zero => cases args with
          | nil => exact st h hr
          | cons a l => cases l with
            | nil => exact .c3 a h
            | cons _ _ => exact st h hr
        | succ c => cases c with
          | zero => exact st h hr
          | succ c => cases c with
            | zero => cases args with
              | nil => exact st h hr
              | cons a l => cases l with
                | nil => exact st h hr
                | cons b l => cases l with
                  | nil => exact st h hr
                  | cons c l => cases l with
                    | nil => exact .c5 a b c h
                    | cons _ _ => exact st h hr
            | succ c => cases c with
              | zero => exact st h hr
              | succ c => cases c with
                | zero => cases args with
                  | nil => exact st h hr
                  | cons a l => cases l with
                    | nil => exact st h hr
                    | cons b l => cases l with
                      | nil => exact st h hr
                      | cons c l => cases l with
                        | nil => exact st h hr
                        | cons d l => cases l with
                          | nil => exact .c7 a b c d h
                          | cons _ _ => exact st h hr
                | succ c => exact st h hr
theorem fieldV_is {o dv : V} {n : Str} (h : fieldV o n = some dv) : ∃ c fs, o = .inst c fs ∧ look n ((classFields c).zip fs) = some dv ∧ ∀ b, dv ≠ .blt b := by
  cases o with
  | inst c fs =>
    replace h : (match look n ((classFields c).zip fs) with | some (.blt _) => none | r => r) = some dv := h
    cases q : look n ((classFields c).zip fs) with
    | none => rw [q] at h; exact no_of h
    | some t =>
      rw [q] at h
      cases t with
      | blt b => exact no_of h
      | _ => exact iEEAA c fs rfl (q.trans h) fun b e => V.noConfusion ((Option.some.inj h).trans e)
  | _ => exact no_of h
theorem methFn_is {c : Nat} {n : Str} {i : Nat} (h : methFn c n = some i) : c = 7 := by
  cases c with
  | zero => exact no_of h
  | succ c =>
    cases c with
    | zero => exact no_of h
    | succ c =>
      cases c with
      | zero => exact no_of h
      | succ c =>
        cases c with
        | zero => exact no_of h
        | succ c =>
          cases c with
          | zero => exact no_of h
          | succ c =>
            cases c with
            | zero => exact no_of h
            | succ c =>
              cases c with
              | zero => exact no_of h
              | succ c =>
                cases c with
                | zero => rfl
                | succ c => exact no_of h
noncomputable def tList : List String := ["str", "int", "tuple", "bool", "NoneType", "list"]
noncomputable def isT (n : String) : Bool := tList.contains n
noncomputable def tyB (T n : String) : Bool := T == n || (T == "bool" && n == "int")
structure KCls (G : Gx) (K : Frag) : Prop where
  isO : ∀ d, isD d = true → plainGet K (G.cA d) "__class__" = true ∧ hasDictIn K (G.cA d) = true ∧ findIn K (.ref (G.cA d)) "__class__" = some (some (.builtin "object.__class__")) ∧ mroIn K (G.cA d) (.type "object") = some true
  isG : specialIn K (.builtin "object.__class__") "__get__" = some (some (.builtin "getset_descriptor.__get__")) ∧ takesIn K (.builtin "object.__class__") = some true
  isCC : ∀ d c, isD d = true → isC c = true → kitOne K (.ref (G.cA d)) (.ref (G.cA c)) = some (Nat.beq d c)
  isCN : ∀ d n, isD d = true → isN n = true → kitOne K (.ref (G.cA d)) (.type n) = some false
  isTC : ∀ T c, isT T = true → isC c = true → kitOne K (.type T) (.ref (G.cA c)) = some false
  isTN : ∀ T n, isT T = true → isN n = true → kitOne K (.type T) (.type n) = some (tyB T n)
  fd : ∀ i fd, FnOk i fd → G.Fd i fd
  keep : ∀ c, keepIn K (.ref (G.cA c)) = true
  fail : makesIn K (G.cA 1) = true ∧ findIn K (.ref (G.cA 1)) "__init__" = some (some (.builtin "object.__init__"))
  i2 : InitOk K (G.cA 2) ["node"] none
  i3 : InitOk K (G.cA 3) ["tree"] none
  i5 : InitOk K (G.cA 5) ["kind", "owner", "key"] none
  i7 : InitOk K (G.cA 7) ["values", "functions", "width", "most_length"] (some "log")
  fld : ∀ c, ∀ n ∈ classFields c, plainGet K (G.cA c) n = true ∧ hasDictIn K (G.cA c) = true ∧ ∃ attr, findIn K (.ref (G.cA c)) n = some attr ∧ noGet K attr = true
  meth : ∀ n i, methFn 7 n = some i → plainGet K (G.cA 7) n = true ∧ n ∉ classFields 7 ∧ ∃ f, findIn K (.ref (G.cA 7)) n = some (some (.ref f)) ∧ isFn K (.ref f) = true ∧ IFun G (fun a o => K.lookup a = some o) f i
section
variable {G : Gx} {K : Frag} {p : Program} {loose : List Str} {mean : ExcName → Option Value} {mg mb : Str → Option Value} {base h₀ : Heap} {d : Nat} {A : Around} {outer : List Env} {f : Fx} {s₀ s : Shared} {m : Str → Option Value} {ow ce : List Addr} {led : List (Addr × Obj)} {μ : Mu}
theorem field_ok (Y : KCls G K) {L : Addr} {o : V} {v : Value} {dv : V} {n : Str} {Q E : Value → Shared → Prop} (r : VR G (In K ow ce led) ce v o) (S : Now G K h₀ L m ow s₀ led ce μ s) (h : fieldV o n = some dv) (hQ : Then G K h₀ L m ow s₀ led ce (One dv μ) Q) :
    wpAny (model G.prog G.w) A (getAttr v n true) Q E s := by
  refine byC fun hg => ?_
  refine eEEAA (fieldV_is h) fun c fs ee hl1 hl2 => ?_
  subst ee
  have hl := And.intro hl1 hl2
  refine hg ?_
  clear hg
  obtain ⟨a, dx, es, k, vs, rfl, h1, h2, h3, h4⟩ := r.inv
  have hmem : n ∈ classFields c := by
    have := lookup_mem (by rw [← look_lookup]; exact hl.1)
    exact (List.of_mem_zip this).1
  refine byC fun hg => ?_
  refine eAAEA (Y.fld c n hmem) fun q1 q2 attr q3 q4 => ?_
  refine eEA (look_fields h3 h4 hl.1) fun u ru g => ?_
  refine hg ?_
  clear hg
  refine get_own S.F S.X ⟨S.get h1, rfl, rfl, S.get h2⟩ q1 q2 q3 q4 g ?_ (S.yield ru hQ)
  cases ru <;> first | rfl | exact absurd rfl (hl.2 _)
theorem meth_ok (Y : KCls G K) {L a : Addr} {c : Nat} {fs : List V} {n : Str} {i : Nat} {pl : Sem Bool} {Q : Value × List Value → Shared → Prop} {E : Value → Shared → Prop} (r : VR G (In K ow ce led) ce (.ref a) (.inst c fs)) (S : Now G K h₀ L m ow s₀ led ce μ s) (h : methFn c n = some i)
    (hQ : ∀ f, IFun G (In K ow ce led) f i → Q (.ref f, [.ref a]) s) : wpAny (model G.prog G.w) A (getMethod (.ref a) n pl) Q E s := by
  have hc : c = 7 := methFn_is h
  subst hc
  refine byC fun hg => ?_
  refine eAAEAA (Y.meth n i h) fun q1 q2 f q3 q4 q5 => ?_
  refine hg ?_
  clear hg
  obtain ⟨u9, dx, es, k, vs, e, h1, h2, h3, h4⟩ := r.inv
  obtain rfl := Value.ref.inj e
  exact method_inst S.F S.X ⟨S.get h1, rfl, rfl, S.get h2⟩ q1 q3 q4 (h3.keys.get q2) (hQ f (q5.mono fun u9 u9 z => .inr z))
theorem instMade {x : Addr} {o : Obj} (S : Now G K h₀ f.L m ow s₀ led ce μ s) (hx : ∀ p ∈ led, p.1 < x) {pre post : List (Addr × Obj)} (e : (x, o) ∈ pre ++ post) : In K ow ce (pre ++ post) x o :=
  .inl ⟨e, fun q => let ⟨o', h⟩ := S.O _ q; Nat.lt_irrefl _ (hx _ h), fun q => let ⟨o', h⟩ := S.C.mem q; Nat.lt_irrefl _ (hx _ h)⟩
theorem make_plain (X : FCtx K p loose mean mg mb base d A outer h₀ f) {c : Nat} {ps : List Str} {vs : List Value} {args : List V} {Q E : Value → Shared → Prop} (I : InitOk K (G.cA c) ps none) (hc : classFields c = ps) (hsz : ps.length < 50) (rs : VRs G (In K ow ce led) ce vs args) (hl : args.length = ps.length)
    (S : Now G K h₀ f.L m ow s₀ led ce μ s) (hQ : Then G K h₀ f.L m ow s₀ led ce (One (.inst c args) μ) Q) : wpAny (model G.prog G.w) A (call (.ref (G.cA c)) vs) Q E s := by
  refine call_new I X S.F S.N (by rw [rs.length, hl]) hsz fun x dx h' tk es n F l2 l1 ea hn => ?_
  obtain ⟨e1, N⟩ := hn
  have sub : ∀ q ∈ led, q ∈ (x, instObj (G.cA c) dx) :: (dx, dictOf es n) :: led := fun q hq => .tail _ (.tail _ hq)
  have x0 : Ext led ce ((x, instObj (G.cA c) dx) :: (dx, dictOf es n) :: led) ce := ⟨⟨[], by simp, by simp⟩, fun q hq u9 => sub q hq⟩
  refine hQ _ _ _ _ _ _ ⟨F, N, S.X, S.big, S.C.ext sub, fun b hb => let ⟨o', q⟩ := S.O b hb; ⟨o', sub _ q⟩, let ⟨_, _, e⟩ := S.sm; ⟨h', tk, by rw [e]⟩⟩ x0 (.inst (c := c) (dx := dx) (es := es) (n := n) (vs := vs) ?_ ?_ ?_ (rs.ext x0)) ⟨rfl, rfl⟩
  · exact instMade (pre := []) S (fun q hq => Nat.lt_trans (l1 q hq) l2) (.head _)
  · exact instMade (pre := []) S l1 (.tail _ (.head _))
  · rw [hc, ← e1]; simpa using ea
theorem class_ok (Y : KCls G K) (X : FCtx K p loose mean mg mb base d A outer h₀ f) {c : Nat} {args : List V} {vs : List Value} {k : V → Mu → Res} {r : Res} {Q E : Value → Shared → Prop} (rs : VRs G (In K ow ce led) ce vs args) (S : Now G K h₀ f.L m ow s₀ led ce μ s) (h : mkInst c args μ k = r) (hr : r ≠ .stuck)
    (hQ : Then G K h₀ f.L m ow s₀ led ce (fun d μ' => k d μ' = r) Q) : wpAny (model G.prog G.w) A (call (.ref (G.cA c)) vs) Q E s := by
  cases mkK h hr with
  | c1 h =>
    cases rs
    refine wpAny_call (make_K0 S.F S.N (S.X.keeps S.F.keep) Y.fail.1 Y.fail.2 fun x dx h' F N l1 l2 => ?_)
    have sub : ∀ q ∈ led, q ∈ (x, instObj (G.cA 1) dx) :: (dx, emptyDict) :: led := fun q hq => .tail _ (.tail _ hq)
    have x0 : Ext led ce ((x, instObj (G.cA 1) dx) :: (dx, emptyDict) :: led) ce := ⟨⟨[], by simp, by simp⟩, fun q hq u9 => sub q hq⟩
    exact hQ _ _ _ _ _ _ ⟨F, N, S.X, S.big, S.C.ext sub, fun b hb => let ⟨o', q⟩ := S.O b hb; ⟨o', sub _ q⟩, let ⟨_, tk, e⟩ := S.sm; ⟨h', tk, by rw [e]⟩⟩ x0
      (.inst (c := 1) (dx := dx) (es := []) (vs := []) (n := 0) (instMade (pre := []) S (fun q hq => Nat.lt_trans (l1 q hq) l2) (.head _)) (instMade (pre := []) S l1 (.tail _ (.head _))) .nil .nil) h
  | c2 a h => exact make_plain X Y.i2 rfl (by decide) rs rfl S (hQ.one h)
  | c3 a h => exact make_plain X Y.i3 rfl (by decide) rs rfl S (hQ.one h)
  | c5 a b c h => exact make_plain X Y.i5 rfl (by decide) rs rfl S (hQ.one h)
  | c7 a1 a2 a3 a4 h =>
    refine call_new Y.i7 X S.F S.N (by rw [rs.length]; rfl) (by decide) fun x dx h' tk es n F l2 l1 ea hn => ?_
    refine byC fun hg => ?_
    refine eEAA (hn) fun D l3 e1 N => ?_
    try clear hn
    refine hg ?_
    clear hg
    have fx : ∀ p ∈ led, p.1 < x := fun q hq => Nat.lt_trans (l1 q hq) l2
    have fD : ∀ p ∈ led, p.1 < D := fun q hq => Nat.lt_trans (fx q hq) l3
    have hD : ∀ q ∈ ((x, instObj (G.cA 7) dx) :: (dx, dictOf es n) :: led), q.1 ≠ D := fun q hq => by
      rcases List.mem_cons.mp hq with rfl | hq
      · exact Nat.ne_of_lt l3
      · rcases List.mem_cons.mp hq with rfl | hq
        · exact Nat.ne_of_lt (Nat.lt_trans l2 l3)
        · exact Nat.ne_of_lt (fD q hq)
    have sub : ∀ q ∈ led, q ∈ (x, instObj (G.cA 7) dx) :: (dx, dictOf es n) :: led := fun q hq => .tail _ (.tail _ hq)
    have x0 : Ext led ce ((x, instObj (G.cA 7) dx) :: (dx, dictOf es n) :: led) ce := ⟨⟨[], by simp, by simp⟩, fun q hq u9 => sub q hq⟩
    have C1 := S.C.ext sub
    have hDc : D ∉ ce := fun q => let ⟨o', h⟩ := S.C.mem q; Nat.lt_irrefl _ (fD _ h)
    have hDo : D ∉ ow := fun q => let ⟨o', h⟩ := S.O _ q; Nat.lt_irrefl _ (fD _ h)
    have gx : ∀ (i : Nat) a, ce[i]? = some a → (ce ++ [D])[i]? = some a := fun i a e => by
      rw [List.getElem?_append_left (List.getElem?_eq_some_iff.mp e).1]; exact e
    have x1 : Ext led ce ((D, lstObj [] 0) :: (x, instObj (G.cA 7) dx) :: (dx, dictOf es n) :: led) (ce ++ [D]) :=
      ⟨⟨[D], rfl, fun a ha q hq => by rw [List.mem_singleton.mp ha]; exact Nat.ne_of_lt (fD q hq)⟩, fun q hq u9 => .tail _ (sub q hq)⟩
    have C2 : Cells G K ow ((D, lstObj [] 0) :: (x, instObj (G.cA 7) dx) :: (dx, dictOf es n) :: led) (ce ++ [D]) (μ ++ [[]]) := by
      refine ⟨by simp [C1.len], ?_, ?_, ?_⟩
      · rw [List.nodup_append]
        exact iAA C1.nodup (by simp) (fun a ha b hb e => hDc (by rw [List.mem_singleton.mp hb] at e; exact e ▸ ha))
      · intro a ha hh
        rcases List.mem_append.mp ha with ha | ha
        · exact C1.off a ha hh
        · rw [List.mem_singleton.mp ha] at hh; exact hDo hh
      · intro i l e
        by_cases hi : i < μ.length
        · rw [List.getElem?_append_left hi] at e
          refine byC fun hg => ?_
          refine eEEEAA (C1.at_ i l e) fun a us n x y z => ?_
          refine hg ?_
          clear hg
          exact iEEEAA a us n (gx i a x) (.tail _ y) (z.mono (fun u9 u9 q => q.cell hD) gx)
        · have hi' : i = μ.length := by
            have := (List.getElem?_eq_some_iff.mp e).1
            simp at this; lia
          subst hi'
          simp at e; subst e
          exact iEEEAA _ ([]) 0 (by rw [← C1.len]; simp) (.head _) .nil
    have rD : VR G (In K ow (ce ++ [D]) ((D, lstObj [] 0) :: (x, instObj (G.cA 7) dx) :: (dx, dictOf es n) :: led)) (ce ++ [D]) (.ref D) (.cell μ.length) := .cell (by rw [← C1.len]; simp)
    have offD : ∀ {y o}, (y, o) ∈ ((x, instObj (G.cA 7) dx) :: (dx, dictOf es n) :: led) → (∀ p ∈ led, p.1 < y) → In K ow (ce ++ [D]) ((D, lstObj [] 0) :: (x, instObj (G.cA 7) dx) :: (dx, dictOf es n) :: led) y o := fun {y o} hm hl =>
      .inl ⟨.tail _ hm, fun q => let ⟨o', h⟩ := S.O _ q; Nat.lt_irrefl _ (hl _ h), fun q => (List.mem_append.mp q).elim (fun q => let ⟨o', h⟩ := S.C.mem q; Nat.lt_irrefl _ (hl _ h)) fun q => hD _ hm (List.mem_singleton.mp q)⟩
    exact hQ _ _ _ _ _ _ ⟨F, N, S.X, S.big, C2, fun b hb => let ⟨o', q⟩ := S.O b hb; ⟨o', .tail _ (sub _ q)⟩, let ⟨_, _, e⟩ := S.sm; ⟨h', tk, by rw [e]⟩⟩ x1
      (.inst (c := 7) (dx := dx) (es := es) (vs := vs ++ [.ref D]) (offD (.head _) fx) (offD (.tail _ (.head _)) l1) (by rw [← e1]; exact ea) ((rs.ext x1).append (.cons rD .nil))) h
end
end Mine

end

section
namespace Mine
open PySem PySem.W PySem.Calls PyProof.Rows
section
variable {G : Gx} {K : Frag} {h₀ : Heap} {L : Addr} {m : Str → Option Value} {ow : List Addr} {s₀ s : Shared} {led : List (Addr × Obj)} {ce : List Addr} {μ : Mu} {A : Around} {E : Value → Shared → Prop} {Q : Value → Shared → Prop}
theorem isN_in {n : String} (h : isN n = true) : n ∈ nList := List.contains_iff_mem.mp h
theorem n3 {p : String → Prop} (h1 : p "str") (h2 : p "int") (h3 : p "tuple") : ∀ n, isN n = true → p n := fun n h =>
  (List.forall_mem_cons (p := p) (l := ["int", "tuple"])).mpr ⟨h1, (List.forall_mem_cons (p := p) (l := ["tuple"])).mpr ⟨h2, fun x hx => List.mem_singleton.mp hx ▸ h3⟩⟩ n (isN_in h)
noncomputable def instC (v : V) (c : Nat) : Option Bool := match v with
  | .inst d _ => some (Nat.beq d c)
  | _ => some false
noncomputable def instN (v : V) (n : String) : Option Bool := match v with
  | .inst _ _ => some false
  | v => some (isTyp n v)
inductive I1 (v : V) : V → Bool → Prop where
  | cls {c : Nat} {b : Bool} (hc : isC c = true) (h : instC v c = some b) : I1 v (.cls c) b
  | typ {n : String} {b : Bool} (hn : isN n = true) (h : instN v n = some b) : I1 v (.typ n) b
theorem fitN_is {α : Type} {b : Bool} {f : Option α} {d : α} (h : (match b with | false => none | true => f) = some d) : b = true ∧ f = some d := by
  cases b with
  | true => exact ⟨rfl, h⟩
  | false => exact no_of h
theorem i1 {v t : V} {b : Bool} (h : inst1 v t = some b) : I1 v t b := by
  cases t with
  | cls c =>
    obtain ⟨h1, h2⟩ := fitN_is (b := isC c) (f := instC v c) h
    exact .cls h1 h2
  | typ n =>
    obtain ⟨h1, h2⟩ := fitN_is (b := isN n) (f := instN v n) h
    exact .typ h1 h2
  | _ => exact no_of h
theorem plain_is (Y : KCls G K) {I : Addr → Obj → Prop} {x : V} {T : String} (hT : isT T = true) (hc : ∀ c, instC x c = some false) (hn : ∀ n, isN n = true → instN x n = some (tyB T n)) {c : Value} {y : V} {b : Bool} (rc : VR G I ce c y) (h : inst1 x y = some b) : kitOne K (.type T) c = some b := by
  cases i1 h with
  | cls h1 h2 =>
    obtain ⟨u9, rfl⟩ := rc.inv
    rw [← Option.some.inj ((hc _).symm.trans h2)]
    exact Y.isTC _ _ hT h1
  | typ h1 h2 =>
    obtain ⟨u9, rfl⟩ := rc.inv
    rw [← Option.some.inj ((hn _ h1).symm.trans h2)]
    exact Y.isTN _ _ hT h1
theorem own_is (Y : KCls G K) {I : Addr → Obj → Prop} {d : Nat} {fs : List V} (hd : isD d = true) {c : Value} {y : V} {b : Bool} (rc : VR G I ce c y) (h : inst1 (.inst d fs) y = some b) : kitOne K (.ref (G.cA d)) c = some b := by
  cases i1 h with
  | cls h1 h2 =>
    obtain ⟨u9, rfl⟩ := rc.inv
    rw [← Option.some.inj h2]
    exact Y.isCC _ _ hd h1
  | typ h1 h2 =>
    obtain ⟨u9, rfl⟩ := rc.inv
    rw [← Option.some.inj h2]
    exact Y.isCN _ _ hd h1
theorem inst1_is (Y : KCls G K) (S : Now G K h₀ L m ow s₀ led ce μ s) {v : Value} {x : V} (rv : VR G (In K ow ce led) ce v x) (hk : isOk x = true) :
    ∃ t H, KitX K v t H ∧ H s.heap ∧ v ≠ .builtin "__main__.__loader__#opaque" ∧ ∀ {c : Value} {y : V} {b : Bool}, VR G (In K ow ce led) ce c y → inst1 x y = some b → kitOne K t c = some b := by
  cases x with
  | none => obtain ⟨_, rfl⟩ := rv.inv; exact ⟨_, _, kitx_none, trivial, nofun, plain_is Y rfl (fun u9 => rfl) (n3 rfl rfl rfl)⟩
  | bool => obtain ⟨_, rfl⟩ := rv.inv; exact ⟨_, _, kitx_bool, trivial, nofun, plain_is Y rfl (fun u9 => rfl) (n3 rfl rfl rfl)⟩
  | int => obtain ⟨_, rfl⟩ := rv.inv; exact ⟨_, _, kitx_int, trivial, nofun, plain_is Y rfl (fun u9 => rfl) (n3 rfl rfl rfl)⟩
  | str => obtain ⟨_, rfl⟩ := rv.inv; exact ⟨_, _, kitx_str, trivial, nofun, plain_is Y rfl (fun u9 => rfl) (n3 rfl rfl rfl)⟩
  | tup l =>
    refine byC fun hg => ?_
    refine eEEAA (rv.inv) fun a vs ee2 t1 t2 => ?_
    subst ee2
    refine eEAA (S.tup t1) fun o ho hc zz => ?_
    refine hg ?_
    clear hg
    exact iEEAAA _ _ kitx_tuple ⟨o, ho, hc⟩ nofun (plain_is Y rfl (fun u9 => rfl) (n3 rfl rfl rfl))
  | list l =>
    refine byC fun hg => ?_
    refine eEEAA (rv.inv) fun a vs ee2 t1 t2 => ?_
    subst ee2
    refine eEAA (S.list t1) fun o ho hc zz => ?_
    refine hg ?_
    clear hg
    exact iEEAAA _ _ kitx_list ⟨o, ho, hc⟩ nofun (plain_is Y rfl (fun u9 => rfl) (n3 rfl rfl rfl))
  | inst d fs =>
    refine byC fun hg => ?_
    obtain ⟨a, dx, es, n, vs, rfl, h1, h2, h3, h4⟩ := rv.inv
    refine eAAA (Y.isO d hk) fun o1 o2 o3 o4 => ?_
    refine hg ?_
    clear hg
    exact iEEAAA _ _ (kitx_own (x := a) (ox := instObj (G.cA d) dx) (od := dictOf es n) o1 o2 o3 Y.isG.1 Y.isG.2 o4) ⟨S.get h1, rfl, rfl, S.get h2⟩ nofun (own_is Y hk)
  | _ => exact Bool.noConfusion hk
theorem any_is {t : Value} {x : V} {I : Addr → Obj → Prop} {ce : List Addr} (h1 : ∀ {c : Value} {y : V} {b : Bool}, VR G I ce c y → inst1 x y = some b → kitOne K t c = some b) {l : List V} : ∀ {vs : List Value} {b : Bool}, VRs G I ce vs l → instAny x l = some b → kitAny K t vs = some b := by
  induction l with
  | nil => intro vs b r h; cases r; exact h
  | cons y l ih =>
    intro vs b r h
    cases r with
    | @cons v _ vs _ r1 r2 =>
    replace h : (match inst1 x y with | some true => some true | some false => instAny x l | none => none) = some b := h
    show (match kitOne K t v with | some true => some true | some false => kitAny K t vs | none => none) = some b
    cases q : inst1 x y with
    | none => rw [q] at h; exact no_of h
    | some c =>
      rw [q] at h
      rw [h1 r1 q]
      cases c with
      | true => exact h
      | false => exact ih r2 h
theorem instW_is {x y : V} {b : Bool} (h : (match y with | .tup ts => instAny x ts | t => inst1 x t) = some b) : (∃ l, y = .tup l ∧ instAny x l = some b) ∨ inst1 x y = some b := by
  cases y with
  | tup l => exact .inl ⟨l, rfl, h⟩
  | _ => exact .inr h
theorem isi_ok (Y : KCls G K) (S : Now G K h₀ L m ow s₀ led ce μ s) {v t : Value} {x y : V} {b : Bool} (rv : VR G (In K ow ce led) ce v x) (rt : VR G (In K ow ce led) ce t y) (h : instV x y = some b) (hQ : ∀ tk, Q (.bool b) { s with toks := tk }) :
    wpAny (model G.prog G.w) A (call (.builtin "isinstance") [v, t]) Q E s := by
  refine byC fun hg => ?_
  obtain ⟨hk, h⟩ := fitN_is (b := isOk x) (f := match y with | .tup ts => instAny x ts | t => inst1 x t) h
  refine eEEAAA (inst1_is Y S rv hk) fun tv H Z hH hx h1 => ?_
  refine hg ?_
  clear hg
  have X := S.X.keeps S.F.keep
  rcases instW_is h with h | h
  · refine byC fun hg => ?_
    refine eEA h fun l e h9 => ?_
    subst e
    refine eEEAA (rt.inv) fun a vs ee2 t1 t2 => ?_
    subst ee2
    refine eEEAA (t1) fun yy0 n g hc hd => ?_
    try clear t1
    obtain ⟨oc, odd, oda, osl⟩ := yy0
    refine hg ?_
    clear hg
    dsimp only at hc hd
    subst hc hd
    exact kia_tup Z X hH (S.get g) (any_is h1 t2 h9) hx hQ
  · exact kia_one Z X hH (h1 rt h) hx hQ
end
end Mine

end

section
namespace Mine
open PySem PySem.W PySem.Calls PyProof.Rows
noncomputable abbrev sArgs : Str := Str.ofString "args"
noncomputable abbrev sLen : Str := Str.ofString "len"
theorem fnInfo_103 : fnInfo 103 = none := by unfold fnInfo; rfl
theorem fnInfo_104 : fnInfo 104 = none := by unfold fnInfo; rfl
noncomputable def LamOk (i : Nat) (fd : FuncData) : Prop := ∃ name qual p1 body scope pm c' ctv,
  fd = kla_fn name qual ⟨[], [⟨sArgs, none, p1⟩], none, [], [], none, []⟩ body scope [] pm (.ref c') ctv ∧ scope.kind = .function ∧ scope.isCoroutine = false ∧ scope.isGenerator = false ∧ (∀ y ∈ scope.names, y.2 ≠ .free ∧ y.2 ≠ .cell) ∧
  scope.names.lookup sArgs = some .local ∧
  ((i = 103 ∧ scope.names.lookup sLen = some .globalImplicit ∧ ∃ p2 p3 p4, body = .Call (.Name sLen p2) [.Name sArgs p3] [] p4) ∨ (i = 104 ∧ ∃ n p2, body = .Constant (.str (Str.ofString "ab")) n p2))
theorem Phi_fn {c i : Nat} {F : Fn} {args : List V} {μ : Mu} {r : Res} (h : fnInfo i = some F) (e : Phi (c + 1) i args μ = r) (hr : r ≠ .stuck) : runF (Phi c) F args μ = r := by
  replace e : (match fnInfo i with | some f => (match isIn i [46, 64] with | true => Res.stuck | false => runF (Phi c) f args μ) | none => lamDen i args μ) = r := e
  rw [h] at e
  replace e : (match isIn i [46, 64] with | true => Res.stuck | false => runF (Phi c) F args μ) = r := e
  cases q : isIn i [46, 64] with
  | true => rw [q] at e; exact st e hr
  | false => rw [q] at e; exact e
theorem Phi_lam {c i : Nat} {args : List V} {μ : Mu} (h : fnInfo i = none) : Phi (c + 1) i args μ = lamDen i args μ := by
  show (match fnInfo i with | some f => (match isIn i [46, 64] with | true => Res.stuck | false => runF (Phi c) f args μ) | none => lamDen i args μ) = _
  rw [h]
theorem lam103_is {args : List V} {μ : Mu} {r : Res} (h : lamDen 103 args μ = r) (hr : r ≠ .stuck) : ∃ x, args = [x] ∧ bltV "len" [x] μ Res.ret = r ∧ ∃ v μ', r = .ret v μ' := by
  cases args with
  | nil => exact st h hr
  | cons x t => cases t with
    | cons _ _ => cases x <;> exact st h hr
    | nil => cases x with
      | list l =>
        refine ⟨_, rfl, h, ?_⟩
        replace h : (match fitL l with | true => Res.ret (toI l.length) μ | false => Res.stuck) = r := h
        cases q : fitL l with
        | true => rw [q] at h; exact ⟨_, _, h.symm⟩
        | false => rw [q] at h; exact st h hr
      | _ => exact st h hr
theorem lam104_is {args : List V} {μ : Mu} {r : Res} (h : lamDen 104 args μ = r) (hr : r ≠ .stuck) : ∃ x, args = [x] ∧ r = .ret (.str (Str.ofString "ab")) μ := by
  cases args with
  | nil => exact st h hr
  | cons x t => cases t with
    | cons _ _ => exact st h hr
    | nil => exact ⟨x, rfl, h.symm⟩
theorem lam_len {scope : Scope} {Φ : Nat → List V → Mu → Res} (h1 : scope.names.lookup sArgs = some .local) (h2 : scope.names.lookup sLen = some .globalImplicit) (p2 p3 p4 : Pos) (v : V) (μ : Mu) :
    evE 3 (mkCx scope.names Φ) [(sArgs, .val v)] (.Call (.Name sLen p2) [.Name sArgs p3] [] p4) μ Res.ret = bltV "len" [v] μ Res.ret := by
  have n1 : ∀ ρ, nameV (mkCx scope.names Φ) ρ sLen = some (.blt "len") := fun ρ => by
    unfold nameV
    rw [show seq sLen (Str.ofString "__debug__") = false by decide +kernel]
    rw [show (mkCx scope.names Φ).kinds = scope.names from rfl, look_lookup, h2]
    show gl sLen = _
    kernel_rfl!
  have n2 : nameV (mkCx scope.names Φ) [(sArgs, .val v)] sArgs = some v := by
    unfold nameV
    rw [show seq sArgs (Str.ofString "__debug__") = false by decide +kernel]
    rw [show (mkCx scope.names Φ).kinds = scope.names from rfl, look_lookup, h1]
    show (match look sArgs [(sArgs, Slot.val v)] with | some (.val v) => some v | _ => none) = _
    unfold look
    rw [show seq sArgs ((sArgs, Slot.val v) : Str × Slot).1 = true from seq_iff.mpr rfl]
  show (optS (nameV (mkCx scope.names Φ) [(sArgs, .val v)] sLen) fun w => fitS (callable w) (optS (nameV (mkCx scope.names Φ) [(sArgs, .val v)] sArgs) fun u => app (mkCx scope.names Φ) w [u] μ Res.ret)) = _
  rw [n1, n2]; rfl
section
variable {G : Gx} {K : Frag} {p : Program} {loose : List Str} {mean : ExcName → Option Value} {mg mb : Str → Option Value} {base : Heap}
theorem lam_call {i : Nat} {fd : FuncData} {a : Addr} {d c : Nat} {A : Around} {outer : List Env} {h₀ : Heap} {f : Fx} {s₀ : Shared} {m : Str → Option Value} {ow : List Addr} {led : List (Addr × Obj)} {ce : List Addr} {μ : Mu} {s : Shared} {vs : List Value} {args : List V}
    {r : Res} {Q E : Value → Shared → Prop} {Φ : Nat → List V → Mu → Res} (R : Rest G K p loose mean mg mb base) (H : HypF G K p loose mean mg mb base d Φ) (C : FCtx K p loose mean mg mb base (d + 1) A outer h₀ f)
    (hfd : LamOk i fd) {o : Obj} (ho : s.heap.get? a = some o) (hod : o.data = .func fd) (hcd : s.heap.CodeRec fd.code fd.qualname) (S : Now G K h₀ f.L m ow s₀ led ce μ s) (rs : VRs G (In K ow ce led) ce vs args)
    (h : Phi (c + 1) i args μ = r) (hr : outR r = true) (hQ : Then G K h₀ f.L m ow s₀ led ce (fun v μ' => r = .ret v μ') Q) : wpAny (model G.prog G.w) A (call (.ref a) vs) Q E s := by
  refine byC fun hg => ?_
  obtain ⟨name, qual, p1, body, scope, pm, c', ctv, rfl, hk, hco, hgen, hnm, harg, hb⟩ := hfd
  refine hg ?_
  clear hg
  have hrs : r ≠ .stuck := fun e => by rw [e] at hr; cases hr
  obtain ⟨x, rfl⟩ : ∃ x, args = [x] := by
    rcases hb with ⟨e, _⟩ | ⟨e, _⟩
    · rw [e, Phi_lam fnInfo_103] at h
      exact eEA (lam103_is h hrs) fun x e u9 => ⟨x, e⟩
    · rw [e, Phi_lam fnInfo_104] at h
      exact eEA (lam104_is h hrs) fun x e u9 => ⟨x, e⟩
  cases rs with
  | @cons v _ _ _ r1 r2 =>
  cases r2
  refine byC fun hg => ?_
  refine eAAA (groundX (R := fun r s' => match r with | .ok (.ret v) => Q v s' | .ok _ => False | .error e => E e s') (A := A) (A₀ := { A with frames := some outer }) (env := f.env) (base := base) ⟨rfl, C.st, C.ff⟩ S.F S.N C.fr rfl C.hk) fun FG BG st lv => ?_
  refine hg ?_
  clear hg
  refine wpAny_call (kla_callFunE (by have := C.room; omega) ho hod hco hgen rfl hcd ?_)
  rw [bind_simple (fd := kla_fn name qual ⟨[], [⟨sArgs, none, p1⟩], none, [], [], none, []⟩ body scope [] pm (.ref c') ctv) rfl rfl (by simp) rfl]
  refine wpAny_pure (wpAny_newFunctionEnv (fun y hy => (hnm y hy).2) (fun y hy => ?_) (fun h₁ hns hsb => ⟨(C.T.nolimit.keeps S.F.keep).fresh _ hsb, ?_⟩) hk)
  · simp at hy; rw [hy]; exact harg
  · let f' : Fx := ⟨qual, scope, s.heap.objs.size, a, .ref c', []⟩
    show codeAny _ _ (.expr body f'.env) _ _
    have hk₁ : ∀ b o, s.heap.get? b = some o → h₁.get? b = some o := fun b o e => hsb.extBut b o (Nat.ne_of_lt (Heap.lt_size e)) (Heap.get?_push_of_some _ e)
    have F' : Fr (hideAll s.heap (led.map (·.1))) s.heap.objs.size h₁ (fun y => List.lookup y ([(sArgs, v)] : List (Str × Value)).reverse) := ⟨hns, fun b o e => hk₁ b o (of_hideAll _ e), Nat.le_of_eq (hideAll_size _ _)⟩
    have N' : News (hideAll s.heap (led.map (·.1))) s.heap.objs.size h₁ led := fun p hp => ⟨hk₁ _ _ (S.N p hp).1, Nat.ne_of_lt (Heap.lt_size (S.N p hp).1), hideAll_none _ (List.mem_map_of_mem hp)⟩
    have C' : FCtx K p loose mean mg mb base d (A.deeper f'.env) (f.env :: outer) (hideAll s.heap (led.map (·.1))) f' :=
      ⟨Around.frames_deeper C.fr, BG.stays, BG.frames, C.T.keeps st, C.X.keeps st, hk, C.hh, by have := C.room; show A.depth + 1 + d + 10 < _; omega, by have := C.hu; show A.units + 3 + 3 * d + 300 < _; omega, C.hg⟩
    have S' : ∀ tk, Now G K (hideAll s.heap (led.map (·.1))) f'.L (fun y => List.lookup y ([(sArgs, v)] : List (Str × Value)).reverse) ow s₀ led ce μ { s with heap := h₁, toks := tk } := fun tk =>
      ⟨F', N', C.X.keeps st, C.T.nolimit.keeps st, S.C, S.O, let ⟨_, _, e⟩ := S.sm; ⟨h₁, tk, by rw [e]⟩⟩
    refine kla_codeExpr ?_
    have fin : ∀ {u dv s' led' ce' μ'}, Now G K (hideAll s.heap (led.map (·.1))) f'.L (fun y => List.lookup y ([(sArgs, v)] : List (Str × Value)).reverse) ow s₀ led' ce' μ' s' → Ext led ce led' ce' → VR G (In K ow ce' led') ce' u dv → r = .ret dv μ' →
        (fun (r : Result) s' => match r with | .ok (.ret v) => Q v s' | .ok _ => False | .error e => E e s') (.ok (.ret u)) s' := fun {u dv s' led' ce' μ'} T x rv e => by
      refine lv _ _ (leaveK_ T.F T.N fun F N => ?_)
      exact hQ _ _ _ _ _ _ ⟨F, N, S.X, S.big, T.C, T.O, T.sm⟩ x rv e
    rcases hb with ⟨rfl, hlen, p2, p3, p4, rfl⟩ | ⟨rfl, n, p2, rfl⟩
    · have FO := frameOk R H C' (fun y hy => (hnm y hy).1) (fun u9 => false) (s₀ := s₀)
      have RR : RhoOk G K f' (fun y => List.lookup y ([(sArgs, v)] : List (Str × Value)).reverse) ow led ce [(sArgs, .val x)] none := by
        refine ⟨fun y dv e => ?_, fun y l e => ?_⟩
        · cases q : seq y sArgs with
          | true =>
            have ed : x = dv := Slot.val.inj (Option.some.inj ((look_hit (p := (sArgs, Slot.val x)) q).symm.trans e))
            rw [seq_iff.mp q, ← ed]
            exact iEAA v r1 (fun u9 => rfl) (fun q => NameKind.noConfusion (Option.some.inj ((show f'.cs.names.lookup sArgs = some .local from harg).symm.trans q)))
          | false => exact no_of ((look_miss (p := (sArgs, Slot.val x)) q).symm.trans e)
        · cases q : seq y sArgs with
          | true => exact Slot.noConfusion (Option.some.inj ((look_hit (p := (sArgs, Slot.val x)) q).symm.trans e))
          | false => exact no_of ((look_miss (p := (sArgs, Slot.val x)) q).symm.trans e)
      have SN : SNow G K (hideAll s.heap (led.map (·.1))) f' s₀ ow led ce [(sArgs, .val x)] μ _ ow led ce none _ := ⟨S' (s.toks + ([(sArgs, v)] : List (Str × Value)).length), RR, .refl, fun u9 q => q, fun b h1 h2 => absurd h1 h2, fun y b l e => by cases e⟩
      have hr' : bltV "len" [x] μ Res.ret = r ∧ ∃ v μ', r = .ret v μ' := by
        rw [Phi_lam fnInfo_103] at h
        exact eEAA (lam103_is h hrs) fun y e a b => by rw [List.head_eq_of_cons_eq e]; exact ⟨a, b⟩
      exact (ev_sound (FO.hyp _) 3).1 rfl ((lam_len harg hlen p2 p3 p4 x μ).trans hr'.1) hrs SN.S (SN.hn FO) (fun u dv s' led' ce' μ' T x' rv e => fin T x' rv e.symm) (fun e n s' l c μ' u9 u9 q => by
        refine byC fun hg => ?_
        refine eEE (hr'.2) fun zz zz z => ?_
        refine hg ?_
        clear hg
        rw [z] at q; cases q)
    · have e : r = .ret (.str (Str.ofString "ab")) μ := by
        rw [← h, Phi_lam fnInfo_104]; rfl
      exact Constant_str (fin (S' _) .refl .str e)
theorem hyp_of {c : Nat} {A : Around} {outer : List Env} {h₀ : Heap} {f : Fx} {Φ : Nat → List V → Mu → Res} (Y : KCls G K) (C : FCtx K p loose mean mg mb base c A outer h₀ f) (m : Str → Option Value) (s₀ : Shared)
    (hc : ∀ {ow i a args vs μ led ce s R Q E}, IFun G (In K ow ce led) a i → VRs G (In K ow ce led) ce vs args → Now G K h₀ f.L m ow s₀ led ce μ s → Φ i args μ = R → outR R = true →
      Then G K h₀ f.L m ow s₀ led ce (fun d μ' => R = .ret d μ') Q → XThen (XNF G K base outer h₀ f s₀) ow led ce (fun n μ' => R = .exc n μ') E → wpAny (model G.prog G.w) A (call (.ref a) vs) Q E s) : Hyp G K h₀ f.L m s₀ A (XNF G K base outer h₀ f s₀) Φ :=
  ⟨C.hh, by have := C.hu; omega, C.hg, fun S r1 r2 e q => isi_ok Y S r1 r2 e q, fun x => x.xnd, fun x h => x.xw h, hc, Y.keep, fun rs S h hr hQ => class_ok Y C rs S h hr hQ, fun r S h hQ => meth_ok Y r S h hQ, fun r S h hQ => field_ok Y r S h hQ⟩
theorem hypF (R : Rest G K p loose mean mg mb base) (Y : KCls G K) (hF : ∀ i fd, G.Fd i fd → FnOk i fd ∨ LamOk i fd) : ∀ c, HypF G K p loose mean mg mb base c (Phi c)
  | 0 => by
    intro C m s₀
    exact hyp_of Y C m s₀ fun u9 u9 u9 h hr => by rw [← h] at hr; cases hr
  | c + 1 => by
    intro C m s₀
    refine hyp_of Y C m s₀ fun {ow i a args vs μ led ce s r Q E} hi rs S h hr hQ hX => ?_
    refine byC fun hg => ?_
    obtain ⟨o, fd, c1, oc, us, t, h1, h2, h3, h4, h5, h6, h7⟩ := hi
    refine hg ?_
    clear hg
    have hcd : s.heap.CodeRec fd.code fd.qualname := ⟨c1, oc, us, t, h4, S.get h5, h6, h7⟩
    have hrs : r ≠ .stuck := fun e => by rw [e] at hr; cases hr
    rcases hF i fd h3 with q | q
    · exact call_in R (hypF R Y hF c) C q (S.get h1) h2 hcd S rs (fun F hF' => Phi_fn hF' h hrs) hr hQ fun e n s' l c μ' X u9 x e1 => hX e n s' l c μ' X x e1
    · exact lam_call R (hypF R Y hF c) C q (S.get h1) h2 hcd S rs h hr hQ
end
end Mine

end

section
namespace Mine
open PySem PySem.W PySem.Calls PyProof.Rows
namespace XF
theorem slot_wd : PySem.Slot "wrapper_descriptor" "__get__" "wrapper_descriptor.__get__" := PySem.Slot.of (owner := "wrapper_descriptor") (n := "__get__") (by rw [typeLookup_type, builtinLookup_eq_fast]; kernel_rfl) (by decide +kernel) (by decide +kernel) (by decide +kernel)
  (by first | exact .inl (by decide +kernel) | exact .inr (by decide +kernel)) (by rw [isSubtype_type]; kernel_rfl)
theorem entry_wd : entryFor table "wrapper_descriptor.__get__" = some Builtin.«wrapper_descriptor.__get__» := entryFor_of_tree (by kernel_rfl)
theorem args_wd (a b c : Value) : argsOk "wrapper_descriptor.__get__" ⟨[a, b, c], []⟩ := by unfold argsOk; kernel_rfl
theorem type_ei : typeOf (.builtin "Exception.__init__") = pure (.type "wrapper_descriptor") := by show builtinType _ = _; rw [builtinType_eq_fast]; kernel_rfl
end XF
section
variable {prog : Program} {w : World} {A : Around} {E : Value → Shared → Prop} {h : Heap} {g : Array GenState} {d : Drawn} {t : Nat} {os : OsState} {x C : Addr}
theorem own_ei : (".".intercalate ("Exception.__init__".cutAt '.').dropLast) = "Exception" := by decide +kernel
theorem wd_get {R : Result → Shared → Prop} {vs : Array Value} (hx : h.get? x = some { cls := .ref C, data := .fields vs }) (hs : Looks (model prog w) h (isSubtype (.ref C) (.type "Exception")) true)
    (hR : R (.ok (.ret (.ref h.objs.size))) ⟨h.push { cls := .type "method-wrapper", data := .fields #[.builtin "Exception.__init__", .ref x] }, g, d, t, os⟩) :
    codeAny (model prog w) A (.call (.builtin "wrapper_descriptor.__get__") ⟨[.builtin "Exception.__init__", .ref x, .ref C], []⟩) R ⟨h, g, d, t, os⟩ := by
  refine codeAny_call_builtin XF.slot_wd.plain XF.entry_wd (XF.slot_wd.check _ _ _ _ _ _ _ _ XF.type_ei (XF.args_wd _ _ _) ?_)
  unfold Builtin.«wrapper_descriptor.__get__»
  have hs' : Looks (model prog w) h (isSubtype (.ref C) (.type (".".intercalate ("Exception.__init__".cutAt '.').dropLast))) true := by rw [own_ei]; exact hs
  repeat (first | (refine Looks.at hs' ?_) | lk)
  exact hR
theorem sup_ga {so D : Addr} {l₀ l : List Value} {K : Frag} {tk : Tok} {Q : Fin → Shared → Prop} {vs : Array Value}
    (hso : h.get? so = some { cls := .type "super", dict := none, data := .fields #[.ref D, .ref x, .ref C], slots := #[] }) (hno : Looks (model prog w) h (opaqueClassAbove (.ref C)) none)
    (hC : Looks (model prog w) h (mroOf (.ref C)) l₀) (hl : (l₀.dropWhile (· != .ref D)).drop 1 = l) (X : K.In h)
    (hf : alongIn K "__init__" l = some (some (.builtin "Exception.__init__"))) (hxC : x ≠ C) (hx : h.get? x = some { cls := .ref C, data := .fields vs }) (hs : Looks (model prog w) h (isSubtype (.ref C) (.type "Exception")) true)
    (hq : Q (.done (.ret (.ref h.objs.size))) ⟨h.push { cls := .type "method-wrapper", data := .fields #[.builtin "Exception.__init__", .ref x] }, g, d, t, os⟩) :
    wpAny (model prog w) A (Builtin.«super.__getattribute__» ⟨[.ref so, .str "__init__" tk], []⟩) Q E ⟨h, g, d, t, os⟩ := by
  have hlk := XF.slot_wd.lookup
  have hte := XF.type_ei
  have hne : (Value.ref x == Value.ref C) = false := by simp [hxC]
  have hdt : ({ cls := .type "super", dict := none, data := .fields #[.ref D, .ref x, .ref C], slots := #[] } : Obj).data = .fields #[.ref D, .ref x, .ref C] := rfl
  have f0 : (#[.ref D, .ref x, .ref C] : Array Value)[0]? = some (.ref D) := rfl
  have f1 : (#[.ref D, .ref x, .ref C] : Array Value)[1]? = some (.ref x) := rfl
  have f2 : (#[.ref D, .ref x, .ref C] : Array Value)[2]? = some (.ref C) := rfl
  unfold Builtin.«super.__getattribute__»
  repeat (first
    | (with_reducible refine wpAny_field hso hdt f0 ?_) | (with_reducible refine wpAny_field hso hdt f1 ?_) | (with_reducible refine wpAny_field hso hdt f2 ?_)
    | (with_reducible refine ks_wpAny_notOpaque hno ?_)
    | (with_reducible refine Looks.at hC ?_; rw [hl])
    | (refine ks_forIn_along X (fun u9 u9 => rfl) rfl ?_ hf)
    | (refine wpAny_call (wd_get hx hs ?_))
    | (simp only [hne, Bool.or_false, Bool.false_eq_true, if_false])
    | wp_step
    | dsimp only)
  all_goals (first | exact hq | trace_state)
end
end Mine

end

section
namespace Mine
open PySem PySem.W PySem.Calls PyProof.Rows
section
variable {prog : Program} {w : World} {A : Around} {E : Value → Shared → Prop} {h : Heap} {g : Array GenState} {d : Drawn} {t : Nat} {os : OsState} {x C : Addr}
theorem sup_method {so D : Addr} {l₀ l : List Value} {K : Frag} {pl : Sem Bool} {Q : Value × List Value → Shared → Prop} {vs : Array Value}
    (hso : h.get? so = some { cls := .type "super", dict := none, data := .fields #[.ref D, .ref x, .ref C], slots := #[] }) (hno : Looks (model prog w) h (opaqueClassAbove (.ref C)) none)
    (hC : Looks (model prog w) h (mroOf (.ref C)) l₀) (hl : (l₀.dropWhile (· != .ref D)).drop 1 = l) (X : K.In h)
    (hf : alongIn K "__init__" l = some (some (.builtin "Exception.__init__"))) (hxC : x ≠ C) (hx : h.get? x = some { cls := .ref C, data := .fields vs }) (hs : Looks (model prog w) h (isSubtype (.ref C) (.type "Exception")) true)
    (hq : Q (.ref h.objs.size, []) ⟨h.push { cls := .type "method-wrapper", data := .fields #[.builtin "Exception.__init__", .ref x] }, g, d, t + 1, os⟩) :
    wpAny (model prog w) A (getMethod (.ref so) "__init__" pl) Q E ⟨h, g, d, t, os⟩ := by
  have hlk := PySem.F.ks_slot_super_ga.lookup
  have hT : ∀ t', (⟨h, g, d, t', os⟩ : Shared).TypeIs (.ref so) "super" := fun u9 => ⟨_, hso, rfl⟩
  unfold getMethod
  refine wpAny_bind (wpAny_specialOf (hT _) hlk ?_)
  show wpAny _ _ (if (Manifest.canonical "super.__getattribute__" != "object.__getattribute__") = true then _ else _) _ _ _
  rw [if_pos PySem.F.ks_canon_super_ga]
  unfold getAttr getAttrBy
  refine wpAny_bind (wpAny_bind (wpAny_mkText (wpAny_holding (wpAny_bind (wpAny_typeOf (hT _) (wpAny_bind (wpAny_of_eq hlk ?_)))))))
  show wpAny _ _ (getAttrByItsOwn (.ref so) (.str "__init__" t) (.type "super") (.builtin "super.__getattribute__") true false) _ _ _
  unfold getAttrByItsOwn hookBefore callGetattribute boundAndCalled
  refine wpAny_bind (wpAny_of_eq (show (if onTheHeap (.type "super") then typeLookup (.type "super") "__getattr__" else pure none) = pure none from rfl) ?_)
  refine wpAny_bind (wpAny_attempt (wpAny_holding ?_))
  show wpAny _ _ (bindSpecial (.builtin "super.__getattribute__") (.ref so) >>= _) _ _ _
  refine wpAny_bind (wpAny_of_eq (PySem.F.ks_slot_super_ga.bind _) ?_)
  refine wpAny_mono (Q := fun v s' => v = .ref h.objs.size ∧ s' = ⟨h.push { cls := .type "method-wrapper", data := .fields #[.builtin "Exception.__init__", .ref x] }, g, d, t + 1, os⟩) (E := fun u9 u9 => False)
    (wpAny_call_entry PySem.F.ks_slot_super_ga (hT _) PySem.F.ks_entry_super_ga (sup_ga hso hno hC hl X hf hxC hx hs ⟨_, rfl, rfl, rfl⟩) (PySem.F.ks_gaArgs_super _ _)) (fun v s' hv => ?_) fun u9 u9 z => z.elim
  obtain ⟨rfl, rfl⟩ := hv
  exact wpAny_pure (wpAny_pure hq)
theorem init_run {v : Value} {t0 : Addr} {Q : Fin → Shared → Prop} (he : h.get? x = some { cls := .ref C, data := .fields #[.ref t0, .none, .none, .none, .bool false, .none] })
    (hq : Q (.done (.ret .none)) ⟨(h.push { cls := .type "tuple", data := .seq #[v] }).update x (Obj.mapFields (·.setIfInBounds 0 (.ref h.objs.size))), g, d, t, os⟩) :
    wpAny (model prog w) A (Builtin.«BaseException.__init__» ⟨[.ref x, v], []⟩) Q E ⟨h, g, d, t, os⟩ := by
  have he' := Heap.get?_push_of_some { cls := .type "tuple", data := .seq #[v] } he
  unfold Builtin.«BaseException.__init__»
  wp_walk
  exact hq
theorem mw_call {mw : Addr} {v : Value} {t0 : Addr} {R : Result → Shared → Prop} {oc : Value} {od : Option Addr} {cd : ClassData} {sl : Array (Option Value)} (hC : h.get? C = some ⟨oc, od, .cls cd, sl⟩) (hm : h.get? mw = some { cls := .type "method-wrapper", data := .fields #[.builtin "Exception.__init__", .ref x] })
    (he : h.get? x = some { cls := .ref C, data := .fields #[.ref t0, .none, .none, .none, .bool false, .none] })
    (hR : R (.ok (.ret .none)) ⟨(h.push { cls := .type "tuple", data := .seq #[v] }).update x (Obj.mapFields (·.setIfInBounds 0 (.ref h.objs.size))), g, d, t, os⟩) :
    codeAny (model prog w) A (.call (.ref mw) ⟨[v], []⟩) R ⟨h, g, d, t, os⟩ := by
  refine codeAny_of_tree ?_
  show wpAny _ _ (callAny (.ref mw) _) _ _ _
  unfold callAny
  refine wpAny_bind (wpAny_load hm ?_)
  show wpAny _ _ (do checkBoundCall "Exception.__init__" ⟨[.ref x, v], []⟩; again (.builtin "Exception.__init__" ⟨[.ref x, v], []⟩)) _ _ _
  refine wpAny_bind ?_
  unfold checkBoundCall
  rw [PySem.F.excCall_Exception.initRow, PySem.F.excCall_Exception.initKind]
  dsimp only
  rw [if_pos (by decide)]
  have hshort := PySem.F.excCall_Exception.noStar
  unfold Bind.checkArgs
  repeat (first | (refine wpAny_load hC ?_) | wp_step)
  exact ⟨Code.quiet_builtin _ (by decide +kernel), codeAny_builtin PySem.F.excCall_Exception.initEntry (init_run he hR)⟩
end
end Mine

end

section
namespace Mine
open PySem PySem.W PySem.Calls PyProof.Rows
open Builtin Builtin.ObjectAttr
section
variable {prog : Program} {w : World} {A : Around} {E : Value → Shared → Prop} {h : Heap} {g : Array GenState} {d : Drawn} {t : Nat} {os : OsState} {x C N : Addr}
variable {nm q : Str} {bs bm : List Value} {sn : List Str} {sub : List Value} {ab : Bool} {col : Option Bool} {dd : Option Addr} {k0 k1 k2 k3 k5 : Option Value} {newId : String} {mN : Str → Option Value} {name : Str} {v : Value}
variable {B sa owner : String}
theorem set_open {Q : Unit → Shared → Prop} {o : Obj} (SF : StoreFacts B bm sa owner) (hC : h.get? C = some (excClassObj nm q C N bs bm true sn sub ab col dd k0 k1 k2 k3 k5 newId)) (hn : h.Ns N mN) (hns : mN "__setattr__" = none) (hx : h.get? x = some o) (hc : o.cls = .ref C)
    (hq : codeAny (model prog w) A (.call (.builtin sa) ⟨[.ref x, .str name t, v], []⟩) (fun r s' => match r with | .ok (.ret u) => Q () s' | .ok _ => False | .error e => E e s') ⟨h, g, d, t + 1, os⟩) :
    wpAny (model prog w) A (setAttr (.ref x) name v) Q E ⟨h, g, d, t, os⟩ := by
  have f3 := SF.slot.bind (.ref x)
  unfold setAttr callSpecial? specialOf
  repeat (any_goals (first | assumption | (with_reducible refine wpAny_loadPart_at hx ?_; rw [hc]) | (with_reducible refine wpAny_typeLookup_exc hC hn SF.mro SF.slot.lookup ?_; rw [hns]) | wp_step))
  refine codeAny_mono hq fun r s' z => ?_
  split at z
  · exact wpAny_pure (wpAny_pure z)
  · exact z.elim
  · exact z
set_option tactic.hygienic true in
theorem store_first {Q : Unit → Shared → Prop} {o : Obj} (SF : StoreFacts B bm sa owner) (hC : h.get? C = some (excClassObj nm q C N bs bm true sn sub ab col dd k0 k1 k2 k3 k5 newId)) (hn : h.Ns N mN) (hns : mN "__setattr__" = none) (hna : mN name = none)
    (hB : typeLookup (.type B) name = pure none) (hx : h.get? x = some o) (hc : o.cls = .ref C) (hnc : ∀ c, o.data ≠ .cls c) (hdn : o.dict = none) (hfz : ({ o with dict := some h.objs.size } : Obj).isFreed = false)
    (hq : ∀ h' tk, h'.get? x = some { o with dict := some h.objs.size } → h'.Ns1 h.objs.size (fun y => if y = name then some v else none) → (∀ b ob, b ≠ x → h.get? b = some ob → h'.get? b = some ob) → Q () ⟨h', g, d, tk, os⟩) :
    wpAny (model prog w) A (setAttr (.ref x) name v) Q E ⟨h, g, d, t, os⟩ := by
  have hpass := SF.passes (.ref x)
  refine set_open SF hC hn hns hx hc ?_
  refine codeAny_call_builtin SF.slot.plain SF.entry (wpAny_check_sa SF hC hx hc ?_)
  unfold Builtin.«object.__setattr__»
  repeat (first | rw [refuse_eq] | (rw [refuseLoop_ref, hpass]) | (with_reducible refine wpAny_loadPart_at hx ?_; rw [hc]) | with_reducible refine wpAny_mroOf_exc hC ?_ | (with_reducible refine wpAny_typeLookup_exc hC hn SF.mro hB ?_; rw [hna]) | wp_step)
  rw [hdn, if_neg (by simp [typeHasDict])]
  split
  · rename_i e; cases e
  split
  · rename_i c e; exact absurd e (hnc c)
  have hne : x ≠ h.objs.size := Nat.ne_of_lt (Heap.lt_size hx)
  have hx1 := Heap.get?_push_of_some { cls := .type "dict", data := .dict #[] } hx
  refine wpAny_bind (wpAny_alloc' (wpAny_bind (wpAny_update' hx1 (wpAny_pure ?_))))
  generalize hH : ((h.push { cls := .type "dict", data := .dict #[] }).update x fun o => { cls := o.cls, dict := some h.objs.size, data := o.data, slots := o.slots }) = H
  have hxH : H.get? x = some { o with dict := some h.objs.size } := by rw [← hH]; exact Heap.get?_update_self _ hx1 hfz
  have hdH : H.get? h.objs.size = some { cls := .type "dict", data := .dict #[] } := by rw [← hH]; exact (Heap.get?_update_ne _ _ _ _ hne.symm).trans (Heap.get?_push_at rfl rfl)
  have hbH : ∀ b ob, b ≠ x → h.get? b = some ob → H.get? b = some ob := fun b ob hbx e => by rw [← hH]; exact (Heap.get?_update_ne _ _ _ _ hbx).trans (Heap.get?_push_of_some _ e)
  have hN0 : H.Ns1 h.objs.size (fun _ => none) := Heap.Ns1.of_empty ⟨_, #[], _, hdH, rfl, fun e he => absurd he (by simp), fun _ => rfl⟩
  show wpAny _ _ (storeInDict h.objs.size (.str name _) name v) _ _ _
  unfold storeInDict newKeyGuard
  refine wpAny_bind (wpAny_pure (wpAny_bind (wpAny_nsSet1 (s := ⟨H, g, d, _, os⟩) hN0 fun h' hn' hs => ?_)))
  refine byC fun hg => ?_
  refine eEEEAA (hn'.count (Within.cons name v Within.nil)) fun oD esD epD hoD hdD hcD => ?_
  refine hg ?_
  clear hg
  refine wpAny_bind (wpAny_lookBehind hoD (by rw [hdD]; exact pastItsLine_dict (Nat.le_trans hcD (by rw [List.length_cons, List.length_nil, sizeLine_eq]; lia))) ?_)
  wp_walk
  exact hq h' _ ((hs.2 x hne).trans hxH) hn' fun b ob hbx e => (hs.2 b (Nat.ne_of_lt (Heap.lt_size e))).trans (hbH b ob hbx e)
end
end Mine

end

section
namespace Mine
open PySem PySem.W PySem.Calls PyProof.Rows
noncomputable abbrev bmX : List Value := [.type "Exception", .type "BaseException", .type "object"]
noncomputable abbrev sSelf : Str := Str.ofString "self"
noncomputable abbrev sNumber : Str := Str.ofString "number"
noncomputable abbrev sTold : Str := Str.ofString "told"
section
variable {prog : Program} {w : World} {A : Around} {E : Value → Shared → Prop} {h : Heap} {g : Array GenState} {d : Drawn} {t : Nat} {os : OsState} {x C N : Addr}
variable {nm q : Str} {bs bm : List Value} {sn : List Str} {sub : List Value} {ab : Bool} {col : Option Bool} {dd : Option Addr} {k0 k1 k2 k3 k5 : Option Value} {newId : String} {hdct : Bool}
theorem raise_tail {env : Env} {Q : Flow → Shared → Prop} {od : Option Addr} {a0 a2 a3 a4 a5 : Value} {sl : Array (Option Value)} (hh : A.handled = none) (hbase : bm.contains (.type "BaseException") = true) (hC : h.get? C = some (excClassObj nm q C N bs bm hdct sn sub ab col dd k0 k1 k2 k3 k5 newId))
    (he : h.get? x = some { cls := .ref C, dict := od, data := .fields #[a0, .none, a2, a3, a4, a5], slots := sl }) (hE : E (.ref x) ⟨h, g, d, t, os⟩) : wpAny (model prog w) A (raiseTail env (.ref x)) Q E ⟨h, g, d, t, os⟩ := by
  have hcB : (Value.ref C :: bm).contains (.type "BaseException") = true := by rw [List.contains_cons, hbase, Bool.or_true]
  unfold raiseTail
  repeat (first | with_reducible refine wpAny_loadPart_at he ?_ | with_reducible refine wpAny_loadPart_at hC ?_ | (with_reducible refine wpAny_isSubtype_exc hC ?_; rw [hcB]) | wp_step)
  exact wpAny_raiseNew_none hh hE
end
end Mine

end

section
namespace Mine
open PySem PySem.W PySem.Calls PyProof.Rows
noncomputable abbrev sInit : Str := Str.ofString "__init__"
noncomputable abbrev initBody (p : Nat → Pos) (n : Nat) : List Stmt :=
  [.Expr (.Call (.Attribute (.Call (.Name (Str.ofString "super") (p 0)) [] [] (p 1)) sInit (p 2)) [.Constant (.str (Str.ofString "error")) n (p 3)] [] (p 4)) (p 5),
   .Assign [.Attribute (.Name sSelf (p 6)) sNumber (p 7)] (.Name sNumber (p 8)) (p 9), .Assign [.Attribute (.Name sSelf (p 10)) sTold (p 11)] (.Name sTold (p 12)) (p 13)]
structure KExc (G : Gx) (K : Frag) (C N fI cda cc : Addr) (scope : Scope) (qual : Str) : Prop where
  hC0 : G.cA 0 = C
  cls : ∃ nm q bs sn sub ab col dd k0 k1 k2 k3 k5, K.lookup C = some (excClassObj nm q C N bs bmX true sn sub ab col dd k0 k1 k2 k3 k5 "Exception.__new__")
  ns : ∃ mN : Str → Option Value, (∀ h, K.In h → h.Ns N mN) ∧ mN sInit = some (.ref fI) ∧ mN (Str.ofString "__setattr__") = none ∧ mN sNumber = none ∧ mN sTold = none
  fn : ∃ params dV kV doc pm an ct od osl ar p n, K.lookup fI = some ⟨.type "function", od, .func (ksFn sInit qual params (initBody p n) scope dV kV doc pm an (.ref cda) ct cc), osl⟩ ∧
    (params.posonlyargs ++ params.args).head? = some ar ∧ ar.arg = sSelf ∧ (p 2).endLine = (p 4).line ∧ ∀ (s : Shared) e va vb, K.In s.heap → BindsTo s (ksFn sInit qual params (initBody p n) scope dV kV doc pm an (.ref cda) ct cc) ⟨[e, va, vb], []⟩ [(sSelf, e), (sNumber, va), (sTold, vb)]
  code : codeIn K (.ref cda) qual = true
  codeF : ∃ ccl cdd vs ccs file tf, K.lookup cda = some ⟨ccl, cdd, .fields vs, ccs⟩ ∧ vs[2]? = some (.str file tf) ∧ ((G.prog.main.file : Str) == file) = true
  cell : ∃ cl cld csl, K.lookup cc = some ⟨cl, cld, .cell (some (.ref C)), csl⟩
  kind : scope.kind = .function
  co : scope.isCoroutine = false
  gen : scope.isGenerator = false
  nocell : ∀ x ∈ scope.names, x.2 ≠ .cell
  names : scope.names.lookup sSelf = some .local ∧ scope.names.lookup sNumber = some .local ∧ scope.names.lookup sTold = some .local ∧ scope.names.lookup (Str.ofString "super") = some .globalImplicit ∧ scope.names.lookup (Str.ofString "__class__") = some .free
  sub : mroIn K C (.ref C) = some true ∧ mroIn K C (.type "Exception") = some true
  super : nsIn K mainGlobals (Str.ofString "super") = some none
  third : nsIn K cStatics (Str.ofString "thirdparty.any") = some none
  top : (G.prog.main.scope.names.lookup (Str.ofString "super")).isSome = false
theorem along_init (K : Frag) : alongIn K sInit bmX = some (some (.builtin "Exception.__init__")) := by
  have : fastBuiltinOwn "Exception" sInit = some (.builtin "Exception.__init__") := by kernel_rfl
  unfold alongIn ownIn
  dsimp only
  rw [this]
theorem look_number : typeLookup (.type "Exception") sNumber = pure none := by rw [typeLookup_type, builtinLookup_eq_fast]; kernel_rfl
theorem look_told : typeLookup (.type "Exception") sTold = pure none := by rw [typeLookup_type, builtinLookup_eq_fast]; kernel_rfl
theorem boot_super : bootBuiltins (Str.ofString "super") = some (.type "super") := by kernel_rfl
theorem mw_keeps {M : Model} {h : Heap} {mw : Addr} {fs : Array Value} (e : h.get? mw = some { cls := .type "method-wrapper", data := .fields fs }) : Looks M h (keeperOf (.ref mw)) .machine := fun A Q E s k q => by
  unfold keeperOf
  exact wpAny_bind (wpAny_load (k _ _ e) (wpAny_pure q))
theorem upd_push {h3 h4 : Heap} {e : Addr} {to o : Obj} {f : Obj → Obj} (hh : (h3.push to).update e f = h4) (he : h3.get? e = some o) (hf : (f o).isFreed = false) : h4.get? e = some (f o) ∧ ∀ b ob, b ≠ e → h3.get? b = some ob → h4.get? b = some ob :=
  ⟨by rw [← hh]; exact Heap.get?_update_self _ (Heap.get?_push_of_some _ he) hf, fun b ob hb z => by rw [← hh]; exact (Heap.get?_update_ne _ _ _ _ hb).trans (Heap.get?_push_of_some _ z)⟩
theorem inter_no {q : Str} {scope : Scope} {L a : Addr} {cd : Value} {cc : Addr} (h : scope.kind = .function) : interactive (ksEnv q scope L a cd cc) = false := by
  unfold interactive; rw [show (ksEnv q scope L a cd cc).scope.kind = .function from h]; rfl
theorem sup_eval {env : Env} {p0 p1 p2 p3 p4 : Pos} {x : Str} {n : Nat} {c : Const} (h : p2.endLine = p4.line) :
    eval (.Call (.Attribute (.Call (.Name x p0) [] [] p1) sInit p2) [.Constant c n p3] [] p4) env = (do
      let ov ← attributeBase (.Call (.Name x p0) [] [] p1) sInit env (eval (.Call (.Name x p0) [] [] p1) env)
      standAt p2.atName
      let (f, first) ← holding [ov] (getMethod ov sInit (do return (← importBound (.Call (.Name x p0) [] [] p1) env).getD true))
      callWith p4 f first (backTo p4 (starEach [.Constant c n p3] env)) []) := by
  rw [PySem.arm_eval_Call]
  have hpos : methodCallPos true (.Call (.Name x p0) [] [] p1) env p2 p4 = pure p4 := by unfold methodCallPos; simp [h]
  have hform : methodCallForm 1 (backTo p4 (starEach [.Constant c n p3] env)) (backToKw p4 (keywordEach [] env)) = true := by rfl
  unfold methodCall
  simp only [List.length_cons, List.length_nil, Nat.zero_add, Nat.add_zero]
  rw [hform]
  simp only [hpos]
  rfl
section
variable {G : Gx} {K : Frag} {p : Program} {loose : List Str} {mean : ExcName → Option Value} {mg mb : Str → Option Value} {h₀ : Heap} {A : Around} {L a : Addr} {s : Shared} {m : Str → Option Value} {led : List (Addr × Obj)} {C N fI cda cc e t0 : Addr} {scope : Scope} {qual : Str} {va vb : Value} {E : Value → Shared → Prop}
theorem init_body (Y : KExc G K C N fI cda cc scope qual) {params : Arguments} {dV kV doc pm : Value} {an : Option Addr} {ct : Value} {od : Option Addr} {osl : Array (Option Value)} {ar : Arg} {ps : Nat → Pos} {n : Nat} {body : List Stmt} {env0 : Env}
    (hf : K.lookup fI = some ⟨.type "function", od, .func (ksFn sInit qual params (initBody ps n) scope dV kV doc pm an (.ref cda) ct cc), osl⟩) (har : (params.posonlyargs ++ params.args).head? = some ar) (ha : ar.arg = sSelf)
    (hps : (ps 2).endLine = (ps 4).line) (F : Fr h₀ L s.heap m) (X : K.In h₀) (T : Top p loose mean mg mb h₀) (N1 : News h₀ L s.heap ((e, { cls := .ref C, data := .fields #[.ref t0, .none, .none, .none, .bool false, .none] }) :: led)) (hled : ∀ p ∈ led, p.1 ≠ e)
    (m1 : m sSelf = some (.ref e)) (m2 : m sNumber = some va) (m3 : m sTold = some vb) {Q : Flow → Shared → Prop}
    (hQ : ∀ h' tk t' dx mA, Fr h₀ L h' m → News h₀ L h' led → h'.get? e = some { cls := .ref C, dict := some dx, data := .fields #[.ref t', .none, .none, .none, .bool false, .none] } → h'.Ns1 dx mA → mA sNumber = some va → dx ≠ e → dx ≠ L → h₀.get? dx = none → (∀ p ∈ led, p.1 ≠ dx) → h'.get? dx ≠ none →
      Q .next { s with heap := h', toks := tk }) :
    _root_.PySem.wpAt (model G.prog G.w) A (.func body (ksEnv qual scope L fI (.ref cda) cc)) (execs (initBody ps n) (ksEnv qual scope L fI (.ref cda) cc)) Q E s := by
  refine byC fun hg => ?_
  obtain ⟨nm, q, bs, sn, sub, ab, col, dd, k0, k1, k2, k3, k5, hC⟩ := Y.cls
  refine eEAAAA (Y.ns) fun mN hN n1 n2 n3 n4 => ?_
  obtain ⟨ccl, cdd, vs, ccs, file, tf, hcode, hvs, hfile⟩ := Y.codeF
  refine eEEE (Y.cell) fun cl cld csl hcell => ?_
  refine eAAAA (Y.names) fun q1 q2 q3 q4 q5 => ?_
  refine hg ?_
  clear hg
  have hcls : clsIn K C = some { name := nm, bases := bs, mro := .ref C :: bmX, ns := N, qualname := q, hasDict := true, slotNames := sn, subclasses := sub, abstract := ab, collection := col, hasDel := false } := by unfold clsIn; rw [hC]
  have hXs := X.keeps F.keep
  have heC : e ≠ C := fun z => by
    have h1 := hXs _ _ hC
    rw [← z, (N1 _ (.head _)).1] at h1
    have := congrArg Obj.data (Option.some.inj h1)
    cases this
  have hne : ∀ {b o}, h₀.get? b = some o → b ≠ e := fun {b o} h z => by rw [z, (N1 _ (.head _)).2.2] at h; cases h
  have hLe : L ≠ e := (N1 _ (.head _)).2.1.symm
  refine ks_wpAt_execs_cons (ks_wpAt_Expr_any (hi := inter_no Y.kind) (ks_wpAt_MethodCall (he := sup_eval hps) (ks_node (ar := ar) (x := e) F X N1 T hf har (by rw [ha]; exact m1) (show InstAt s.heap e _ C none from ⟨(N1 _ (.head _)).1, rfl, rfl, trivial⟩) hcode hvs hfile hcell hcls Y.sub.1 Y.super (by decide +kernel) q4 q5 (by rw [ha]; exact q1) Y.kind Y.top boot_super
    fun so h2 F2 N2 l2 => ?_)))
  have X2 := X.keeps F2.keep
  have he2 := (N2 _ (.tail _ (.head _))).1
  refine sup_method (N2 _ (.head _)).1 (looks_opaque X2 Y.third) (l₀ := .ref C :: bmX) (fun A Q E s k q => wpAny_bind ((looks_clsIn X2 hcls) A _ E s k (wpAny_pure q))) (l := bmX) (by simp [List.dropWhile]) X2 (along_init K) heC he2 (looks_mroIn X2 Y.sub.2) ?_
  refine callWith_plain (G := G) (P := fun h => h.get? h2.objs.size = some { cls := .type "method-wrapper", data := .fields #[.builtin "Exception.__init__", .ref e] }) (by rfl) (fun h z => ⟨.machine, .inr (.inl rfl), mw_keeps z⟩) ?_
  refine spliced_cons (Constant_str (pos := ps 3) (k := n) (spliced_nil ⟨Heap.get?_push_at rfl rfl, ?_⟩))
  have hC2 : (h2.push { cls := .type "method-wrapper", data := .fields #[.builtin "Exception.__init__", .ref e] }).get? C = some (excClassObj nm q C N bs bmX true sn sub ab col dd k0 k1 k2 k3 k5 "Exception.__new__") := Heap.get?_push_of_some _ (X2 _ _ hC)
  refine wpAny_call (mw_call hC2 (Heap.get?_push_at rfl rfl) (Heap.get?_push_of_some _ he2) ?_)
  -- behind the call
  generalize hh3 : h2.push { cls := .type "method-wrapper", data := .fields #[.builtin "Exception.__init__", .ref e] } = h3
  have k3 : ∀ b o, h2.get? b = some o → h3.get? b = some o := fun b o z => by rw [← hh3]; exact Heap.get?_push_of_some _ z
  generalize hh4 : (h3.push _).update e (Obj.mapFields (·.setIfInBounds 0 (.ref h3.objs.size))) = h4
  obtain ⟨he4', k4'⟩ := upd_push hh4 (k3 _ _ he2) rfl
  have he4 : h4.get? e = some { cls := .ref C, data := .fields #[.ref h3.objs.size, .none, .none, .none, .bool false, .none] } := he4'
  have k4 : ∀ b o, b ≠ e → h2.get? b = some o → h4.get? b = some o := fun b o hb z => k4' b o hb (k3 _ _ z)
  have F4 : Fr h₀ L h4 m := ⟨F2.ns.at' fun o z => k4 _ o hLe z, fun b o z => k4 b o (hne z) (F2.keep b o z), F.above⟩
  have N4 : News h₀ L h4 led := fun p hp => ⟨k4 _ _ (hled p hp) (N2 p (.tail _ (.tail _ hp))).1, (N1 p (.tail _ hp)).2⟩
  have X4 := X.keeps F4.keep
  refine ks_wpAt_execs_cons (wpAt_of_wpAny (plainObj_wpAny_Assign_Attribute (nameX_L F4 m2 (nameX_L F4 m1 ?_ Y.kind q1) Y.kind q2)))
  refine store_first PySem.F.store_Exception (X4 _ _ hC) (hN _ X4) n2 n3 look_number he4 rfl (fun c z => by cases z) rfl rfl fun h5 tk5 he5 hd5 k5' => ?_
  have hdx : h4.objs.size ≠ e := Nat.ne_of_gt (Heap.lt_size he4)
  have F5 : Fr h₀ L h5 m := ⟨F4.ns.at' fun o z => k5' _ o hLe z, fun b o z => k5' b o (hne z) (F4.keep b o z), F.above⟩
  have N5 : News h₀ L h5 led := fun p hp => ⟨k5' _ _ (hled p hp) (N4 p hp).1, (N4 p hp).2⟩
  have X5 := X.keeps F5.keep
  refine ks_wpAt_execs_cons (wpAt_of_wpAny (plainObj_wpAny_Assign_Attribute (nameX_L F5 m3 (nameX_L F5 m1 ?_ Y.kind q1) Y.kind q3)))
  refine store_attr (mA := fun y => if y = sNumber then some va else none) (ns := [sNumber]) PySem.F.store_Exception (X5 _ _ hC) (hN _ X5) n2 n4 look_told heC ⟨_, he5, rfl, (fun c z => by cases z), .inr ⟨_, rfl, hdx, hd5⟩⟩ (fun h6 tk6 I6 k6 s6 => ?_) (Within.cons sNumber va Within.nil) (by decide)
  refine byC fun hg => ?_
  refine eEAAAA (s6 _ he5) fun o6 g6 c6 d6 sl6 dd6 => ?_
  refine hg ?_
  clear hg
  have ho6 : o6 = { cls := .ref C, dict := some h4.objs.size, data := .fields #[.ref h3.objs.size, .none, .none, .none, .bool false, .none] } := by
    refine byC fun hg => ?_
    obtain ⟨oc, odd, oda, osl⟩ := o6
    refine hg ?_
    clear hg
    have := dd6 _ rfl
    dsimp only at c6 d6 sl6 this
    rw [c6, d6, sl6, this]
  have hkeep : ∀ b o, b ≠ e → b ≠ h4.objs.size → h5.get? b = some o → h6.get? b = some o := fun b o h1 h2 z => k6 b o h1 (fun o₀ dx z1 z2 => by
    rw [he5] at z1
    cases z1
    cases z2
    exact h2) z
  have hlt : ∀ {b o}, h4.get? b = some o → b ≠ h4.objs.size := fun z => Nat.ne_of_lt (Heap.lt_size z)
  have F6 : Fr h₀ L h6 m := ⟨F5.ns.at' fun o z => hkeep _ o hLe (by obtain ⟨oL, _, _, z2, _⟩ := F4.ns; exact hlt z2) z, fun b o z => hkeep b o (hne z) (hlt (F4.keep b o z)) (F5.keep b o z), F.above⟩
  have N6 : News h₀ L h6 led := fun p hp => ⟨hkeep _ _ (hled p hp) (hlt (N4 p hp).1) (N5 p hp).1, (N4 p hp).2⟩
  refine byC fun hg => ?_
  refine eEAAA (I6) fun o7 g7 zz zz z7 => ?_
  try clear I6
  refine hg ?_
  clear hg
  rw [g6, ho6] at g7
  cases g7
  rcases z7 with ⟨z, _⟩ | ⟨dx, z1, z2, z3⟩
  · cases z
  cases z1
  refine wpAt_of_wpAny (wpAny_execs_nil (hQ h6 tk6 h3.objs.size h4.objs.size _ F6 N6 (ho6 ▸ g6) z3 ((if_neg (show ¬ sNumber = sTold by decide +kernel)).trans (if_pos rfl)) hdx ?_ ?_ (fun p hp => hlt (N4 p hp).1) ?_))
  · obtain ⟨oL, u9, u9, z2, u9⟩ := F4.ns; exact (hlt z2).symm
  · cases z : h₀.get? h4.objs.size with
    | none => rfl
    | some o => exact absurd rfl (hlt (F4.keep _ _ z))
  · refine eEEEA (z3) fun o zz zz z zz => ?_
    try clear z3
    rw [z]; exact fun c => nomatch c
end
end Mine

end

section
namespace Mine
open PySem PySem.W PySem.Calls PyProof.Rows
theorem lookIn_ns {o : Obj} {es : Array DictEntry} {ep : Nat} {name : Str} {v : Value} (hd : o.data = .dict es ep) (hs : StrKeys es) (hv : nsFind es name = some v) : lookIn name o = some (some v) := by
  unfold lookIn
  rw [hd]
  dsimp only
  unfold nsFind findBy at hv
  refine byC fun hg => ?_
  refine eEA (Option.map_eq_some_iff.mp hv) fun e he hev => ?_
  refine hg ?_
  clear hg
  rw [← Array.find?_toList] at he
  rw [show (es.toList.find? fun x => x.key.isStr name) = some e from he]
  dsimp only
  rw [hev]
section
variable {G : Gx} {K : Frag} {p : Program} {loose : List Str} {mean : ExcName → Option Value} {mg mb : Str → Option Value} {base h₀ : Heap} {d : Nat} {A : Around} {outer : List Env} {f : Fx} {s₀ : Shared} {C N fI cda cc : Addr} {scope : Scope} {qual : Str}
theorem raise_ok (Y : KExc G K C N fI cda cc scope qual) (X : FCtx K p loose mean mg mb base d A outer h₀ f) {va vb : Value} {n : Int} {x : Str} {m : Str → Option Value} {ow : List Addr} {led : List (Addr × Obj)} {ce : List Addr} {μ : Mu} {s : Shared} {Q : Flow → Shared → Prop} {E : Value → Shared → Prop}
    (S : Now G K h₀ f.L m ow s₀ led ce μ s) (ra : VR G (In K ow ce led) ce va (.int n)) (_rb : VR G (In K ow ce led) ce vb (.str x))
    (hE : ∀ e s' led' ce', XNF G K base outer h₀ f s₀ e n ow led' ce' μ s' → Ext led ce led' ce' → E e s') : wpAny (model G.prog G.w) A (call (.ref (G.cA 0)) [va, vb]) (fun xv s₁ => wpAny (model G.prog G.w) A (raiseTail f.env xv) Q E s₁) E s := by
  refine byC fun hg => ?_
  obtain ⟨nm, q, bs, sn, sub, ab, col, dd, k0, k1, k2, k3, k5, hC⟩ := id Y.cls
  refine eEAAAA (id Y.ns) fun mN hN n1 n2 n3 n4 => ?_
  obtain ⟨params, dV, kV, doc, pm, an, ct, od, osl, ar, ps, n0, hf, har, ha, hps, hbind⟩ := id Y.fn
  refine hg ?_
  clear hg
  have hXs := X.X.keeps S.F.keep
  rw [Y.hC0]
  have hsm := S.sm
  refine byC fun hg => ?_
  obtain ⟨hp, gg, dr, tk, os⟩ := s
  refine hg ?_
  clear hg
  refine wpAny_call_exc_init PySem.F.excBase_Exception (hXs _ _ hC) (hN _ hXs) n1 (hXs _ _ hf) rfl (fun h' e hm => ?_) (by show 2 ≤ sizeLine; decide)
  refine byC fun hg => ?_
  refine eEAA (hm.there) fun t0 he htn ht => ?_
  refine hg ?_
  clear hg
  have hLe : f.L ≠ e := fun z => by
    refine byC fun hg => ?_
    refine eEEEA (S.F.ns) fun oL zz zz z2 zz => ?_
    refine hg ?_
    clear hg
    rw [z] at z2
    have := hm.new
    rw [show hp.get? e = some oL from z2] at this; cases this
  have h0e : h₀.get? e = none := by
    cases z : h₀.get? e with
    | none => rfl
    | some o => have := S.F.keep _ _ z; have h2 := hm.new; rw [show hp.get? e = some o from this] at h2; cases h2
  have hled : ∀ p ∈ led, p.1 ≠ e := fun p hp' z => by
    have h1 := (S.N p hp').1
    have h2 := hm.new
    rw [← z, show hp.get? p.1 = some p.2 from h1] at h2; cases h2
  have F1 : Fr h₀ f.L h' m := ⟨S.F.ns.at' fun o z => hm.keeps _ o z, fun b o z => hm.keeps b o (S.F.keep b o z), S.F.above⟩
  have N1 : News h₀ f.L h' ((e, { cls := .ref C, data := .fields #[.ref t0, .none, .none, .none, .bool false, .none] }) :: led) := fun p hp' => by
    rcases List.mem_cons.mp hp' with rfl | hp'
    · exact iAA he hLe.symm h0e
    · exact ⟨hm.keeps _ _ (S.N p hp').1, (S.N p hp').2⟩
  have hfr : (A.under (.builtin "type.__call__" ⟨.ref C :: [va, vb], []⟩)).frames = some (f.env :: outer) := by
    rw [show (A.under (.builtin "type.__call__" ⟨.ref C :: [va, vb], []⟩)).frames = pushEnvs (Code.envs (.builtin "type.__call__" ⟨.ref C :: [va, vb], []⟩)) A.frames from rfl, X.fr]; rfl
  have hBel : Below { A with frames := some outer } base outer h₀ := ⟨rfl, X.st, X.ff⟩
  refine byC fun hg => ?_
  refine eAAAA (Y.names) fun q1 q2 q3 q4 q5 => ?_
  refine hg ?_
  clear hg
  refine wpAny_call (ks_code_super (A₀ := { A with frames := some outer }) (base := base) (outer := outer) (env := f.env) (s := ⟨h', gg, dr, tk, os⟩) hBel F1 X.X N1 X.T hfr rfl X.hk hf Y.code (by have := X.room; show A.depth + 1 < _; lia)
    (hbind ⟨h', gg, dr, tk, os⟩ (.ref e) va vb (X.X.keeps F1.keep)) (fun y hy => ?_) (fun g L' h₁ FG F' N' B' X' T' lt => ?_) Y.nocell Y.co Y.gen Y.kind)
  · simp only [List.mem_cons, List.not_mem_nil, or_false] at hy
    rcases hy with rfl | rfl | rfl
    · exact q1
    · exact q2
    · exact q3
  · refine init_body (env0 := f.env) Y hf har ha hps F' X' T' N' hled (by rfl) (by rfl) (by rfl) (vb := vb) fun h2 tk2 t' dx mA F2 N2 he2 hd2 hmA d1 d2 d3 d4 d5 => ?_
    refine leaveK_ F2 N2 fun F3 N3 => ⟨rfl, ?_⟩
    have hX3 := X.X.keeps F3.keep
    refine raise_tail (C := C) (od := some dx) (sl := #[]) X.hh (by decide) (hX3 _ _ hC) he2 (hE _ _ led ce ?_ .refl)
    have FF := (pushX hBel F3 (env := f.env) rfl X.hk).frames
    let as := e :: (f.env :: outer).filterMap (·.frame)
    have off : ∀ b, b ≠ e → (∀ _o : Heap, FF = FF → b ∈ (f.env :: outer).filterMap (·.frame) → False) → b ∉ as := fun b h1 h2 hm' => by
      rcases List.mem_cons.mp hm' with z | z
      · exact h1 z
      · exact h2 (base : Heap) rfl z
    have fout : ∀ b, b ∈ (f.env :: outer).filterMap (·.frame) → b = f.L ∨ ∃ o, h₀.get? b = some o := fun b hb => by
      rw [show (f.env :: outer).filterMap (·.frame) = f.L :: outer.filterMap (·.frame) from rfl] at hb
      rcases List.mem_cons.mp hb with z | z
      · exact .inl z
      · obtain ⟨u9, o, ho, u9⟩ := X.ff.mem z
        exact .inr ⟨o, ho⟩
    have fbase : ∀ b, b ∈ (f.env :: outer).filterMap (·.frame) → base.get? b = none := fun b hb => (FF.mem hb).1
    refine ⟨⟨e, dx, false, hideAll h2 as, rfl, ⟨fun b o z => of_hideAll _ z, hideAll_none _ (.head _), funFrames_hide FF fun env he' a ha' => .tail _ (List.mem_filterMap.mpr ⟨env, he', ha'⟩), ?_⟩, fun b o z => ?_, ?_, fun pr hpr => ?_⟩,
      fun pr hpr => (N3 pr hpr).2, Heap.UpToSlots.of_keeps F3.keep, S.C, S.O, ?_⟩
    · exact ⟨_, _, .none, he2, by rw [Y.hC0], rfl, rfl, rfl, .inl ⟨rfl, rfl⟩⟩
    · refine hideAll_get _ (F3.keep _ _ (X.st b o z)) fun hm' => ?_
      rcases List.mem_cons.mp hm' with y | y
      · subst y
        exact no_of (h0e.symm.trans (X.st _ _ z))
      · exact no_of ((fbase b y).symm.trans z)
    · refine eEEEAAAA (hd2) fun o es ep g1 g2 g3 zz g4 => ?_
      try clear hd2
      obtain ⟨t, et⟩ := ra.inv
      refine ⟨o, t, hideAll_get _ g1 fun hm' => ?_, lookIn_ns g2 g3 (by rw [g4, ← et]; exact hmA)⟩
      rcases List.mem_cons.mp hm' with y | y
      · exact d1 y
      · rcases fout dx y with y | ⟨o', y⟩
        · refine eEEEA (FG.ns) fun oL zz zz z2 zz => ?_
          rw [← y, d3] at z2; cases z2
        · exact no_of (d3.symm.trans (FG.keep _ _ y))
    · refine hideAll_get _ (N3 pr hpr).1 fun hm' => ?_
      rcases List.mem_cons.mp hm' with y | y
      · exact hled pr hpr y
      · rcases fout _ y with y | ⟨o', y⟩
        · exact (N3 pr hpr).2.1 y
        · exact no_of ((N3 pr hpr).2.2.symm.trans y)
    · refine eEE (hsm) fun zz zz z => ?_
      try clear hsm
      cases z
      exact iEE h2 tk2 rfl
end
end Mine

end

section
namespace Mine
open PySem PySem.W PySem.Calls PyProof.Rows
section
variable {prog : Program} {w : World} {A : Around} {E : Value → Shared → Prop} {Q : Value → Shared → Prop} {s : Shared} {K : Frag} {x C : Addr} {ox : Obj} {od : Option Obj} {name : Str} {expr : Bool} {v : Value}
theorem exc_check {M : Model} {nameV : Value} {Q : Unit → Shared → Prop} (X : K.In s.heap) (I : InstAt s.heap x ox C od) (hB : subIn K (.ref C) (.type "BaseException") = some true) (hq : Q () s) : wpAny M A (checkBuiltinCall "BaseException.__getattribute__" ⟨[.ref x, nameV], []⟩) Q E s := by
  have hk : builtinKind "BaseException.__getattribute__" = some .slot := by decide +kernel
  have hsplit : splitId "BaseException.__getattribute__" = some ("BaseException", "__getattribute__") := by decide +kernel
  have ha := PySem.F.args_bexc_ga (.ref x) nameV
  have L0 := I.type (M := M)
  have L3 := looks_subIn (M := M) X hB
  obtain ⟨hh', g, d, t, os⟩ := s
  simp only [checkBuiltinCall, hk, hsplit]
  refine wpAny_bind ?_
  unfold isInstance
  refine wpAny_bind (L0.at (L3.at ?_))
  repeat (any_goals (first | assumption | exact hq | wp_step))
theorem exc_get (X : K.In s.heap) (I : InstAt s.heap x ox C od) (hga : findIn K (.ref C) "__getattribute__" = some (some (.builtin "BaseException.__getattribute__"))) (hgt : findIn K (.ref C) "__getattr__" = some none) (hB : subIn K (.ref C) (.type "BaseException") = some true)
    (hf : findObj K C od name = some (.value v)) (hh : handedIn v = true) (h : Q v { s with toks := s.toks + 1 }) : wpAny (model prog w) A (getAttr (.ref x) name expr) Q E s := by
  obtain ⟨hp, g, d, t, os⟩ := s
  have L0 := I.type (M := model prog w)
  have L1 := looks_findIn (M := model prog w) X hga
  have L2 := looks_findIn (M := model prog w) X hgt
  have L4 := looks_find (M := model prog w) X I hf
  have f3 := PySem.F.attr_Exception.ga.bind (.ref x)
  have hx0 : (expr && onTheHeap (Value.builtin "BaseException.__getattribute__")) = false := by cases expr <;> rfl
  have hx2 : (Value.builtin "BaseException.__getattribute__" == Value.builtin "object.__getattribute__") = false := by decide +kernel
  have hx1 : (onTheHeap (Value.ref C) && Value.builtin "BaseException.__getattribute__" == Value.builtin "object.__getattribute__") = false := by rw [hx2]; rfl
  unfold getAttr getAttrBy
  refine wpAny_bind (wpAny_mkText (wpAny_holding (wpAny_bind (L0.at (wpAny_bind (L1.at ?_))))))
  dsimp only
  rw [if_neg (by rw [hx1]; exact Bool.false_ne_true)]
  unfold getAttrByItsOwn
  refine wpAny_bind (L2.at ?_)
  unfold callGetattribute
  rw [if_neg (by rw [hx0]; exact Bool.false_ne_true)]
  repeat (any_goals (first | assumption | wp_step))
  refine codeAny_call_builtin PySem.F.attr_Exception.ga.plain PySem.F.entry_bexc_ga (exc_check X I hB ?_)
  unfold Builtin.«object.__getattribute__»
  refine wpAny_bind (wpAny_pure (wpAny_bind (wpAny_pure (wpAny_bind (L0.at (wpAny_bind (L4.at ?_)))))))
  refine wpAny_pure ?_
  show wpAny _ _ (handedOut v) _ _ _
  rw [handedOut_of hh]; exact wpAny_pure h
end
end Mine

end

section
namespace Mine
open PySem PySem.W PySem.Calls PyProof.Rows
noncomputable abbrev tFound : Str := Str.ofString "found"
noncomputable abbrev tWorth : Str := Str.ofString "worth"
noncomputable abbrev tTree : Str := Str.ofString "tree"
noncomputable abbrev tHooks : Str := Str.ofString "hooks"
noncomputable abbrev tErr : Str := Str.ofString "SnobolError"
noncomputable abbrev tError : Str := Str.ofString "error"
noncomputable abbrev tryBody (p : Nat → Pos) : List Stmt := [.Assign [.Name tFound (p 0)] (.Call (.Name tWorth (p 1)) [.Name tTree (p 2), .Name tHooks (p 3)] [] (p 4)) (p 5)]
noncomputable abbrev tryHand (p : Nat → Pos) : ExceptHandler := .ExceptHandler (some (.Name tErr (p 6))) (some tError) [.Return (some (.Tuple [.Constant (.str tError) 0 (p 7), .Attribute (.Name tError (p 8)) sNumber (p 9)] 0 (p 10))) (p 11)] (p 12)
noncomputable abbrev toldBody (p : Nat → Pos) (ret : Stmt) : List Stmt := [.Try (tryBody p) [tryHand p] [] [] (p 13), ret]
noncomputable def toldPs : List Pos := [⟨270, 8, 270, 13⟩, ⟨270, 16, 270, 21⟩, ⟨270, 22, 270, 26⟩, ⟨270, 28, 270, 33⟩, ⟨270, 16, 270, 34⟩, ⟨270, 8, 270, 34⟩, ⟨271, 11, 271, 22⟩, ⟨272, 16, 272, 23⟩, ⟨272, 25, 272, 30⟩, ⟨272, 25, 272, 37⟩, ⟨272, 15, 272, 38⟩, ⟨272, 8, 272, 38⟩, ⟨271, 4, 272, 38⟩, ⟨269, 4, 272, 38⟩]
noncomputable def toldNames : List (Str × NameKind) := [(tTree, .local), (tHooks, .local), (tFound, .local), (tError, .local), (tWorth, .globalImplicit), (tErr, .globalImplicit), (Str.ofString "is_fail", .globalImplicit)]
theorem told_info : ∃ p ret, fnInfo 46 = some ⟨[tTree, tHooks], toldBody p ret, toldNames⟩ :=
  ⟨fun i => toldPs.getD i ⟨0, 0, 0, 0⟩, (((fnInfo 46).map (·.body)).bind (·[1]?)).getD (.Pass ⟨0, 0, 0, 0⟩), by kernel_rfl⟩
structure KExcG (K : Frag) (C : Addr) : Prop where
  ga : findIn K (.ref C) "__getattribute__" = some (some (.builtin "BaseException.__getattribute__"))
  gt : findIn K (.ref C) "__getattr__" = some none
  base : subIn K (.ref C) (.type "BaseException") = some true
  hd : hasDictIn K C = true
  num : findIn K (.ref C) sNumber = some none
section
variable {G : Gx} {K : Frag} {p : Program} {loose : List Str} {mean : ExcName → Option Value} {mg mb : Str → Option Value} {base : Heap}
theorem hyp_ns {c : Nat} {A : Around} {outer : List Env} {h₀ : Heap} {f : Fx} (R : Rest G K p loose mean mg mb base) (Y : KCls G K) (hF : ∀ i fd, G.Fd i fd → FnOk i fd ∨ LamOk i fd) (C : FCtx K p loose mean mg mb base (c + 1) A outer h₀ f) (m : Str → Option Value) (s₀ : Shared) :
    Hyp G K h₀ f.L m s₀ A (fun e n ow led ce μ s => XNF G K base outer h₀ f s₀ e n ow led ce μ s ∧ s.heap.Ns f.L m) (Phi (c + 1)) := by
  refine ⟨C.hh, by have := C.hu; lia, C.hg, fun S r1 r2 e q => isi_ok Y S r1 r2 e q, fun x => x.1.xnd, fun x h => ⟨x.1.xw h, x.2⟩, fun {ow i a args vs μ led ce s r Q E} hi rs S h hr hQ hX => ?_, Y.keep, fun rs S h hr hQ => class_ok Y C rs S h hr hQ, fun r S h hQ => meth_ok Y r S h hQ, fun r S h hQ => field_ok Y r S h hQ⟩
  refine byC fun hg => ?_
  obtain ⟨o, fd, c1, oc, us, t, h1, h2, h3, h4, h5, h6, h7⟩ := hi
  refine hg ?_
  clear hg
  have hcd : s.heap.CodeRec fd.code fd.qualname := ⟨c1, oc, us, t, h4, S.get h5, h6, h7⟩
  have hrs : r ≠ .stuck := fun e => by rw [e] at hr; cases hr
  rcases hF i fd h3 with q | q
  · exact call_in R (hypF R Y hF c) C q (S.get h1) h2 hcd S rs (fun F hF' => Phi_fn hF' h hrs) hr hQ fun e n s' l c μ' X ns x e1 => hX e n s' l c μ' ⟨X, ns⟩ x e1
  · exact lam_call R (hypF R Y hF c) C q (S.get h1) h2 hcd S rs h hr hQ
theorem told_hand {C N fI cda cc : Addr} {scope : Scope} {qual : Str} (KE : KExc G K C N fI cda cc scope qual) (KG : KExcG K C) (R : Rest G K p loose mean mg mb base) {A : Around} {outer : List Env} {g : Heap} {f : Fx} {s₀ s : Shared} {d : Nat} (Cx : FCtx K p loose mean mg mb base d A outer g f) (Tb : Top p loose mean mg mb base) (Xb : K.In base)
    (hn1 : f.cs.names.lookup tErr = some .globalImplicit) (hn2 : f.cs.names.lookup tError = some .local) {e : Value} {n : Int} {ow : List Addr} {led : List (Addr × Obj)} {ce : List Addr} {μ : Mu} {m : Str → Option Value} {L₁ : Addr} {m₁ : Str → Option Value} (ps : Nat → Pos)
    (x : XNF G K base outer g f s₀ e n ow led ce μ s) (ns : s.heap.Ns f.L m) (n1 : g.Ns L₁ m₁) (hL : base.objs.size ≤ f.L) (hL1 : base.objs.size ≤ L₁) (hLL : L₁ ≠ f.L) (hl1 : ∀ p ∈ led, p.1 ≠ L₁)
    {Q : Flow → Shared → Prop} {E : Value → Shared → Prop} (hQ : ∀ a o h' tk, Fr base L₁ h' m₁ → News base L₁ h' ((a, o) :: led) → (∀ p ∈ led, p.1 < a) → VR G (fun b o' => (b, o') = (a, o)) [] (.ref a) (.tup [.str tError, .int n]) → Q (.ret (.ref a)) { s₀ with heap := h', toks := tk }) :
    wpAny (model G.prog G.w) A (noteFrame e f.env) (fun u9 s₂ => wpAny (model G.prog G.w) A (setFlight e none) (fun u9 s₃ => wpAny (model G.prog G.w) A (handleBy e f.env [tryHand ps]) Q E s₃) E s₂) E s := by
  refine byC fun hg => ?_
  obtain ⟨nm, q, bs, sn, sub, ab, col, dd, k0, k1, k2, k3, k5, hC⟩ := id KE.cls
  refine eEEEEAAAA (x.ex) fun ea dx tr B ee4 X hB hN hl => ?_
  subst ee4
  refine hg ?_
  clear hg
  have hsm := x.sm
  have up := x.up
  refine X.note Cx.fr rfl fun h1 X1 u1 => ?_
  refine X1.flight fun h2 X2 u2 => ?_
  have F2 : Fr base f.L h2 m := ⟨u2.ns (u1.ns ns), fun b o z => X2.stays b o (hB b o z), hL⟩
  refine byC fun hg => ?_
  refine eEEEAAAA (X2.obj) fun oe vs tv he hc hdx hd zz => ?_
  refine hg ?_
  clear hg
  have XK2 := Xb.keeps F2.keep
  have name : ∀ {Q : Value → Shared → Prop} {E : Value → Shared → Prop} {A : Around} {s : Shared}, s.heap = h2 → Q (.ref C) s → wpAny (model G.prog G.w) A (eval (.Name tErr (ps 6)) f.env) Q E s := fun {Q E A s} hs q => by
    have gg : gl tErr = some (.cls 0) := by rfl
    have F3 : Fr base f.L s.heap m := hs ▸ F2
    rcases R.gl _ _ gg with ⟨v, e1, r1⟩ | ⟨v, e1, e2, e3, r1⟩
    · obtain ⟨u9, rfl⟩ := r1.inv
      rw [KE.hC0] at e1
      exact nameX_K F3 Xb (topRead_of Tb) e1 q Cx.hk hn1
    · obtain ⟨u9, rfl⟩ := r1.inv
      rw [KE.hC0] at e2
      exact nameX_B F3 Xb (topRead_of Tb) e1 e2 e3 q Cx.hk hn1
  refine wpAny_handleBy_cons (codeAny_handlers_test (name rfl ?_)) (by intro q; cases q)
  refine wpAny_excMatches_sub_self (XK2 _ _ hC) he (by rw [hc, KE.hC0]) (by decide) (codeAny_handlers_suite_as ?_)
  refine X2.flight fun h3 X3 u3 => ?_
  refine byC fun hg => ?_
  refine eEEEAAAA (X3.obj) fun oe3 vs3 tv3 he3 hc3 hdx3 hd3 zz => ?_
  refine hg ?_
  clear hg
  have up3 : g.UpToSlots h3 := ((up.trans u1).trans u2).trans u3
  have fB : ∀ b, B.get? b = none → base.get? b = none := fun b z => by
    cases q : base.get? b with
    | none => rfl
    | some o => rw [hB _ _ q] at z; cases z
  have hfL : B.get? f.L = none := by
    refine byC fun hg => ?_
    refine eEEAA (X3.frames.2.1) fun zz zz hf hn' zz => ?_
    refine hg ?_
    clear hg
    cases hf
    exact hn'
  have F3 : Fr base f.L h3 m := ⟨u3.ns F2.ns, fun b o z => X3.stays b o (hB b o z), hL⟩
  have n13 : h3.Ns L₁ m₁ := up3.ns n1
  have hdL : dx ≠ f.L := fun z => by obtain ⟨o, t, z1, _⟩ := hN; rw [z, hfL] at z1; cases z1
  have heL : ea ≠ f.L := fun z => by
    refine byC fun hg => ?_
    obtain ⟨oL, u9, u9, zz, zd, u9⟩ := F3.ns
    refine hg ?_
    clear hg
    rw [z, zz] at he3; cases he3
    rw [zd] at hd3; cases hd3
  refine byC fun hg => ?_
  refine eEEA (hN) fun od tn hod hlk => ?_
  try clear hN
  refine hg ?_
  clear hg
  refine wpAny_storeName_local (env := f.env) hn2 F3.ns (fun h4 hn4 hs4 => ?_) (by show (f.cs.kind == .class || (f.cs.kind == .module && f.L != mainGlobals)) = false; rw [Cx.hk]; rfl)
  have k4 : ∀ b o, b ≠ f.L → h3.get? b = some o → h4.get? b = some o := fun b o hb z => (hs4.2 b hb).trans z
  have F4 := F3.set hn4 hs4
  have N4 : ∃ o1, h4.get? L₁ = some o1 ∧ News base f.L h4 ((L₁, o1) :: led) := by
    refine byC fun hg => ?_
    refine eEEEA (n13) fun o1 zz zz z zz => ?_
    try clear n13
    refine hg ?_
    clear hg
    have z4 := k4 _ _ hLL z
    refine iEA o1 z4 (fun pr hp => ?_)
    rcases List.mem_cons.mp hp with rfl | hp
    · exact ⟨z4, hLL, by
        cases q : base.get? L₁ with
        | none => rfl
        | some o => exact absurd (Heap.lt_size q) (Nat.not_lt.mpr hL1)⟩
    · refine iAA (k4 _ _ (x.news pr hp).1 (X3.stays _ _ (hl pr hp))) ((x.news pr hp).1) ?_
      cases q : base.get? pr.1 with
      | none => rfl
      | some o => have := (x.news pr hp).2; rw [Cx.st _ _ q] at this; cases this
  refine byC fun hg => ?_
  obtain ⟨o1, ho1, N4⟩ := N4
  refine hg ?_
  clear hg
  have lt4 : ∀ p ∈ led, p.1 < h4.objs.size := fun p hp => Heap.lt_size (N4 p (.tail _ hp)).1
  refine byC fun hg => ?_
  refine eEE (hsm) fun h0 tk0 ee2 => ?_
  try clear hsm
  subst ee2
  refine hg ?_
  clear hg
  refine wpAny_execs_cons (wpAny_Return_some (Tuple_ (spliced_cons (Constant_str (k := 0) (pos := ps 7) (spliced_cons (Attribute_name (np := ps 8) (pos := ps 9) (nameX_L F4 (if_pos rfl) (exc_get (Xb.keeps F4.keep) (ox := oe3) (od := some od) ⟨k4 _ _ heL he3, by rw [hc3, KE.hC0], ?_, ?_⟩ KG.ga KG.gt KG.base (findObj_own KG.hd KG.num rfl hlk) rfl ?_) Cx.hk hn2)))))))
  · unfold notCls; rw [hd3]
  · rw [hdx3]; exact k4 _ _ hdL (X3.stays _ _ hod)
  refine spliced_nil (newTuple_N F4 N4 (fun h5 F5 N5 => ?_) (by show 2 ≤ sizeLine; decide))
  show wpAny _ _ _ _ _ _
  refine wpAny_nameGoes (env := f.env) hn2 F5.ns (by show (f.cs.kind == .class || (f.cs.kind == .module && f.L != mainGlobals)) = false; rw [Cx.hk]; rfl) (fun h6 m6 hn6 hs6 => ?_)
  have k6 : ∀ b o, b ≠ f.L → h5.get? b = some o → h6.get? b = some o := fun b o hb z => (hs6.2 b hb).trans z
  refine hQ h4.objs.size { cls := .type "tuple", data := .seq #[.str tError (tk0 + 1), .int n tn] } h6 _ ⟨n13.at' fun o z => ?_, fun b o z => k6 b o ?_ (F5.keep b o z), hL1⟩ (fun pr hp => ?_) lt4 (.tup (vs := [.str tError (tk0 + 1), .int n tn]) ⟨_, _, rfl, rfl, rfl⟩ (.cons .str (.cons .int .nil)))
  · have := ho1.symm.trans (k4 _ _ hLL z)
    cases this
    exact k6 _ _ hLL (N5 _ (.tail _ (.head _))).1
  · intro q
    rw [q] at z
    exact absurd (Heap.lt_size z) (Nat.not_lt.mpr hL)
  · rcases List.mem_cons.mp hp with rfl | hp
    · exact ⟨k6 _ _ (N5 _ (.head _)).2.1 (N5 _ (.head _)).1, fun z => by
        have := Heap.lt_size ho1
        rw [← z] at this
        exact absurd this (Nat.lt_irrefl _), (N5 _ (.head _)).2.2⟩
    · have z := N5 pr (.tail _ (.tail _ hp))
      exact iAA (k6 _ _ z.2.1 z.1) (hl1 pr hp) z.2.2
end
end Mine

end

section
namespace Mine
open PySem PySem.W PySem.Calls PyProof.Rows
theorem callX_raw {prog : Program} {w : World} {A A₀ : Around} {s : Shared} {R : Result → Shared → Prop} {h₀ base : Heap} {L f : Addr} {m : Str → Option Value} {news : List (Addr × Obj)} {env : Env} {outer : List Env} {fo : Obj} {name qual : Str} {params : Arguments} {body : List Stmt} {scope : Scope} {dV kV doc pm cdv ct : Value} {an : Option Addr} {args : Args} {binds : List (Str × Value)}
    (B : Below A₀ base outer h₀) (F : Fr h₀ L s.heap m) (N : News h₀ L s.heap news) (hlim : h₀.NoLimit) (hA : A.frames = some (env :: outer)) (hf : env.frame = some L) (hke : env.scope.kind = .function)
    (ho : s.heap.get? f = some fo) (hd : fo.data = .func (fnX name qual params body scope [] dV kV doc pm an cdv ct)) (hcd : s.heap.CodeRec cdv qual) (hroom : A.depth < recursionLimit)
    (hbind : BindsTo s (fnX name qual params body scope [] dV kV doc pm an cdv ct) args binds)
    (hkind : ∀ n, ∀ x ∈ binds, scope.names.lookup x.1 = some .local ∨ (scope.names.lookup x.1 = some .cell ∧ ((cellsFrom n scope.names []).lookup x.1).isSome = true))
    (hnd : ((cellsFrom 0 scope.names []).map (·.1)).Nodup)
    (h : ∀ g L' h₁ tk cells, Fr h₀ L g m → Fr g L' h₁ (bindL (envOfC qual scope L' f cdv).kindOf binds fun u9 => none) → News g L' h₁ (cells ++ news) →
      CellsAre (bindC (envOfC qual scope L' f cdv).kindOf binds fun u9 => none) (cellsFrom (L' + 1) scope.names []) cells → Below A base (env :: outer) g → h₀.StaysIn g → (∀ p ∈ news, p.1 < L') → (∀ v s', LeaveK h₀ L m g R v s' → R (.ok (.ret v)) s') →
      wpAny (model prog w) (A.deeper (envOfC qual scope L' f cdv)) (execs body (envOfC qual scope L' f cdv))
        (fun fl s' => R (.ok (.ret (match fl with | .ret v => v | _ => .none))) s')
        (fun e s' => wpAny (model prog w) (A.deeper (envOfC qual scope L' f cdv)) (leaving (envOfC qual scope L' f cdv) e) (fun u9 s'' => R (.error e) s'') (fun e' s'' => R (.error e') s'') s')
        { s with heap := h₁, toks := tk })
    (hco : scope.isCoroutine = false := by rfl) (hgen : scope.isGenerator = false := by rfl) (hk : scope.kind = .function := by rfl) : codeAny (model prog w) A (.call (.ref f) args) R s := by
  refine byC fun hg => ?_
  refine eAAA (groundX (R := R) B F N hA hf hke) fun FG BG st lv => ?_
  refine hg ?_
  clear hg
  refine codeAny_call_function hroom ho hd hco hgen rfl hcd (hbind _ _ _ _ ?_)
  refine wpAny_newFunctionEnv_cells hk (hkind _) fun env' he s' x => ?_
  subst he
  refine ⟨(hlim.keeps F.keep).keeps x.toInCall.keep, codeAny_func ?_⟩
  refine byC fun hg => ?_
  refine eEEA (x.done) fun h₁ tk ee2 zz => ?_
  subst ee2
  refine hg ?_
  clear hg
  have hk₁ := x.toInCall.keep
  refine byC fun hg => ?_
  refine eEA (Cl.news (h₀ := s.heap) (Nat.le_refl _) fun n c hm => ⟨x.cell n c (lookup_of_mem_nodup (cellsFrom_names scope.names 0 (s.heap.objs.size + 1) [] [] rfl ▸ hnd) hm), x.above n c hm⟩) fun cells NC Y => ?_
  refine hg ?_
  clear hg
  refine wpAny_mono (h _ s.heap.objs.size h₁ tk cells FG ⟨x.toInCall.ns, fun b o e => hk₁ b o (of_hideAll _ e), Nat.le_of_eq (hideAll_size _ _)⟩ (fun p hp => ?_) Y BG st (fun p hp => Heap.lt_size (N p hp).1) (fun v s' hl => lv _ _ hl)) (fun fl s' hl => hl) fun u9 u9 y => y
  rcases List.mem_append.mp hp with hp | hp
  · refine iAA ((NC p hp).1) ((NC p hp).2.1) ?_
    cases q : (hideAll s.heap (news.map (·.1))).get? p.1 with
    | none => rfl
    | some o => have := of_hideAll _ q; rw [(NC p hp).2.2] at this; cases this
  · exact iAA (hk₁ _ _ (N p hp).1) (Nat.ne_of_lt (Heap.lt_size (N p hp).1)) (hideAll_none _ (List.mem_map_of_mem hp))
theorem told_ev (Φ : Nat → List V → Mu → Res) (ps : Nat → Pos) (a b : V) (μ : Mu) : evE 3 (topCx toldNames Φ) [(tTree, .val a), (tHooks, .val b)] (.Call (.Name tWorth (ps 1)) [.Name tTree (ps 2), .Name tHooks (ps 3)] [] (ps 4)) μ Res.ret = bindR (Φ 41 [a, b] μ) Res.ret := by kernel_rfl
section
variable {G : Gx} {K : Frag} {p : Program} {loose : List Str} {mean : ExcName → Option Value} {mg mb : Str → Option Value} {base : Heap}
theorem told_call {C N fI cda cc : Addr} {scope₀ : Scope} {qual₀ : Str} (KE : KExc G K C N fI cda cc scope₀ qual₀) (KG : KExcG K C) (R : Rest G K p loose mean mg mb base) (Y : KCls G K) (hF : ∀ i fd, G.Fd i fd → FnOk i fd ∨ LamOk i fd)
    {fd : FuncData} {a : Addr} {c : Nat} {A : Around} {outer : List Env} {f : Fx} {s₀ : Shared} {m : Str → Option Value} {ow : List Addr} {led : List (Addr × Obj)} {ce : List Addr} {μ : Mu} {s : Shared} {vs : List Value} {args : List V}
    {d : V} {μ₁ : Mu} {Q E : Value → Shared → Prop} (Cx : FCtx K p loose mean mg mb base (c + 2) A outer base f)
    (hfd : FnOk 46 fd) {o : Obj} (ho : s.heap.get? a = some o) (hod : o.data = .func fd) (hcd : s.heap.CodeRec fd.code fd.qualname) (S : Now G K base f.L m ow s₀ led ce μ s) (rs : VRs G (In K ow ce led) ce vs args)
    (h : toldDen (Phi (c + 1)) args μ = .ret d μ₁) (hQ : Then G K base f.L m ow s₀ led ce (One d μ₁) Q) : wpAny (model G.prog G.w) A (call (.ref a) vs) Q E s := by
  refine byC fun hg => ?_
  obtain ⟨name, qual, as, body, scope, dV, kV, doc, pm, an, cdv, ct, rfl, rfl, hi, hnd, hk, hco, hgen, hfree, hpk, hcn⟩ := hfd
  refine eEE (told_info) fun ps ret hi' => ?_
  try clear told_info
  refine hg ?_
  clear hg
  rw [hi'] at hi
  obtain ⟨hps, rfl, hnames⟩ : as.map (·.arg) = [tTree, tHooks] ∧ body = toldBody ps ret ∧ scope.names = toldNames := by
    have := Option.some.inj hi
    have e1 := congrArg Fn.ps this
    have e2 := congrArg Fn.body this
    have e3 := congrArg Fn.kinds this
    exact iAA e1.symm e2.symm e3.symm
  unfold toldDen at h
  rw [hi'] at h
  dsimp only at h
  cases hρ : argsRho [tTree, tHooks] args with
  | none => rw [hρ] at h; cases h
  | some ρ =>
  rw [hρ] at h
  dsimp only at h
  have hlen : vs.length = as.length := by
    have e1 := argsRho_len hρ
    rw [rs.length, e1, ← hps]; simp
  have e46 : scope.names = toldNames := hnames
  refine wpAny_call (callX_raw (A₀ := { A with frames := some outer }) (env := f.env) (m := m) (news := led) (base := base) (binds := (as.map (·.arg)).zip vs) ⟨rfl, Cx.st, Cx.ff⟩ S.F S.N Cx.T.nolimit Cx.fr rfl Cx.hk ho hod hcd (by have := Cx.room; omega) (BindsTo.of_eq (bind_simple rfl rfl hnd hlen)) (fun n x hx => ?_) hcn
    (fun g L' h₁ tk cells FG F' N' YC B' st lt lv => ?_) hco hgen hk)
  · have hx' : x.1 ∈ as.map (·.arg) := (List.of_mem_zip hx).1
    rcases hpk _ hx' with q | q
    · exact .inl q
    · exact .inr ⟨q, cellsFrom_some _ _ _ (.inl q)⟩
  · have hcs : cellsFrom (L' + 1) scope.names [] = [] := by rw [hnames]; rfl
    rw [hcs] at YC
    cases YC
    let f' : Fx := ⟨qual, scope, L', a, cdv, cellsFrom (L' + 1) scope.names []⟩
    have C' : FCtx K p loose mean mg mb base (c + 1) (A.deeper f'.env) (f.env :: outer) g f' :=
      ⟨Around.frames_deeper Cx.fr, B'.stays, B'.frames, Cx.T.keeps st, Cx.X.keeps st, hk, Cx.hh, by have := Cx.room; show A.depth + 1 + (c + 1) + 10 < _; omega, by have := Cx.hu; show A.units + 3 + 3 * (c + 1) + 300 < _; omega, Cx.hg⟩
    have hkeys : ((as.map (·.arg)).zip vs).map (·.1) = as.map (·.arg) := List.map_fst_zip (by simp [hlen])
    have hnd' : (((as.map (·.arg)).zip vs).map (·.1)).Nodup := by rw [hkeys]; exact hnd
    have S' : Now G K g L' (bindL f'.env.kindOf ((as.map (·.arg)).zip vs) fun u9 => none) ow s₀ led ce μ { s with heap := h₁, toks := tk } :=
      ⟨F', N', Cx.X.keeps st, Cx.T.nolimit.keeps st, S.C, S.O, let ⟨_, _, e⟩ := S.sm; ⟨h₁, tk, by rw [e]⟩⟩
    have RR : RhoOk G K f' (bindL f'.env.kindOf ((as.map (·.arg)).zip vs) fun u9 => none) ow led ce ρ none := by
      refine ⟨fun x dv e => ?_, fun x l e => ?_⟩
      · refine eEEAA (argsRho_is (hps ▸ hρ) rs e) fun v dv' e1 r1 hm => ?_
        cases e1
        refine iEAA v r1 (fun hkd => bindL_mem hkd hnd' hm) (fun hkd => ?_)
        have hkd' : (x, NameKind.cell) ∈ toldNames := by rw [← e46]; exact lookup_mem hkd
        simp [toldNames] at hkd'
      · refine eEEA (argsRho_is (hps ▸ hρ) rs e) fun v dv' e1 zz => ?_
        cases e1
    have SN : SNow G K g f' s₀ ow led ce ρ μ (bindL f'.env.kindOf ((as.map (·.arg)).zip vs) fun u9 => none) ow led ce none { s with heap := h₁, toks := tk } :=
      ⟨S', RR, .refl, fun u9 q => q, fun b h1 h2 => absurd h1 h2, fun y b l e => by cases e⟩
    have FO := frameOk R (hypF R Y hF (c + 1)) C' hfree (fun u9 => false) (s₀ := s₀)
    have back : ∀ {v dv m' s' led' ce' μ'}, Now G K g L' m' ow s₀ led' ce' μ' s' → Ext led ce led' ce' → VR G (In K ow ce' led') ce' v dv → Res.ret d μ₁ = .ret dv μ' → Q v s' := fun {v dv m' s' led' ce' μ'} T x rv e => by
      cases e
      exact lv _ _ (leaveK_ T.F T.N fun F N => hQ _ _ _ _ _ _ ⟨F, N, S.X, S.big, T.C, T.O, T.sm⟩ x rv ⟨rfl, rfl⟩)
    obtain ⟨x, y, rfl, rfl⟩ : ∃ x y, args = [x, y] ∧ ρ = [(tTree, .val x), (tHooks, .val y)] := by
      match args, hρ with
      | [x, y], hρ => exact ⟨x, y, rfl, (Option.some.inj hρ).symm⟩
    have hl2 : ∀ z k, toldNames.lookup z = some k → scope.names.lookup z = some k := fun z k q => by rw [e46]; exact q
    have hev := told_ev (Phi (c + 1)) ps x y μ
    rw [← e46] at hev h
    have hfL : ∃ oL, g.get? f.L = some oL := let ⟨oL, _, _, z, _⟩ := FG.ns; ⟨oL, z⟩
    obtain ⟨oL, hoL⟩ := hfL
    have hlt : f.L < L' := Nat.lt_of_lt_of_le (Heap.lt_size hoL) F'.above
    have hrs : Phi (c + 1) 41 [x, y] μ ≠ .stuck := fun e => by rw [e] at h; cases h
    have hb : bindR (Phi (c + 1) 41 [x, y] μ) Res.ret = Phi (c + 1) 41 [x, y] μ := by
      cases q : Phi (c + 1) 41 [x, y] μ with
      | ret v μ' => rfl
      | exc n μ' => rfl
      | next a b => rw [q] at h; cases h
      | stuck => exact absurd q hrs
    rw [hb] at hev
    refine wpAny_execs_cons (wpAny_Try_except (wpAny_execs_cons (wpAny_Assign_Name ((ev_sound (hyp_ns R Y hF C' _ s₀) 3).1 rfl hev hrs S' (SN.hn FO) (fun v dv s1 l1 c1 μ1 S1 x1 rv h1 => ?_) (fun e n s' l c' μ' X x1 e1 => ?_)) (assign_none _ _ _ _ trivial))))
    · refine store_sound FO (SN.ext S1 x1) (hl2 _ _ rfl) rv fun m' s' SN' => ?_
      refine wpAny_execs_nil (wpAny_execs_nil ?_)
      rw [← h1] at h
      exact evS_sound FO fuelS h (fun e => nomatch e) SN' (fun ρ' μ' m' ow' led' ce' ox' s' T e => back (T.S.weak T.sub) T.x .none e.symm) (fun v dv s' m' led' ce' μ' T x rv e => back T x rv e) (fun e n s' l c μ' u9 u9 q => by cases q)
    · rw [e1] at h
      cases h
      refine told_hand KE KG R C' Cx.T Cx.X (hl2 _ _ rfl) (hl2 _ _ rfl) ps X.1 X.2 FG.ns (Nat.le_of_lt (Nat.lt_of_le_of_lt S.F.above hlt)) S.F.above (Nat.ne_of_lt hlt) (fun pr hp z => ?_) (fun b ob h' tk F N lt r => ?_)
      · have := (X.1.news pr hp).2
        rw [z, hoL] at this; cases this
      · have sub : ∀ q ∈ l, q ∈ (b, ob) :: l := fun q hq => .tail _ hq
        refine hQ _ _ _ _ _ _ ⟨F, N, S.X, S.big, X.1.C.ext sub, fun z hz => let ⟨o', q⟩ := X.1.O z hz; ⟨o', sub _ q⟩, ⟨h', tk, rfl⟩⟩ (x1.trans (.push _) X.1.C.nodup) (r.mono (fun z o' e => ?_) (fun i z q => by simp at q)) ⟨rfl, rfl⟩
        cases e
        exact .inl ⟨.head _, fun q => let ⟨_, w⟩ := X.1.O _ q; Nat.lt_irrefl _ (lt _ w), fun q => let ⟨_, w⟩ := X.1.C.mem q; Nat.lt_irrefl _ (lt _ w)⟩
end
end Mine

end

section
namespace Mine
open PySem PySem.W PySem.Calls PyProof.Rows
section
variable {A : Around} {Q E : Value → Shared → Prop}
variable {G : Gx} {K : Frag} {p : Program} {loose : List Str} {mean : ExcName → Option Value} {mg mb : Str → Option Value} {h₀ : Heap} {f : Fx} {m : Str → Option Value} {ow : List Addr} {s₀ s : Shared} {led : List (Addr × Obj)} {ce : List Addr} {μ : Mu} {P c : Addr} {ps : Array Value}
noncomputable abbrev lamPs (p1 : Pos) : Arguments := ⟨[], [⟨sArgs, none, p1⟩], none, [], [], none, []⟩
theorem lam_make {i : Nat} {p1 pos : Pos} {body : PySem.Expr} {scope : Scope} (S : Now G K h₀ f.L m ow s₀ led ce μ s) (hP : (P, tabObj ps) ∈ led) (hPo : P ∈ ow) (T : Top p loose mean mg mb h₀) (C : CodeHd h₀ c P) (hcd : f.ccd = .ref c) (ht : TriplesOk ps.toList) (hnf : codeAmong pos ps.toList = none)
    (hcl : closureFor scope f.env = pure []) (hlam : ∀ qual pm c' ctv, G.Fd i (kla_fn "<lambda>" qual (lamPs p1) body scope [] pm (.ref c') ctv))
    (hQ : ∀ v s' led' c', Now G K h₀ f.L m ow s₀ led' ce μ s' → (P, tabObj (ps ++ #[rawInt pos.line, rawInt pos.col, .ref c'])) ∈ led' → (∀ a o, In K ow ce led a o → In K ow ce led' a o) → (∀ q ∈ led, q.1 ≠ P → q ∈ led') → VR G (In K ow ce led') ce v (.fn i) → Q v s') :
    wpAny (model G.prog G.w) A (eval (.Lambda (lamPs p1) body scope pos) f.env) Q E s := by
  let l1 := led.filter fun q => !(q.1 == P)
  have m1 : ∀ q ∈ led, q.1 ≠ P → q ∈ l1 := fun q hq hn => List.mem_filter.mpr ⟨hq, by simpa using hn⟩
  have m2 : ∀ q ∈ l1, q ∈ led ∧ q.1 ≠ P := fun q hq => by
    obtain ⟨a, b⟩ := List.mem_filter.mp hq
    exact ⟨a, by simpa using b⟩
  have N1 : News h₀ f.L s.heap ((P, tabObj ps) :: l1) := fun q hq => by
    rcases List.mem_cons.mp hq with rfl | hq
    · exact S.N _ hP
    · exact S.N _ (m2 q hq).1
  refine kla_eval (by rfl) (kla_nest S.F N1 T C hcd (.head fun q hq => (m2 q hq).2) ht hnf hcl fun f' c' oc vs t ctv h' tk F' N' d1 d2 lt1 lt2 => ?_)
  have below : ∀ b ∈ ow, b < c' := fun b hb => by
    obtain ⟨o, ho⟩ := S.O b hb
    by_cases hbP : b = P
    · rw [hbP]; exact lt1 _ (.head _)
    · exact lt1 _ (.tail _ (m1 _ ho hbP))
  have belowC : ∀ b ∈ ce, b < c' := fun b hb => by
    obtain ⟨o, ho⟩ := S.C.mem hb
    by_cases hbP : b = P
    · rw [hbP]; exact lt1 _ (.head _)
    · exact lt1 _ (.tail _ (m1 _ ho hbP))
  have sub : ∀ q ∈ led, q.1 ≠ P → q ∈ (f', kla_obj "<lambda>" (f.env.qual ++ "<lambda>") (lamPs p1) body scope [] ((mg "__name__").getD .none) c' ctv) :: (c', oc) :: (P, tabObj (ps ++ #[rawInt pos.line, rawInt pos.col, .ref c'])) :: l1 := fun q hq hn => .tail _ (.tail _ (.tail _ (m1 q hq hn)))
  have inn : ∀ a o, In K ow ce led a o → In K ow ce ((f', kla_obj "<lambda>" (f.env.qual ++ "<lambda>") (lamPs p1) body scope [] ((mg "__name__").getD .none) c' ctv) :: (c', oc) :: (P, tabObj (ps ++ #[rawInt pos.line, rawInt pos.col, .ref c'])) :: l1) a o := fun a o h => by
    rcases h with ⟨h1, h2, h3⟩ | h
    · exact .inl ⟨sub _ h1 (fun e => h2 (by rw [show a = P from e]; exact hPo)), h2, h3⟩
    · exact .inr h
  refine hQ _ _ ((f', kla_obj "<lambda>" (f.env.qual ++ "<lambda>") (lamPs p1) body scope [] ((mg "__name__").getD .none) c' ctv) :: (c', oc) :: (P, tabObj (ps ++ #[rawInt pos.line, rawInt pos.col, .ref c'])) :: l1) c'
    ⟨F', N', S.X, S.big, ⟨S.C.len, S.C.nodup, S.C.off, fun i l e => ?_⟩, fun b hb => ?_, let ⟨_, _, e⟩ := S.sm; ⟨h', tk, by rw [e]⟩⟩ (.tail _ (.tail _ (.head _))) inn sub (.fn ⟨_, _, _, _, vs, t, .inl ⟨.head _, fun q => ?_, fun q => ?_⟩, rfl, hlam _ _ c' ctv, rfl, .inl ⟨.tail _ (.head _), fun q => ?_, fun q => ?_⟩, d1, d2⟩)
  · refine eEEEAA (S.C.at_ i l e) fun a us n x y z => ?_
    exact iEEEAA a us n x (sub _ y (fun e => S.C.off a (List.mem_of_getElem? x) (by rw [show a = P from e]; exact hPo))) (z.mono inn fun u9 u9 q => q)
  · by_cases hbP : b = P
    · subst hbP; exact ⟨_, .tail _ (.tail _ (.head _))⟩
    · obtain ⟨o, ho⟩ := S.O b hb
      exact ⟨o, sub _ ho hbP⟩
  · exact absurd (below _ q) (Nat.not_lt.mpr (Nat.le_of_lt lt2))
  · exact absurd (belowC _ q) (Nat.not_lt.mpr (Nat.le_of_lt lt2))
  · exact Nat.lt_irrefl _ (below _ q)
  · exact Nat.lt_irrefl _ (belowC _ q)
end
end Mine

end

section
namespace Mine
open PySem PySem.W PySem.Calls PyProof.Rows
noncomputable abbrev hEH : Str := Str.ofString "ExprHooks"
noncomputable abbrev hVal : Str := Str.ofString "values"
noncomputable abbrev hLF : Str := Str.ofString "_law_fails"
noncomputable abbrev hFs : List Str := [Str.ofString "F", Str.ofString "G", Str.ofString "H"]
noncomputable abbrev hookDict (q : Nat → Pos) (b1 b2 : PySem.Expr) (sc1 sc2 : Scope) : PySem.Expr :=
  .Dict [some (.Constant (.str (Str.ofString "F")) 0 (q 0)), some (.Constant (.str (Str.ofString "G")) 0 (q 1)), some (.Constant (.str (Str.ofString "H")) 0 (q 2))]
    [.Name hLF (q 3), .Lambda (lamPs (q 4)) b1 sc1 (q 5), .Lambda (lamPs (q 6)) b2 sc2 (q 7)] (q 8)
noncomputable abbrev hookCall (q : Nat → Pos) (b1 b2 : PySem.Expr) (sc1 sc2 : Scope) : PySem.Expr :=
  .Call (.Name hEH (q 9)) [.Name hVal (q 10), hookDict q b1 b2 sc1 sc2, .Constant (.int 16) 0 (q 11), .Constant (.int 12) 0 (q 12)] [] (q 13)
section
variable {A : Around} {XN : XNT} {Φ : Nat → List V → Mu → Res} {Q E : Value → Shared → Prop}
variable {G : Gx} {K : Frag} {p : Program} {loose : List Str} {mean : ExcName → Option Value} {mg mb : Str → Option Value} {h₀ : Heap} {f : Fx} {m : Str → Option Value} {ow : List Addr} {s₀ s : Shared} {led : List (Addr × Obj)} {ce : List Addr} {μ : Mu} {P c : Addr} {ps : Array Value} {cx : Cx} {ρ : Rho}
structure LamsOk (G : Gx) (f : Fx) (q : Nat → Pos) (b1 b2 : PySem.Expr) (sc1 sc2 : Scope) : Prop where
  cl1 : closureFor sc1 f.env = pure []
  cl2 : closureFor sc2 f.env = pure []
  ok1 : ∀ qual pm c' ctv, G.Fd 103 (kla_fn "<lambda>" qual (lamPs (q 4)) b1 sc1 [] pm (.ref c') ctv)
  ok2 : ∀ qual pm c' ctv, G.Fd 104 (kla_fn "<lambda>" qual (lamPs (q 6)) b2 sc2 [] pm (.ref c') ctv)
  two : ∀ c' : Addr, codeAmong (q 7) [rawInt (q 5).line, rawInt (q 5).col, .ref c'] = none
theorem hooks_dict {q : Nat → Pos} {b1 b2 : PySem.Expr} {sc1 sc2 : Scope} (LO : LamsOk G f q b1 b2 sc1 sc2) (hn : HN A G K h₀ f.L m ow s₀ f.env cx ρ led ce) (S : Now G K h₀ f.L m ow s₀ led ce μ s) (hP : (P, tabObj #[]) ∈ led) (hPo : P ∈ ow) (T : Top p loose mean mg mb h₀) (C : CodeHd h₀ c P) (hcd : f.ccd = .ref c)
    (e3 : nameV cx ρ hLF = some (.fn 63))
    (hQ : ∀ v s' led', Now G K h₀ f.L m ow s₀ led' ce μ s' → (∀ a o, In K ow ce led a o → In K ow ce led' a o) → (∀ q ∈ led, q.1 ≠ P → q ∈ led') → (∃ ps', (P, tabObj ps') ∈ led' ∧ TriplesOk ps'.toList) → VR G (In K ow ce led') ce v (.dict hFs [.fn 63, .fn 103, .fn 104]) → Q v s') :
    wpAny (model G.prog G.w) A (eval (hookDict q b1 b2 sc1 sc2) f.env) Q E s := by
  refine kdn_eval (knd := PySem.strKind G.prog G.w) S.F S.N S.big (by rfl) (by rfl) (by simp) (by simp) fun d h' o F N hf lo hd => ?_
  have hf' : ∀ p ∈ led, p.1 ≠ d := fun p hp => Nat.ne_of_lt (hf p hp)
  have S1 := S.open_ (o := o) F N hf' s.toks
  have ow1 : d ∉ ow := fun q => let ⟨_, y⟩ := S.O _ q; hf' _ y rfl
  have ce1 : d ∉ ce := fun q => let ⟨_, y⟩ := S.C.mem q; hf' _ y rfl
  have hPd : P ≠ d := hf' _ hP
  have hn1 := hn.open_ (o := o) hf'
  obtain ⟨v3, r3, k3⟩ := hn1.get e3
  refine evalPairs_cons (Constant_str (k := 0) (pos := q 0) (wpAny_bind (k3 (S1.toks _) .refl (wpAny_bind (wpAny_standAt (wpAny_pure ?_))))))
  refine evalPairs_cons (Constant_str (k := 0) (pos := q 1) (wpAny_bind (lam_make (i := 103) ((S1.toks _).toks _) (.tail _ hP) (.tail _ hPo) T C hcd trivial rfl LO.cl1 LO.ok1 fun v4 s4 l4 c4 S4 p4 i4 k4 r4 => wpAny_bind (wpAny_standAt (wpAny_pure ?_)))))
  refine evalPairs_cons (Constant_str (k := 0) (pos := q 2) (wpAny_bind (lam_make (i := 104) (S4.toks _) p4 (.tail _ hPo) T C hcd ?_ ?_ LO.cl2 LO.ok2 fun v5 s5 l5 c5 S5 p5 i5 k5 r5 => wpAny_bind (wpAny_standAt (wpAny_pure ?_)))))
  · exact trivial
  · exact LO.two c4
  refine evalPairs_nil ?_
  have hmem : (d, o) ∈ l5 := k5 _ (k4 _ (.head _) hPd.symm) hPd.symm
  refine display_done_str (by rfl) (by show hFs.Nodup; decide) (Heap.dictOf_iff.mpr ⟨o, (S5.N _ hmem).1, hd⟩) fun h2 hm2 hs2 => ?_
  refine eEA (Heap.dictOf_iff.mp hm2) fun o2 ho2 hd2 => ?_
  have S2 := (S5.setAt (.head _) hmem hs2 ho2 (s5.toks + 3)).close
  have i2 : In K ow ce (upd l5 d o2) d o2 := .inl ⟨upd_self hmem, ow1, ce1⟩
  have fin : ∀ a x, In K (d :: ow) ce ((d, o) :: led) a x → In K ow ce (upd l5 d o2) a x := fun a x h => (((i5 _ _ (i4 _ _ h)).upd (.head _))).close
  refine hQ _ _ _ S2 (fun a x h => fin a x (h.open_ hf')) (fun pr hp hne => upd_ne (k5 _ (k4 _ (.tail _ hp) hne) hne) (hf' _ hp)) ⟨_, upd_ne p5 hPd, trivial⟩ (.dict (vs := [v3, v4, v5]) i2 hd2 rfl lo (.cons (r3.mono fin fun u9 u9 q => q) (.cons (r4.mono (fun a x h => (((i5 _ _ h).upd (.head _))).close) fun u9 u9 q => q) (.cons (r5.mono (fun a x h => ((h.upd (.head _))).close) fun u9 u9 q => q) .nil))))
theorem hooks_eval {q : Nat → Pos} {b1 b2 : PySem.Expr} {sc1 sc2 : Scope} (H : Hyp G K h₀ f.L m s₀ A XN Φ) (LO : LamsOk G f q b1 b2 sc1 sc2) (hn : HN A G K h₀ f.L m ow s₀ f.env cx ρ led ce) (S : Now G K h₀ f.L m ow s₀ led ce μ s) (hP : (P, tabObj #[]) ∈ led) (hPo : P ∈ ow) (T : Top p loose mean mg mb h₀) (C : CodeHd h₀ c P) (hcd : f.ccd = .ref c)
    {x : V} (e1 : nameV cx ρ hEH = some (.cls 7)) (e2 : nameV cx ρ hVal = some x) (e3 : nameV cx ρ hLF = some (.fn 63))
    (hQ : ∀ v s' led' ce', Now G K h₀ f.L m ow s₀ led' ce' (μ ++ [[]]) s' → (∀ a o, In K ow ce led a o → In K ow ce' led' a o) → (∀ (i : Nat) a, ce[i]? = some a → ce'[i]? = some a) → (∀ q ∈ led, q.1 ≠ P → q.1 ∉ ce → q ∈ led' ∧ q.1 ∉ ce') → (∃ ps', (P, tabObj ps') ∈ led' ∧ TriplesOk ps'.toList ∧ P ∉ ce') →
      VR G (In K ow ce' led') ce' v (.inst 7 [x, .dict hFs [.fn 63, .fn 103, .fn 104], .int 16, .int 12, .cell μ.length]) → Q v s') :
    wpAny (model G.prog G.w) A (eval (hookCall q b1 b2 sc1 sc2) f.env) Q E s := by
  obtain ⟨v1, r1, k1⟩ := hn.get e1
  obtain ⟨v2, r2, k2⟩ := hn.get e2
  obtain ⟨u9, rfl⟩ := r1.inv
  refine Call_plain (fun o n p e => nomatch e) (k1 S .refl ?_)
  refine callWith_plain (P := KeptBy G K (.ref (G.cA 7))) rfl (fun u9 x => x) ?_
  refine spliced_cons (k2 S .refl (spliced_cons (hooks_dict LO hn S hP hPo T C hcd e3 fun v3 s3 l3 S3 i3 m3 t3 r3 => ?_)))
  refine spliced_cons (wpAny_Constant_int (k := 0) (pos := q 11) (spliced_cons (wpAny_Constant_int (k := 0) (pos := q 12) (spliced_nil ?_))))
  have S4 := (S3.toks (s3.toks + 1)).toks (s3.toks + 1 + 1)
  refine ⟨kept H S4 (.cls (c := 7)) rfl, ?_⟩
  refine H.class_ (c := 7) (k := Res.ret) (r := .ret (.inst 7 [x, .dict hFs [.fn 63, .fn 103, .fn 104], .int 16, .int 12, .cell μ.length]) (μ ++ [[]])) (.cons (r2.mono i3 fun u9 u9 q => q) (.cons r3 (.cons .int (.cons .int .nil)))) S4 (by rfl) (fun e => nomatch e) fun v d s' led' ce' μ' S' y rv e => ?_
  cases e
  refine eEA (t3) fun ps' t1 t2 => ?_
  try clear t3
  have hPc : P ∉ ce := fun z => S.C.off _ z hPo
  exact hQ _ _ _ _ S' (fun a o h => y.inn (i3 a o h)) (fun i a h => y.get h) (fun q hq h1 h2 => ⟨y.keep _ (m3 q hq h1) h2, y.off (m3 q hq h1) h2⟩) ⟨ps', y.keep _ t1 hPc, t2, y.off t1 hPc⟩ rv
end
end Mine

end

section
namespace Mine
open PySem PySem.W PySem.Calls PyProof.Rows
theorem execs_append (env : Env) : ∀ a b : List Stmt, execs (a ++ b) env = (do match ← execs a env with | .next => execs b env | f => pure f)
  | [], b => by simp [execs_nil]
  | st :: a, b => by
    rw [List.cons_append, execs_cons, execs_cons, bind_assoc]
    congr 1
    funext f
    cases f with
    | next => exact execs_append env a b
    | _ => simp
theorem execs_app {M : Model} {A : Around} {a b : List Stmt} {env : Env} {Q : Flow → Shared → Prop} {E : Value → Shared → Prop} {s : Shared}
    (h : wpAny M A (execs a env) (fun f s' => match f with | .next => wpAny M A (execs b env) Q E s' | f => Q f s') E s) : wpAny M A (execs (a ++ b) env) Q E s := fun Γ p hΓ => by
  rw [execs_append, Sem.wp_bind']
  refine Sem.wp_mono M Γ _ (fun f p' s' h' => ?_) (fun u9 u9 u9 h' => h') _ _ (h Γ p hΓ)
  cases f <;> first | exact h' Γ p' hΓ | exact h'
noncomputable def lawPs : List Pos := [⟨429, 31, 429, 34⟩, ⟨429, 48, 429, 51⟩, ⟨430, 25, 430, 28⟩, ⟨429, 36, 429, 46⟩, ⟨430, 7, 430, 11⟩, ⟨430, 0, 430, 22⟩, ⟨431, 7, 431, 11⟩, ⟨431, 0, 431, 17⟩, ⟨429, 30, 431, 19⟩, ⟨429, 12, 429, 21⟩, ⟨429, 22, 429, 28⟩, ⟨431, 21, 431, 23⟩, ⟨431, 25, 431, 27⟩, ⟨429, 12, 431, 28⟩, ⟨430, 13, 430, 16⟩, ⟨430, 17, 430, 21⟩, ⟨430, 13, 430, 22⟩, ⟨431, 13, 431, 17⟩, ⟨429, 4, 429, 9⟩, ⟨429, 4, 431, 28⟩]
noncomputable abbrev lq (i : Nat) : Pos := lawPs.getD i ⟨0, 0, 0, 0⟩
noncomputable abbrev hHooks : Str := Str.ofString "hooks"
noncomputable abbrev lamB1 : PySem.Expr := .Call (.Name sLen (lq 14)) [.Name sArgs (lq 15)] [] (lq 16)
noncomputable abbrev lamB2 : PySem.Expr := .Constant (.str (Str.ofString "ab")) 0 (lq 17)
noncomputable def dictVals : Stmt → List PySem.Expr
  | .Assign _ (.Call _ (_ :: .Dict _ vs _ :: _) _ _) _ => vs
  | _ => []
noncomputable def lamSc : PySem.Expr → Option Scope
  | .Lambda _ _ s _ => some s
  | _ => none
noncomputable def lawSc (i : Nat) : Scope := (((((fnInfo 64).bind fun f => stAt f.body 4).map dictVals).bind (·[i]?)).bind lamSc).getD default
noncomputable abbrev hookStmt : Stmt := .Assign [.Name hHooks (lq 18)] (hookCall lq lamB1 lamB2 (lawSc 1) (lawSc 2)) (lq 19)
theorem law_stmt : (fnInfo 64).bind (fun f => stAt f.body 4) = some hookStmt := by kernel_rfl
theorem law_sc1 : (lawSc 1).kind = .function ∧ (lawSc 1).isCoroutine = false ∧ (lawSc 1).isGenerator = false ∧ (lawSc 1).names = [(sArgs, .local), (sLen, .globalImplicit)] := ⟨by kernel_rfl, by kernel_rfl, by kernel_rfl, by kernel_rfl⟩
theorem law_sc2 : (lawSc 2).kind = .function ∧ (lawSc 2).isCoroutine = false ∧ (lawSc 2).isGenerator = false ∧ (lawSc 2).names = [(sArgs, .local)] := ⟨by kernel_rfl, by kernel_rfl, by kernel_rfl, by kernel_rfl⟩
end Mine

end

section
namespace Mine
open PySem PySem.W PySem.Calls PyProof.Rows
noncomputable abbrev sScript : Str := Str.ofString "script"
noncomputable def lawF : Fn := (fnInfo 64).getD ⟨[], [], []⟩
theorem law_is : fnInfo 64 = some lawF := by
  have h : (fnInfo 64).isSome = true := by kernel_rfl
  unfold lawF
  cases q : fnInfo 64 with
  | none => rw [q] at h; cases h
  | some F => rfl
theorem law_body : lawF.body = lawF.body.take 4 ++ hookStmt :: lawF.body.drop 5 := by
  have h := law_stmt
  rw [law_is] at h
  have h' : lawF.body[4]? = some hookStmt := h
  have hlt := (List.getElem?_eq_some_iff.mp h').1
  rw [← (List.getElem?_eq_some_iff.mp h').2, ← List.drop_eq_getElem_cons hlt, List.take_append_drop]
theorem law_names : lawF.kinds.lookup hHooks = some .local ∧ lawF.kinds.lookup hVal = some .local ∧ lawF.kinds.lookup hEH = some .globalImplicit ∧ lawF.kinds.lookup hLF = some .globalImplicit := ⟨by kernel_rfl, by kernel_rfl, by kernel_rfl, by kernel_rfl⟩
theorem law_nofree : ∀ y ∈ lawF.kinds, y.2 ≠ .free := fun y hy => by
  have h : lawF.kinds.all (fun y => y.2 != .free) = true := by kernel_rfl
  have := List.all_eq_true.mp h y hy
  simpa using this
section
variable {G : Gx} {K : Frag} {p : Program} {loose : List Str} {mean : ExcName → Option Value} {mg mb : Str → Option Value} {base : Heap}
theorem FCtx.weak {A : Around} {outer : List Env} {h₀ : Heap} {f : Fx} {d d' : Nat} (C : FCtx K p loose mean mg mb base d A outer h₀ f) (h : d' ≤ d) : FCtx K p loose mean mg mb base d' A outer h₀ f :=
  ⟨C.fr, C.st, C.ff, C.T, C.X, C.hk, C.hh, by have := C.room; lia, by have := C.hu; lia, C.hg⟩
theorem PhiL_46 (c : Nat) (args : List V) (μ : Mu) : PhiL c 46 args μ = onlyRet (toldDen (Phi c) args μ) := rfl
theorem PhiL_ne {c i : Nat} (h : i ≠ 46) : PhiL c i = Phi c i := by
  unfold PhiL
  split
  · exact absurd rfl h
  · rfl
theorem hypL {C N fI cda cc : Addr} {scope₀ : Scope} {qual₀ : Str} (KE : KExc G K C N fI cda cc scope₀ qual₀) (KG : KExcG K C) (R : Rest G K p loose mean mg mb base) (Y : KCls G K) (hF : ∀ i fd, G.Fd i fd → FnOk i fd ∨ LamOk i fd) {c : Nat} {A : Around} {outer : List Env} {f : Fx}
    (Cx : FCtx K p loose mean mg mb base (c + 2) A outer base f) (m : Str → Option Value) (s₀ : Shared) : Hyp G K base f.L m s₀ A (XNF G K base outer base f s₀) (PhiL (c + 1)) := by
  refine hyp_of Y Cx m s₀ fun {ow i a args vs μ led ce s r Q E} hi rs S h hr hQ hX => ?_
  by_cases h46 : i = 46
  · subst h46
    rw [PhiL_46] at h
    cases q : toldDen (Phi (c + 1)) args μ with
    | ret d μ₁ =>
      rw [q] at h
      subst h
      refine byC fun hg => ?_
      obtain ⟨o, fd, c1, oc, us, t, h1, h2, h3, h4, h5, h6, h7⟩ := hi
      refine hg ?_
      clear hg
      have hcd : s.heap.CodeRec fd.code fd.qualname := ⟨c1, oc, us, t, h4, S.get h5, h6, h7⟩
      rcases hF 46 fd h3 with q' | q'
      · exact told_call KE KG R Y hF Cx q' (S.get h1) h2 hcd S rs q fun v d' s' l' c' μ' S' x rv e => hQ v d' s' l' c' μ' S' x rv (by rw [e.1, e.2]; rfl)
      · obtain ⟨u9, u9, u9, u9, u9, u9, u9, u9, u9, u9, u9, u9, u9, u9, hb⟩ := q'
        rcases hb with ⟨z, _⟩ | ⟨z, _⟩ <;> cases z
    | exc n μ' => rw [q] at h; rw [← h] at hr; cases hr
    | next a b => rw [q] at h; rw [← h] at hr; cases hr
    | stuck => rw [q] at h; rw [← h] at hr; cases hr
  · rw [PhiL_ne h46] at h
    exact (hypF R Y hF (c + 1) (Cx.weak (by lia)) m s₀).calls hi rs S h hr hQ hX
set_option tactic.hygienic true in
theorem law_sound {C N fI cda cc : Addr} {scope₀ : Scope} {qual₀ : Str} (KE : KExc G K C N fI cda cc scope₀ qual₀) (KG : KExcG K C) (R : Rest G K p loose mean mg mb base) (Y : KCls G K) (hF : ∀ i fd, G.Fd i fd → FnOk i fd ∨ LamOk i fd) (hL : ∀ i fd, LamOk i fd → G.Fd i fd)
    {c : Nat} {A : Around} {outer : List Env} {f : Fx} (Cx : FCtx K p loose mean mg mb base (c + 2) A outer base f) {cd P : Addr} (CH : CodeHd base cd P) (hcd : f.ccd = .ref cd) (hnames : f.cs.names = lawF.kinds)
    {s₀ s : Shared} {m : Str → Option Value} {led : List (Addr × Obj)} {script : List Int} (S : Now G K base f.L m [P] s₀ led [] [] s) (hP : (P, tabObj #[]) ∈ led) (RR : RhoOk G K f m [P] led [] [(sScript, .val (.list (script.map .int)))] none)
    {μ₁ : Mu} (h : lawDen (c + 1) script = .ret (.bool true) μ₁) {Q : Flow → Shared → Prop} {E : Value → Shared → Prop} (hQ : ∀ s' m' led' ce' μ', Now G K base f.L m' [P] s₀ led' ce' μ' s' → (∀ q ∈ led, q.1 ≠ P → q ∈ led') → (∃ ps', (P, tabObj ps') ∈ led' ∧ TriplesOk ps'.toList) → Q (.ret (.bool true)) s') :
    wpAny (model G.prog G.w) A (execs lawF.body f.env) Q E s := by
  have FO : FrameOk G K base f s₀ A (XNF G K base outer base f s₀) (lawCx (c + 1) lawF.kinds) p loose mg mb :=
    ⟨fun m => hypL KE KG R Y hF Cx m s₀, Cx.hk, topRead_of Cx.T, Cx.X, R.gl, hnames.symm, by rw [hnames]; exact law_nofree, fun S ra rb hE => R.raiseX Cx S ra rb hE, fun x hE => x.loop Cx hE⟩
  unfold lawDen at h
  rw [law_is] at h
  dsimp only at h
  have SN : SNow G K base f s₀ [P] led [] [(sScript, .val (.list (script.map .int)))] [] m [P] led [] none s := ⟨S, RR, .refl, fun _ q => q, fun b h1 h2 => absurd h1 h2, fun y b l e => by cases e⟩
  have ret : ∀ {v : Value} {d : V} {s' : Shared} {m' : Str → Option Value} {led' : List (Addr × Obj)} {ce' : List Addr} {μ' : Mu}, Now G K base f.L m' [P] s₀ led' ce' μ' s' → (∀ q ∈ led, q.1 ≠ P → q ∈ led') → (∃ ps', (P, tabObj ps') ∈ led' ∧ TriplesOk ps'.toList) → VR G (In K [P] ce' led') ce' v d → Res.ret (.bool true) μ₁ = .ret d μ' → Q (.ret v) s' := fun {v d s' m' led' ce' μ'} T k t rv e => by
    cases e
    obtain ⟨_, rfl⟩ := rv.inv
    exact hQ _ _ _ _ _ T k t
  rw [law_body]
  refine execs_app (evS_sound FO fuelS h (fun e => nomatch e) SN (fun ρ' μ' m' ow' led' ce' ox' s' T e => ?_) (fun v d s' m' led' ce' μ' T x rv e => ret T (fun q hq _ => x.keep q hq (by simp)) ⟨_, x.keep _ hP (by simp), trivial⟩ rv e) (fun e n s' l c μ' _ _ q => by cases q))
  dsimp only
  unfold hooksDen at e
  split at e
  · rename_i x hof hv
    have T0 : Now G K base f.L m' [P] s₀ led' ce' μ' s' := T.S.weak T.sub
    have R0 : RhoOk G K f m' [P] led' ce' ρ' none := by
      refine ⟨fun y d q => ?_, fun y l q => absurd q (ownFree_is hof y l)⟩
      refine byC fun hg => ?_
      refine eEAA (T.R.val y d q) fun v r h1 h2 => ?_
      refine hg ?_
      clear hg
      exact iEAA v (r.mono (fun _ _ z => z.weak T.sub) (fun _ _ z => z)) h1 (fun hk => let ⟨c, o, a1, a2, a3, a4, a5⟩ := h2 hk; ⟨c, o, a1, a2, a3, a4, fun z => a5 (T.sub _ z)⟩)
    have SN0 : SNow G K base f s₀ [P] led' ce' ρ' μ' m' [P] led' ce' none s' := ⟨T0, R0, .refl, fun _ q => q, fun b h1 h2 => absurd h1 h2, fun y b l e => by cases e⟩
    have hP' : (P, tabObj #[]) ∈ led' := T.x.keep _ hP (by simp)
    have n1 : nameV (lawCx (c + 1) lawF.kinds) ρ' hEH = some (.cls 7) := by
      unfold nameV
      rw [show seq hEH (Str.ofString "__debug__") = false by decide +kernel]
      rw [show (lawCx (c + 1) lawF.kinds).kinds = lawF.kinds from rfl, look_lookup, law_names.2.2.1]
      show gl hEH = _
      kernel_rfl!
    have n3 : nameV (lawCx (c + 1) lawF.kinds) ρ' hLF = some (.fn 63) := by
      unfold nameV
      rw [show seq hLF (Str.ofString "__debug__") = false by decide +kernel]
      rw [show (lawCx (c + 1) lawF.kinds).kinds = lawF.kinds from rfl, look_lookup, law_names.2.2.2]
      show gl hLF = _
      kernel_rfl!
    have n2 : nameV (lawCx (c + 1) lawF.kinds) ρ' hVal = some x := by
      unfold nameV
      rw [show seq hVal (Str.ofString "__debug__") = false by decide +kernel]
      rw [show (lawCx (c + 1) lawF.kinds).kinds = lawF.kinds from rfl, look_lookup, law_names.2.1]
      dsimp only
      rw [hv]
    have LO : LamsOk G f lq lamB1 lamB2 (lawSc 1) (lawSc 2) := by
      refine byC fun hg => ?_
      refine eAAA (law_sc1) fun a1 a2 a3 a4 => ?_
      try clear law_sc1
      refine eAAA (law_sc2) fun b1 b2 b3 b4 => ?_
      try clear law_sc2
      refine hg ?_
      clear hg
      refine ⟨?_, ?_, fun qual pm c' ctv => hL _ _ ⟨_, qual, _, _, _, pm, c', ctv, rfl, a1, a2, a3, ?_, ?_, .inl ⟨rfl, ?_, _, _, _, rfl⟩⟩, fun qual pm c' ctv => hL _ _ ⟨_, qual, _, _, _, pm, c', ctv, rfl, b1, b2, b3, ?_, ?_, .inr ⟨rfl, _, _, rfl⟩⟩, fun c' => rfl⟩
      · unfold closureFor; rw [a4]; rfl
      · unfold closureFor; rw [b4]; rfl
      · rw [a4]; decide
      · rw [a4]; rfl
      · rw [a4]; rfl
      · rw [b4]; decide
      · rw [b4]; rfl
    refine wpAny_execs_cons (wpAny_Assign_Name (hooks_eval (hypL KE KG R Y hF Cx m' s₀) LO (SN0.hn FO) T0 hP' (.head _) Cx.T CH hcd n1 n2 n3 fun v s1 led1 ce1 S1 i1 g1 k1 t1 rv => ?_) (assign_none _ _ _ _ trivial))
    have R1 : RhoOk G K f m' [P] led1 ce1 ρ' none := by
      refine ⟨fun y d q => ?_, fun y l q => absurd q (ownFree_is hof y l)⟩
      refine byC fun hg => ?_
      refine eEAA (R0.val y d q) fun v r h1 h2 => ?_
      refine hg ?_
      clear hg
      exact iEAA v (r.mono i1 g1) h1 (fun hk => let ⟨c, o, a1, a2, a3, a4, a5⟩ := h2 hk; ⟨c, o, a1, (k1 _ a2 (fun z => a5 (by rw [show c = P from z]; exact .head _)) a3).1, (k1 _ a2 (fun z => a5 (by rw [show c = P from z]; exact .head _)) a3).2, a4, a5⟩)
    have SN1 : SNow G K base f s₀ [P] led1 ce1 ρ' (μ' ++ [[]]) m' [P] led1 ce1 none s1 := ⟨S1, R1, .refl, fun _ q => q, fun b h1 h2 => absurd h1 h2, fun y b l e => by cases e⟩
    refine store_sound FO SN1 (by rw [hnames]; exact law_names.1) rv fun m2 s2 SN2 => ?_
    exact evS_sound FO fuelS e (fun e => nomatch e) SN2 (fun ρ' μ' m' ow' led' ce' ox' s' T e => by cases e) (fun v d s' m' led' ce' μ' T3 x rv e => ret T3 (fun q hq hne => by
      obtain ⟨a1, a2⟩ := k1 q (T.x.keep q hq (by simp)) hne (T.x.off hq (by simp))
      exact x.keep q a1 a2) (by
      refine byC fun hg => ?_
      refine eEAA (t1) fun ps' a1 a2 a3 => ?_
      try clear t1
      refine hg ?_
      clear hg
      exact ⟨ps', x.keep _ a1 a3, a2⟩) rv e) (fun e n s' l c μ' _ _ q => by cases q)
  · cases e
end
end Mine

end

section
namespace Mine
open PySem PySem.W PySem.Calls PyProof.Rows
noncomputable def kcA : Nat → Addr
  | 0 => 34 | 1 => 47 | 2 => 68 | 3 => 89 | 4 => 110 | 5 => 131 | 6 => 152 | 7 => 377 | _ => 47
noncomputable def kG (w : World) : Gx := ⟨PySem.Challenge.rw_nz0410_01.row.prog, w, kcA, fun i fd => FnOk i fd ∨ LamOk i fd⟩
noncomputable def isFun : ScopeKind → Bool
  | .function => true
  | _ => false
theorem isFun_is : ∀ {k : ScopeKind}, isFun k = true → k = .function
  | .function, _ => rfl
noncomputable def fnOkB (ps : List Str) (sc : Scope) : Bool := nodupS ps && isFun sc.kind && !sc.isCoroutine && !sc.isGenerator && sc.names.all (fun y => y.2 != .free) &&
  ps.all (fun x => sc.names.lookup x == some .local || sc.names.lookup x == some .cell) && nodupS ((cellsFrom 0 sc.names []).map (·.1))
noncomputable abbrev pArgs (i : Nat) : List Arg := (partsOf i).1.args
noncomputable def FnFacts (i : Nat) : Prop := (partsOf i).1 = ⟨[], pArgs i, none, [], [], none, []⟩ ∧ fnInfo i = some ⟨(pArgs i).map (·.arg), (partsOf i).2.1, (partsOf i).2.2.names⟩ ∧ fnOkB ((pArgs i).map (·.arg)) (partsOf i).2.2 = true
theorem fnOk_of {i : Nat} (h : FnFacts i) (name qual : String) (pm : Value) (c : Addr) : FnOk i (kfd name qual i [] .none pm c .none) := by
  obtain ⟨h1, h2, h3⟩ := h
  unfold fnOkB at h3
  simp only [Bool.and_eq_true, Bool.not_eq_true', List.all_eq_true, Bool.or_eq_true, beq_iff_eq] at h3
  obtain ⟨⟨⟨⟨⟨⟨a1, a2⟩, a3⟩, a4⟩, a5⟩, a6⟩, a7⟩ := h3
  refine ⟨_, _, pArgs i, _, _, _, _, _, _, _, _, _, congrArg (fun p => fnX (Str.ofString name) (Str.ofString qual) p (partsOf i).2.1 (partsOf i).2.2 [] .none .none .none pm none (.ref c) .none) h1, rfl, h2, nodupS_iff a1, isFun_is a2, a3, a4, fun y hy => by simpa using a5 y hy, fun x hx => a6 x hx, nodupS_iff a7⟩
theorem ifun_of {w : World} {K : Frag} {i a c : Nat} {name qual : String} {pm : Value} {vs : Array Value} {t : Tok} (f : FnFacts i) (h1 : K.lookup a = some (kf name qual i [] .none pm c .none)) (h2 : K.lookup c = some { cls := .type "code", data := .fields vs }) (h3 : vs[1]? = some (.str (Str.ofString qual) t)) :
    IFun (kG w) (fun a o => K.lookup a = some o) a i := ⟨_, _, c, _, vs, t, h1, rfl, .inl (fnOk_of f name qual pm c), rfl, h2, rfl, h3⟩
theorem ff8 : FnFacts 8 := ⟨by kernel_rfl, by kernel_rfl, by kernel_rfl⟩
theorem ff9 : FnFacts 9 := ⟨by kernel_rfl, by kernel_rfl, by kernel_rfl⟩
theorem ff10 : FnFacts 10 := ⟨by kernel_rfl, by kernel_rfl, by kernel_rfl⟩
theorem ff11 : FnFacts 11 := ⟨by kernel_rfl, by kernel_rfl, by kernel_rfl⟩
theorem ff12 : FnFacts 12 := ⟨by kernel_rfl, by kernel_rfl, by kernel_rfl⟩
theorem ff13 : FnFacts 13 := ⟨by kernel_rfl, by kernel_rfl, by kernel_rfl⟩
theorem ff14 : FnFacts 14 := ⟨by kernel_rfl, by kernel_rfl, by kernel_rfl⟩
theorem ff15 : FnFacts 15 := ⟨by kernel_rfl, by kernel_rfl, by kernel_rfl⟩
theorem ff16 : FnFacts 16 := ⟨by kernel_rfl, by kernel_rfl, by kernel_rfl⟩
theorem ff17 : FnFacts 17 := ⟨by kernel_rfl, by kernel_rfl, by kernel_rfl⟩
theorem ff18 : FnFacts 18 := ⟨by kernel_rfl, by kernel_rfl, by kernel_rfl⟩
theorem ff21 : FnFacts 21 := ⟨by kernel_rfl, by kernel_rfl, by kernel_rfl⟩
theorem ff22 : FnFacts 22 := ⟨by kernel_rfl, by kernel_rfl, by kernel_rfl⟩
theorem ff23 : FnFacts 23 := ⟨by kernel_rfl, by kernel_rfl, by kernel_rfl⟩
theorem ff24 : FnFacts 24 := ⟨by kernel_rfl, by kernel_rfl, by kernel_rfl⟩
theorem ff25 : FnFacts 25 := ⟨by kernel_rfl, by kernel_rfl, by kernel_rfl⟩
theorem ff26 : FnFacts 26 := ⟨by kernel_rfl, by kernel_rfl, by kernel_rfl⟩
theorem ff27 : FnFacts 27 := ⟨by kernel_rfl, by kernel_rfl, by kernel_rfl⟩
theorem ff29 : FnFacts 29 := ⟨by kernel_rfl, by kernel_rfl, by kernel_rfl⟩
theorem ff31 : FnFacts 31 := ⟨by kernel_rfl, by kernel_rfl, by kernel_rfl⟩
theorem ff32 : FnFacts 32 := ⟨by kernel_rfl, by kernel_rfl, by kernel_rfl⟩
theorem ff33 : FnFacts 33 := ⟨by kernel_rfl, by kernel_rfl, by kernel_rfl⟩
theorem ff34 : FnFacts 34 := ⟨by kernel_rfl, by kernel_rfl, by kernel_rfl⟩
theorem ff35 : FnFacts 35 := ⟨by kernel_rfl, by kernel_rfl, by kernel_rfl⟩
theorem ff36 : FnFacts 36 := ⟨by kernel_rfl, by kernel_rfl, by kernel_rfl⟩
theorem ff37 : FnFacts 37 := ⟨by kernel_rfl, by kernel_rfl, by kernel_rfl⟩
theorem ff38 : FnFacts 38 := ⟨by kernel_rfl, by kernel_rfl, by kernel_rfl⟩
theorem ff41 : FnFacts 41 := ⟨by kernel_rfl, by kernel_rfl, by kernel_rfl⟩
theorem ff42 : FnFacts 42 := ⟨by kernel_rfl, by kernel_rfl, by kernel_rfl⟩
theorem ff43 : FnFacts 43 := ⟨by kernel_rfl, by kernel_rfl, by kernel_rfl⟩
theorem ff44 : FnFacts 44 := ⟨by kernel_rfl, by kernel_rfl, by kernel_rfl⟩
theorem ff45 : FnFacts 45 := ⟨by kernel_rfl, by kernel_rfl, by kernel_rfl⟩
theorem ff46 : FnFacts 46 := ⟨by kernel_rfl, by kernel_rfl, by kernel_rfl⟩
theorem ff47 : FnFacts 47 := ⟨by kernel_rfl, by kernel_rfl, by kernel_rfl⟩
theorem ff49 : FnFacts 49 := ⟨by kernel_rfl, by kernel_rfl, by kernel_rfl⟩
theorem ff50 : FnFacts 50 := ⟨by kernel_rfl, by kernel_rfl, by kernel_rfl⟩
theorem ff51 : FnFacts 51 := ⟨by kernel_rfl, by kernel_rfl, by kernel_rfl⟩
theorem ff52 : FnFacts 52 := ⟨by kernel_rfl, by kernel_rfl, by kernel_rfl⟩
theorem ff53 : FnFacts 53 := ⟨by kernel_rfl, by kernel_rfl, by kernel_rfl⟩
theorem ff54 : FnFacts 54 := ⟨by kernel_rfl, by kernel_rfl, by kernel_rfl⟩
theorem ff55 : FnFacts 55 := ⟨by kernel_rfl, by kernel_rfl, by kernel_rfl⟩
theorem ff56 : FnFacts 56 := ⟨by kernel_rfl, by kernel_rfl, by kernel_rfl⟩
theorem ff57 : FnFacts 57 := ⟨by kernel_rfl, by kernel_rfl, by kernel_rfl⟩
theorem ff58 : FnFacts 58 := ⟨by kernel_rfl, by kernel_rfl, by kernel_rfl⟩
theorem ff59 : FnFacts 59 := ⟨by kernel_rfl, by kernel_rfl, by kernel_rfl⟩
theorem ff60 : FnFacts 60 := ⟨by kernel_rfl, by kernel_rfl, by kernel_rfl⟩
theorem ff61 : FnFacts 61 := ⟨by kernel_rfl, by kernel_rfl, by kernel_rfl⟩
theorem ff62 : FnFacts 62 := ⟨by kernel_rfl, by kernel_rfl, by kernel_rfl⟩
theorem ff63 : FnFacts 63 := ⟨by kernel_rfl, by kernel_rfl, by kernel_rfl⟩
theorem ff64 : FnFacts 64 := ⟨by kernel_rfl, by kernel_rfl, by kernel_rfl⟩
theorem ff101 : FnFacts 101 := ⟨by kernel_rfl, by kernel_rfl, by kernel_rfl⟩
theorem ff102 : FnFacts 102 := ⟨by kernel_rfl, by kernel_rfl, by kernel_rfl⟩
section
variable (w : World) (P : Params)
theorem if8 : IFun (kG w) (fun a o => (kK P).lookup a = some o) 163 8 := ifun_of (c := 162) (name := "is_fail") (qual := "is_fail") (pm := ks "snobol.values" 187) (t := 396) ff8 (by kernel_rfl) (show (kK P).lookup 162 = some ko162 by kernel_rfl) rfl
theorem if9 : IFun (kG w) (fun a o => (kK P).lookup a = some o) 170 9 := ifun_of (c := 169) (name := "kind_of") (qual := "kind_of") (pm := ks "snobol.values" 187) (t := 403) ff9 (by kernel_rfl) (show (kK P).lookup 169 = some ko169 by kernel_rfl) rfl
theorem if10 : IFun (kG w) (fun a o => (kK P).lookup a = some o) 177 10 := ifun_of (c := 176) (name := "is_null") (qual := "is_null") (pm := ks "snobol.values" 187) (t := 410) ff10 (by kernel_rfl) (show (kK P).lookup 176 = some ko176 by kernel_rfl) rfl
theorem if11 : IFun (kG w) (fun a o => (kK P).lookup a = some o) 184 11 := ifun_of (c := 183) (name := "is_plain") (qual := "is_plain") (pm := ks "snobol.values" 187) (t := 417) ff11 (by kernel_rfl) (show (kK P).lookup 183 = some ko183 by kernel_rfl) rfl
theorem if12 : IFun (kG w) (fun a o => (kK P).lookup a = some o) 191 12 := ifun_of (c := 190) (name := "fits") (qual := "fits") (pm := ks "snobol.values" 187) (t := 424) ff12 (by kernel_rfl) (show (kK P).lookup 190 = some ko190 by kernel_rfl) rfl
theorem if13 : IFun (kG w) (fun a o => (kK P).lookup a = some o) 198 13 := ifun_of (c := 197) (name := "whole_of_text") (qual := "whole_of_text") (pm := ks "snobol.values" 187) (t := 432) ff13 (by kernel_rfl) (show (kK P).lookup 197 = some ko197 by kernel_rfl) rfl
theorem if14 : IFun (kG w) (fun a o => (kK P).lookup a = some o) 205 14 := ifun_of (c := 204) (name := "text_of_whole") (qual := "text_of_whole") (pm := ks "snobol.values" 187) (t := 443) ff14 (by kernel_rfl) (show (kK P).lookup 204 = some ko204 by kernel_rfl) rfl
theorem if15 : IFun (kG w) (fun a o => (kK P).lookup a = some o) 212 15 := ifun_of (c := 211) (name := "to_whole") (qual := "to_whole") (pm := ks "snobol.values" 187) (t := 452) ff15 (by kernel_rfl) (show (kK P).lookup 211 = some ko211 by kernel_rfl) rfl
theorem if16 : IFun (kG w) (fun a o => (kK P).lookup a = some o) 219 16 := ifun_of (c := 218) (name := "to_text") (qual := "to_text") (pm := ks "snobol.values" 187) (t := 460) ff16 (by kernel_rfl) (show (kK P).lookup 218 = some ko218 by kernel_rfl) rfl
theorem if17 : IFun (kG w) (fun a o => (kK P).lookup a = some o) 226 17 := ifun_of (c := 225) (name := "need_whole") (qual := "need_whole") (pm := ks "snobol.values" 187) (t := 467) ff17 (by kernel_rfl) (show (kK P).lookup 225 = some ko225 by kernel_rfl) rfl
theorem if18 : IFun (kG w) (fun a o => (kK P).lookup a = some o) 233 18 := ifun_of (c := 232) (name := "checked_whole") (qual := "checked_whole") (pm := ks "snobol.values" 187) (t := 476) ff18 (by kernel_rfl) (show (kK P).lookup 232 = some ko232 by kernel_rfl) rfl
theorem if21 : IFun (kG w) (fun a o => (kK P).lookup a = some o) 241 21 := ifun_of (c := 240) (name := "is_null_node") (qual := "is_null_node") (pm := ks "snobol.nodes" 483) (t := 489) ff21 (by kernel_rfl) (show (kK P).lookup 240 = some ko240 by kernel_rfl) rfl
theorem if22 : IFun (kG w) (fun a o => (kK P).lookup a = some o) 248 22 := ifun_of (c := 247) (name := "later_node") (qual := "later_node") (pm := ks "snobol.nodes" 483) (t := 496) ff22 (by kernel_rfl) (show (kK P).lookup 247 = some ko247 by kernel_rfl) rfl
theorem if23 : IFun (kG w) (fun a o => (kK P).lookup a = some o) 255 23 := ifun_of (c := 254) (name := "now_node") (qual := "now_node") (pm := ks "snobol.nodes" 483) (t := 504) ff23 (by kernel_rfl) (show (kK P).lookup 254 = some ko254 by kernel_rfl) rfl
theorem if24 : IFun (kG w) (fun a o => (kK P).lookup a = some o) 262 24 := ifun_of (c := 261) (name := "cursor_node") (qual := "cursor_node") (pm := ks "snobol.nodes" 483) (t := 512) ff24 (by kernel_rfl) (show (kK P).lookup 261 = some ko261 by kernel_rfl) rfl
theorem if25 : IFun (kG w) (fun a o => (kK P).lookup a = some o) 269 25 := ifun_of (c := 268) (name := "joined") (qual := "joined") (pm := ks "snobol.nodes" 483) (t := 519) ff25 (by kernel_rfl) (show (kK P).lookup 268 = some ko268 by kernel_rfl) rfl
theorem if26 : IFun (kG w) (fun a o => (kK P).lookup a = some o) 276 26 := ifun_of (c := 275) (name := "either") (qual := "either") (pm := ks "snobol.nodes" 483) (t := 527) ff26 (by kernel_rfl) (show (kK P).lookup 275 = some ko275 by kernel_rfl) rfl
theorem if27 : IFun (kG w) (fun a o => (kK P).lookup a = some o) 283 27 := ifun_of (c := 282) (name := "pattern_of") (qual := "pattern_of") (pm := ks "snobol.nodes" 483) (t := 535) ff27 (by kernel_rfl) (show (kK P).lookup 282 = some ko282 by kernel_rfl) rfl
theorem if29 : IFun (kG w) (fun a o => (kK P).lookup a = some o) 290 29 := ifun_of (c := 289) (name := "check_length") (qual := "check_length") (pm := ks "snobol.world" 542) (t := 545) ff29 (by kernel_rfl) (show (kK P).lookup 289 = some ko289 by kernel_rfl) rfl
theorem if31 : IFun (kG w) (fun a o => (kK P).lookup a = some o) 297 31 := ifun_of (c := 296) (name := "divided") (qual := "divided") (pm := ks "snobol.operators" 552) (t := 555) ff31 (by kernel_rfl) (show (kK P).lookup 296 = some ko296 by kernel_rfl) rfl
theorem if32 : IFun (kG w) (fun a o => (kK P).lookup a = some o) 304 32 := ifun_of (c := 303) (name := "raised_to") (qual := "raised_to") (pm := ks "snobol.operators" 552) (t := 564) ff32 (by kernel_rfl) (show (kK P).lookup 303 = some ko303 by kernel_rfl) rfl
theorem if33 : IFun (kG w) (fun a o => (kK P).lookup a = some o) 311 33 := ifun_of (c := 310) (name := "reckoned") (qual := "reckoned") (pm := ks "snobol.operators" 552) (t := 575) ff33 (by kernel_rfl) (show (kK P).lookup 310 = some ko310 by kernel_rfl) rfl
theorem if34 : IFun (kG w) (fun a o => (kK P).lookup a = some o) 318 34 := ifun_of (c := 317) (name := "is_part") (qual := "is_part") (pm := ks "snobol.operators" 552) (t := 585) ff34 (by kernel_rfl) (show (kK P).lookup 317 = some ko317 by kernel_rfl) rfl
theorem if35 : IFun (kG w) (fun a o => (kK P).lookup a = some o) 325 35 := ifun_of (c := 324) (name := "join_values") (qual := "join_values") (pm := ks "snobol.operators" 552) (t := 592) ff35 (by kernel_rfl) (show (kK P).lookup 324 = some ko324 by kernel_rfl) rfl
theorem if36 : IFun (kG w) (fun a o => (kK P).lookup a = some o) 332 36 := ifun_of (c := 331) (name := "either_value") (qual := "either_value") (pm := ks "snobol.operators" 552) (t := 601) ff36 (by kernel_rfl) (show (kK P).lookup 331 = some ko331 by kernel_rfl) rfl
theorem if37 : IFun (kG w) (fun a o => (kK P).lookup a = some o) 339 37 := ifun_of (c := 338) (name := "binary_value") (qual := "binary_value") (pm := ks "snobol.operators" 552) (t := 609) ff37 (by kernel_rfl) (show (kK P).lookup 338 = some ko338 by kernel_rfl) rfl
theorem if38 : IFun (kG w) (fun a o => (kK P).lookup a = some o) 346 38 := ifun_of (c := 345) (name := "unary_value") (qual := "unary_value") (pm := ks "snobol.operators" 552) (t := 620) ff38 (by kernel_rfl) (show (kK P).lookup 345 = some ko345 by kernel_rfl) rfl
theorem if41 : IFun (kG w) (fun a o => (kK P).lookup a = some o) 388 41 := ifun_of (c := 387) (name := "worth") (qual := "worth") (pm := ks "snobol.plainexpr" 629) (t := 686) ff41 (by kernel_rfl) (show (kK P).lookup 387 = some ko387 by kernel_rfl) rfl
theorem if42 : IFun (kG w) (fun a o => (kK P).lookup a = some o) 395 42 := ifun_of (c := 394) (name := "worths") (qual := "worths") (pm := ks "snobol.plainexpr" 629) (t := 696) ff42 (by kernel_rfl) (show (kK P).lookup 394 = some ko394 by kernel_rfl) rfl
theorem if43 : IFun (kG w) (fun a o => (kK P).lookup a = some o) 402 43 := ifun_of (c := 401) (name := "name_in") (qual := "name_in") (pm := ks "snobol.plainexpr" 629) (t := 707) ff43 (by kernel_rfl) (show (kK P).lookup 401 = some ko401 by kernel_rfl) rfl
theorem if44 : IFun (kG w) (fun a o => (kK P).lookup a = some o) 409 44 := ifun_of (c := 408) (name := "worth_of_one") (qual := "worth_of_one") (pm := ks "snobol.plainexpr" 629) (t := 717) ff44 (by kernel_rfl) (show (kK P).lookup 408 = some ko408 by kernel_rfl) rfl
theorem if45 : IFun (kG w) (fun a o => (kK P).lookup a = some o) 416 45 := ifun_of (c := 415) (name := "worth_of_two") (qual := "worth_of_two") (pm := ks "snobol.plainexpr" 629) (t := 728) ff45 (by kernel_rfl) (show (kK P).lookup 415 = some ko415 by kernel_rfl) rfl
theorem if46 : IFun (kG w) (fun a o => (kK P).lookup a = some o) 423 46 := ifun_of (c := 422) (name := "worth_told") (qual := "worth_told") (pm := ks "snobol.plainexpr" 629) (t := 743) ff46 (by kernel_rfl) (show (kK P).lookup 422 = some ko422 by kernel_rfl) rfl
theorem if47 : IFun (kG w) (fun a o => (kK P).lookup a = some o) 430 47 := ifun_of (c := 429) (name := "names_asked") (qual := "names_asked") (pm := ks "snobol.plainexpr" 629) (t := 753) ff47 (by kernel_rfl) (show (kK P).lookup 429 = some ko429 by kernel_rfl) rfl
theorem if49 : IFun (kG w) (fun a o => (kK P).lookup a = some o) 437 49 := ifun_of (c := 436) (name := "_law_leaves") (qual := "_law_leaves") (pm := ks "law_nz0410_01" 761) (t := 764) ff49 (by kernel_rfl) (show (kK P).lookup 436 = some ko436 by kernel_rfl) rfl
theorem if50 : IFun (kG w) (fun a o => (kK P).lookup a = some o) 442 50 := ifun_of (c := 441) (name := "_law_tree") (qual := "_law_tree") (pm := ks "law_nz0410_01" 761) (t := 770) ff50 (by kernel_rfl) (show (kK P).lookup 441 = some ko441 by kernel_rfl) rfl
theorem if51 : IFun (kG w) (fun a o => (kK P).lookup a = some o) 449 51 := ifun_of (c := 448) (name := "_law_whole") (qual := "_law_whole") (pm := ks "law_nz0410_01" 761) (t := 776) ff51 (by kernel_rfl) (show (kK P).lookup 448 = some ko448 by kernel_rfl) rfl
theorem if52 : IFun (kG w) (fun a o => (kK P).lookup a = some o) 456 52 := ifun_of (c := 455) (name := "_law_shown") (qual := "_law_shown") (pm := ks "law_nz0410_01" 761) (t := 786) ff52 (by kernel_rfl) (show (kK P).lookup 455 = some ko455 by kernel_rfl) rfl
theorem if53 : IFun (kG w) (fun a o => (kK P).lookup a = some o) 463 53 := ifun_of (c := 462) (name := "_law_node") (qual := "_law_node") (pm := ks "law_nz0410_01" 761) (t := 793) ff53 (by kernel_rfl) (show (kK P).lookup 462 = some ko462 by kernel_rfl) rfl
theorem if54 : IFun (kG w) (fun a o => (kK P).lookup a = some o) 470 54 := ifun_of (c := 469) (name := "_law_reckoned") (qual := "_law_reckoned") (pm := ks "law_nz0410_01" 761) (t := 800) ff54 (by kernel_rfl) (show (kK P).lookup 469 = some ko469 by kernel_rfl) rfl
theorem if55 : IFun (kG w) (fun a o => (kK P).lookup a = some o) 477 55 := ifun_of (c := 476) (name := "_law_joined") (qual := "_law_joined") (pm := ks "law_nz0410_01" 761) (t := 810) ff55 (by kernel_rfl) (show (kK P).lookup 476 = some ko476 by kernel_rfl) rfl
theorem if56 : IFun (kG w) (fun a o => (kK P).lookup a = some o) 484 56 := ifun_of (c := 483) (name := "_law_two") (qual := "_law_two") (pm := ks "law_nz0410_01" 761) (t := 821) ff56 (by kernel_rfl) (show (kK P).lookup 483 = some ko483 by kernel_rfl) rfl
theorem if57 : IFun (kG w) (fun a o => (kK P).lookup a = some o) 491 57 := ifun_of (c := 490) (name := "_law_name") (qual := "_law_name") (pm := ks "law_nz0410_01" 761) (t := 832) ff57 (by kernel_rfl) (show (kK P).lookup 490 = some ko490 by kernel_rfl) rfl
theorem if58 : IFun (kG w) (fun a o => (kK P).lookup a = some o) 498 58 := ifun_of (c := 497) (name := "_law_one") (qual := "_law_one") (pm := ks "law_nz0410_01" 761) (t := 842) ff58 (by kernel_rfl) (show (kK P).lookup 497 = some ko497 by kernel_rfl) rfl
theorem if59 : IFun (kG w) (fun a o => (kK P).lookup a = some o) 505 59 := ifun_of (c := 504) (name := "_law_called") (qual := "_law_called") (pm := ks "law_nz0410_01" 761) (t := 854) ff59 (by kernel_rfl) (show (kK P).lookup 504 = some ko504 by kernel_rfl) rfl
theorem if60 : IFun (kG w) (fun a o => (kK P).lookup a = some o) 512 60 := ifun_of (c := 511) (name := "_law_worth") (qual := "_law_worth") (pm := ks "law_nz0410_01" 761) (t := 863) ff60 (by kernel_rfl) (show (kK P).lookup 511 = some ko511 by kernel_rfl) rfl
theorem if61 : IFun (kG w) (fun a o => (kK P).lookup a = some o) 517 61 := ifun_of (c := 516) (name := "_law_plain_node") (qual := "_law_plain_node") (pm := ks "law_nz0410_01" 761) (t := 880) ff61 (by kernel_rfl) (show (kK P).lookup 516 = some ko516 by kernel_rfl) rfl
theorem if62 : IFun (kG w) (fun a o => (kK P).lookup a = some o) 524 62 := ifun_of (c := 523) (name := "_law_plain") (qual := "_law_plain") (pm := ks "law_nz0410_01" 761) (t := 886) ff62 (by kernel_rfl) (show (kK P).lookup 523 = some ko523 by kernel_rfl) rfl
theorem if63 : IFun (kG w) (fun a o => (kK P).lookup a = some o) 531 63 := ifun_of (c := 530) (name := "_law_fails") (qual := "_law_fails") (pm := ks "law_nz0410_01" 761) (t := 893) ff63 (by kernel_rfl) (show (kK P).lookup 530 = some ko530 by kernel_rfl) rfl
theorem if64 : IFun (kG w) (fun a o => (kK P).lookup a = some o) 536 64 := ifun_of (c := 535) (name := "law") (qual := "law") (pm := ks "law_nz0410_01" 761) (t := 900) ff64 (by kernel_rfl) (show (kK P).lookup 535 = some ko535 by kernel_rfl) rfl
theorem if101 : IFun (kG w) (fun a o => (kK P).lookup a = some o) 367 101 := ifun_of (c := 366) (name := "get") (qual := "ExprHooks.get") (pm := ks "snobol.plainexpr" 629) (t := 655) ff101 (by kernel_rfl) (show (kK P).lookup 366 = some ko366 by kernel_rfl) rfl
theorem if102 : IFun (kG w) (fun a o => (kK P).lookup a = some o) 374 102 := ifun_of (c := 373) (name := "call") (qual := "ExprHooks.call") (pm := ks "snobol.plainexpr" 629) (t := 663) ff102 (by kernel_rfl) (show (kK P).lookup 373 = some ko373 by kernel_rfl) rfl
set_option tactic.hygienic true in
theorem look_all {α : Type} {R : Str → α → Prop} : ∀ {l : List (Str × α)}, (∀ p ∈ l, R p.1 p.2) → ∀ {x d}, look x l = some d → R x d
  | [], _, _, _, e => by cases e
  | p :: r, h, x, d, e => by
    unfold look at e
    split at e
    · rename_i hx
      cases e
      rw [seq_iff.mp hx]
      exact h p (.head _)
    · exact look_all (fun q hq => h q (.tail _ hq)) e
theorem all_cons {α : Type} {R : Str → α → Prop} {x : Str} {d : α} {l : List (Str × α)} (h : R x d) (t : ∀ p ∈ l, R p.1 p.2) : ∀ p ∈ (x, d) :: l, R p.1 p.2 := fun p hp => by
  rcases List.mem_cons.mp hp with rfl | hp
  · exact h
  · exact t p hp
noncomputable abbrev GlobR (x : Str) (d : V) : Prop := (∃ v, nsIn (kK P) mainGlobals x = some (some v) ∧ VR (kG w) (fun a o => (kK P).lookup a = some o) [] v d) ∨
    (∃ v, nsIn (kK P) mainGlobals x = some none ∧ bootBuiltins x = some v ∧ x ≠ "__name__" ∧ VR (kG w) (fun a o => (kK P).lookup a = some o) [] v d)
theorem gl_fn {x : Str} {a i : Nat} (h : nsIn (kK P) mainGlobals x = some (some (.ref a))) (f : IFun (kG w) (fun a o => (kK P).lookup a = some o) a i) : GlobR w P x (.fn i) := .inl ⟨_, h, .fn f⟩
theorem gl_cls {x : Str} {c : Nat} (h : nsIn (kK P) mainGlobals x = some (some (.ref (kcA c)))) : GlobR w P x (.cls c) := .inl ⟨_, h, .cls (G := kG w)⟩
theorem gl_typ {x : Str} {n : String} (h : nsIn (kK P) mainGlobals x = some none) (b : bootBuiltins x = some (.type n)) (e : x ≠ "__name__") : GlobR w P x (.typ n) := .inr ⟨_, h, b, e, .typ⟩
theorem gl_blt {x : Str} {n : String} (h : nsIn (kK P) mainGlobals x = some none) (b : bootBuiltins x = some (.builtin n)) (e : x ≠ "__name__") : GlobR w P x (.blt n) := .inr ⟨_, h, b, e, .blt⟩
theorem gl_null : GlobR w P (Str.ofString "NULL_NODE") (.tup [.str "chars", .str ""]) := .inl ⟨.ref 234, by kernel_rfl, .tup (vs := [ks "chars" 485, ks "" 486]) ⟨ko234, 0, by kernel_rfl, rfl, rfl⟩ (.cons .str (.cons .str .nil))⟩
theorem gx0 : GlobR w P (Str.ofString "isinstance") (.blt "isinstance") := gl_blt w P (by kernel_rfl) (by kernel_rfl) (by decide +kernel)
theorem gx1 : GlobR w P (Str.ofString "len") (.blt "len") := gl_blt w P (by kernel_rfl) (by kernel_rfl) (by decide +kernel)
theorem gx2 : GlobR w P (Str.ofString "abs") (.blt "abs") := gl_blt w P (by kernel_rfl) (by kernel_rfl) (by decide +kernel)
theorem gx3 : GlobR w P (Str.ofString "ord") (.blt "ord") := gl_blt w P (by kernel_rfl) (by kernel_rfl) (by decide +kernel)
theorem gx4 : GlobR w P (Str.ofString "chr") (.blt "chr") := gl_blt w P (by kernel_rfl) (by kernel_rfl) (by decide +kernel)
theorem gx5 : GlobR w P (Str.ofString "repr") (.blt "repr") := gl_blt w P (by kernel_rfl) (by kernel_rfl) (by decide +kernel)
theorem gx6 : GlobR w P (Str.ofString "str") (.typ "str") := gl_typ w P (by kernel_rfl) (by kernel_rfl) (by decide +kernel)
theorem gx7 : GlobR w P (Str.ofString "int") (.typ "int") := gl_typ w P (by kernel_rfl) (by kernel_rfl) (by decide +kernel)
theorem gx8 : GlobR w P (Str.ofString "tuple") (.typ "tuple") := gl_typ w P (by kernel_rfl) (by kernel_rfl) (by decide +kernel)
theorem gx9 : GlobR w P (Str.ofString "list") (.typ "list") := gl_typ w P (by kernel_rfl) (by kernel_rfl) (by decide +kernel)
theorem gx10 : GlobR w P (Str.ofString "range") (.typ "range") := gl_typ w P (by kernel_rfl) (by kernel_rfl) (by decide +kernel)
theorem gx11 : GlobR w P (Str.ofString "enumerate") (.typ "enumerate") := gl_typ w P (by kernel_rfl) (by kernel_rfl) (by decide +kernel)
theorem gx12 : GlobR w P (Str.ofString "SnobolError") (.cls 0) := gl_cls w P (by kernel_rfl)
theorem gx13 : GlobR w P (Str.ofString "Failure") (.cls 1) := gl_cls w P (by kernel_rfl)
theorem gx14 : GlobR w P (Str.ofString "Pattern") (.cls 2) := gl_cls w P (by kernel_rfl)
theorem gx15 : GlobR w P (Str.ofString "Delayed") (.cls 3) := gl_cls w P (by kernel_rfl)
theorem gx16 : GlobR w P (Str.ofString "Code") (.cls 4) := gl_cls w P (by kernel_rfl)
theorem gx17 : GlobR w P (Str.ofString "NameRef") (.cls 5) := gl_cls w P (by kernel_rfl)
theorem gx18 : GlobR w P (Str.ofString "Holder") (.cls 6) := gl_cls w P (by kernel_rfl)
theorem gx19 : GlobR w P (Str.ofString "ExprHooks") (.cls 7) := gl_cls w P (by kernel_rfl)
theorem gx20 : GlobR w P (Str.ofString "NULL_NODE") (.tup [.str "chars", .str ""]) := gl_null w P
theorem gx21 : GlobR w P (Str.ofString "is_fail") (.fn 8) := gl_fn w P (by kernel_rfl) (if8 w P)
theorem gx22 : GlobR w P (Str.ofString "kind_of") (.fn 9) := gl_fn w P (by kernel_rfl) (if9 w P)
theorem gx23 : GlobR w P (Str.ofString "is_null") (.fn 10) := gl_fn w P (by kernel_rfl) (if10 w P)
theorem gx24 : GlobR w P (Str.ofString "is_plain") (.fn 11) := gl_fn w P (by kernel_rfl) (if11 w P)
theorem gx25 : GlobR w P (Str.ofString "fits") (.fn 12) := gl_fn w P (by kernel_rfl) (if12 w P)
theorem gx26 : GlobR w P (Str.ofString "whole_of_text") (.fn 13) := gl_fn w P (by kernel_rfl) (if13 w P)
theorem gx27 : GlobR w P (Str.ofString "text_of_whole") (.fn 14) := gl_fn w P (by kernel_rfl) (if14 w P)
theorem gx28 : GlobR w P (Str.ofString "to_whole") (.fn 15) := gl_fn w P (by kernel_rfl) (if15 w P)
theorem gx29 : GlobR w P (Str.ofString "to_text") (.fn 16) := gl_fn w P (by kernel_rfl) (if16 w P)
theorem gx30 : GlobR w P (Str.ofString "need_whole") (.fn 17) := gl_fn w P (by kernel_rfl) (if17 w P)
theorem gx31 : GlobR w P (Str.ofString "checked_whole") (.fn 18) := gl_fn w P (by kernel_rfl) (if18 w P)
theorem gx32 : GlobR w P (Str.ofString "is_null_node") (.fn 21) := gl_fn w P (by kernel_rfl) (if21 w P)
theorem gx33 : GlobR w P (Str.ofString "later_node") (.fn 22) := gl_fn w P (by kernel_rfl) (if22 w P)
theorem gx34 : GlobR w P (Str.ofString "now_node") (.fn 23) := gl_fn w P (by kernel_rfl) (if23 w P)
theorem gx35 : GlobR w P (Str.ofString "cursor_node") (.fn 24) := gl_fn w P (by kernel_rfl) (if24 w P)
theorem gx36 : GlobR w P (Str.ofString "joined") (.fn 25) := gl_fn w P (by kernel_rfl) (if25 w P)
theorem gx37 : GlobR w P (Str.ofString "either") (.fn 26) := gl_fn w P (by kernel_rfl) (if26 w P)
theorem gx38 : GlobR w P (Str.ofString "pattern_of") (.fn 27) := gl_fn w P (by kernel_rfl) (if27 w P)
theorem gx39 : GlobR w P (Str.ofString "check_length") (.fn 29) := gl_fn w P (by kernel_rfl) (if29 w P)
theorem gx40 : GlobR w P (Str.ofString "divided") (.fn 31) := gl_fn w P (by kernel_rfl) (if31 w P)
theorem gx41 : GlobR w P (Str.ofString "raised_to") (.fn 32) := gl_fn w P (by kernel_rfl) (if32 w P)
theorem gx42 : GlobR w P (Str.ofString "reckoned") (.fn 33) := gl_fn w P (by kernel_rfl) (if33 w P)
theorem gx43 : GlobR w P (Str.ofString "is_part") (.fn 34) := gl_fn w P (by kernel_rfl) (if34 w P)
theorem gx44 : GlobR w P (Str.ofString "join_values") (.fn 35) := gl_fn w P (by kernel_rfl) (if35 w P)
theorem gx45 : GlobR w P (Str.ofString "either_value") (.fn 36) := gl_fn w P (by kernel_rfl) (if36 w P)
theorem gx46 : GlobR w P (Str.ofString "binary_value") (.fn 37) := gl_fn w P (by kernel_rfl) (if37 w P)
theorem gx47 : GlobR w P (Str.ofString "unary_value") (.fn 38) := gl_fn w P (by kernel_rfl) (if38 w P)
theorem gx48 : GlobR w P (Str.ofString "worth") (.fn 41) := gl_fn w P (by kernel_rfl) (if41 w P)
theorem gx49 : GlobR w P (Str.ofString "worths") (.fn 42) := gl_fn w P (by kernel_rfl) (if42 w P)
theorem gx50 : GlobR w P (Str.ofString "name_in") (.fn 43) := gl_fn w P (by kernel_rfl) (if43 w P)
theorem gx51 : GlobR w P (Str.ofString "worth_of_one") (.fn 44) := gl_fn w P (by kernel_rfl) (if44 w P)
theorem gx52 : GlobR w P (Str.ofString "worth_of_two") (.fn 45) := gl_fn w P (by kernel_rfl) (if45 w P)
theorem gx53 : GlobR w P (Str.ofString "worth_told") (.fn 46) := gl_fn w P (by kernel_rfl) (if46 w P)
theorem gx54 : GlobR w P (Str.ofString "names_asked") (.fn 47) := gl_fn w P (by kernel_rfl) (if47 w P)
theorem gx55 : GlobR w P (Str.ofString "_law_leaves") (.fn 49) := gl_fn w P (by kernel_rfl) (if49 w P)
theorem gx56 : GlobR w P (Str.ofString "_law_tree") (.fn 50) := gl_fn w P (by kernel_rfl) (if50 w P)
theorem gx57 : GlobR w P (Str.ofString "_law_whole") (.fn 51) := gl_fn w P (by kernel_rfl) (if51 w P)
theorem gx58 : GlobR w P (Str.ofString "_law_shown") (.fn 52) := gl_fn w P (by kernel_rfl) (if52 w P)
theorem gx59 : GlobR w P (Str.ofString "_law_node") (.fn 53) := gl_fn w P (by kernel_rfl) (if53 w P)
theorem gx60 : GlobR w P (Str.ofString "_law_reckoned") (.fn 54) := gl_fn w P (by kernel_rfl) (if54 w P)
theorem gx61 : GlobR w P (Str.ofString "_law_joined") (.fn 55) := gl_fn w P (by kernel_rfl) (if55 w P)
theorem gx62 : GlobR w P (Str.ofString "_law_two") (.fn 56) := gl_fn w P (by kernel_rfl) (if56 w P)
theorem gx63 : GlobR w P (Str.ofString "_law_name") (.fn 57) := gl_fn w P (by kernel_rfl) (if57 w P)
theorem gx64 : GlobR w P (Str.ofString "_law_one") (.fn 58) := gl_fn w P (by kernel_rfl) (if58 w P)
theorem gx65 : GlobR w P (Str.ofString "_law_called") (.fn 59) := gl_fn w P (by kernel_rfl) (if59 w P)
theorem gx66 : GlobR w P (Str.ofString "_law_worth") (.fn 60) := gl_fn w P (by kernel_rfl) (if60 w P)
theorem gx67 : GlobR w P (Str.ofString "_law_plain_node") (.fn 61) := gl_fn w P (by kernel_rfl) (if61 w P)
theorem gx68 : GlobR w P (Str.ofString "_law_plain") (.fn 62) := gl_fn w P (by kernel_rfl) (if62 w P)
theorem gx69 : GlobR w P (Str.ofString "_law_fails") (.fn 63) := gl_fn w P (by kernel_rfl) (if63 w P)
theorem glob_ok : GlobOk (kG w) (kK P) gl := fun x d h => look_all (R := GlobR w P) (by unfold glTab; exact all_cons (gx0 w P) <| all_cons (gx1 w P) <| all_cons (gx2 w P) <| all_cons (gx3 w P) <| all_cons (gx4 w P) <| all_cons (gx5 w P) <| all_cons (gx6 w P) <| all_cons (gx7 w P) <| all_cons (gx8 w P) <| all_cons (gx9 w P) <| all_cons (gx10 w P) <| all_cons (gx11 w P) <| all_cons (gx12 w P) <| all_cons (gx13 w P) <| all_cons (gx14 w P) <| all_cons (gx15 w P) <| all_cons (gx16 w P) <| all_cons (gx17 w P) <| all_cons (gx18 w P) <| all_cons (gx19 w P) <| all_cons (gx20 w P) <| all_cons (gx21 w P) <| all_cons (gx22 w P) <| all_cons (gx23 w P) <| all_cons (gx24 w P) <| all_cons (gx25 w P) <| all_cons (gx26 w P) <| all_cons (gx27 w P) <| all_cons (gx28 w P) <| all_cons (gx29 w P) <| all_cons (gx30 w P) <| all_cons (gx31 w P) <| all_cons (gx32 w P) <| all_cons (gx33 w P) <| all_cons (gx34 w P) <| all_cons (gx35 w P) <| all_cons (gx36 w P) <| all_cons (gx37 w P) <| all_cons (gx38 w P) <| all_cons (gx39 w P) <| all_cons (gx40 w P) <| all_cons (gx41 w P) <| all_cons (gx42 w P) <| all_cons (gx43 w P) <| all_cons (gx44 w P) <| all_cons (gx45 w P) <| all_cons (gx46 w P) <| all_cons (gx47 w P) <| all_cons (gx48 w P) <| all_cons (gx49 w P) <| all_cons (gx50 w P) <| all_cons (gx51 w P) <| all_cons (gx52 w P) <| all_cons (gx53 w P) <| all_cons (gx54 w P) <| all_cons (gx55 w P) <| all_cons (gx56 w P) <| all_cons (gx57 w P) <| all_cons (gx58 w P) <| all_cons (gx59 w P) <| all_cons (gx60 w P) <| all_cons (gx61 w P) <| all_cons (gx62 w P) <| all_cons (gx63 w P) <| all_cons (gx64 w P) <| all_cons (gx65 w P) <| all_cons (gx66 w P) <| all_cons (gx67 w P) <| all_cons (gx68 w P) <| all_cons (gx69 w P) <| (fun u9 h => absurd h List.not_mem_nil)) h
end
end Mine

end

section
namespace Mine
open PySem PySem.W PySem.Calls PyProof.Rows
theorem isD_in {d : Nat} (h : isD d = true) : d ∈ [1, 2, 3, 5] := by
  cases d with
  | zero => exact Bool.noConfusion h
  | succ d =>
    cases d with
    | zero => exact .head _
    | succ d =>
      cases d with
      | zero => exact .tail _ (.head _)
      | succ d =>
        cases d with
        | zero => exact .tail _ (.tail _ (.head _))
        | succ d =>
          cases d with
          | zero => exact Bool.noConfusion h
          | succ d =>
            cases d with
            | zero => exact .tail _ (.tail _ (.tail _ (.head _)))
            | succ d =>
              exact Bool.noConfusion h
theorem d4 {p : Nat → Prop} (h1 : p 1) (h2 : p 2) (h3 : p 3) (h5 : p 5) : ∀ d, isD d = true → p d := fun d h =>
  (List.forall_mem_cons (p := p) (l := [2, 3, 5])).mpr ⟨h1, (List.forall_mem_cons (p := p) (l := [3, 5])).mpr ⟨h2, (List.forall_mem_cons (p := p) (l := [5])).mpr ⟨h3, fun x hx => List.mem_singleton.mp hx ▸ h5⟩⟩⟩ d (isD_in h)
theorem isC_in {d : Nat} (h : isC d = true) : d ∈ [1, 2, 3, 4, 5, 6] := by
  cases d with
  | zero => exact Bool.noConfusion h
  | succ d =>
    cases d with
    | zero => exact .head _
    | succ d =>
      cases d with
      | zero => exact .tail _ (.head _)
      | succ d =>
        cases d with
        | zero => exact .tail _ (.tail _ (.head _))
        | succ d =>
          cases d with
          | zero => exact .tail _ (.tail _ (.tail _ (.head _)))
          | succ d =>
            cases d with
            | zero => exact .tail _ (.tail _ (.tail _ (.tail _ (.head _))))
            | succ d =>
              cases d with
              | zero => exact .tail _ (.tail _ (.tail _ (.tail _ (.tail _ (.head _)))))
              | succ d =>
                exact Bool.noConfusion h
theorem isT_in {d : String} (h : isT d = true) : d ∈ tList := List.contains_iff_mem.mp h
noncomputable def takerNone (o : Option (Option Value)) : Bool := o.isSome && (o.getD (some .none)).isNone
theorem takerNone_is {o : Option (Option Value)} (h : takerNone o = true) : o = some none := by
  cases o with
  | none => exact Bool.noConfusion h
  | some o => cases o with
    | none => rfl
    | some _ => exact Bool.noConfusion h
noncomputable def initB (K : Frag) (C : Addr) (i : Nat) (ps : List Str) (tl : Option Str) : Bool :=
  (ps ++ tl.toList).all (fun a => takerNone (takerIn K C a)) && nodupS ((Str.ofString "self") :: (ps ++ tl.toList)) && isFun (partsOf i).2.2.kind && !(partsOf i).2.2.isCoroutine && !(partsOf i).2.2.isGenerator &&
  (partsOf i).2.2.names.all (fun y => y.2 != .cell) && ((Str.ofString "self") :: ps).all (fun x => (partsOf i).2.2.names.lookup x == some .local) && ((Str.ofString "self") :: ps).all (fun x => !(x == ("__debug__" : Str)))
theorem initOk_of {K : Frag} {C fI c : Addr} {i : Nat} {qual : String} {pm : Value} {ps : List Str} {tl : Option Str} (h0 : ClsOk K C) (h1 : findIn K (.ref C) "__init__" = some (some (.ref fI))) (h2 : typeIn K (.ref fI) = some (.type "function")) (h3 : K.lookup fI = some (kf "__init__" qual i [] .none pm c .none))
    (h4 : codeIn K (.ref c) (Str.ofString qual) = true) (h5 : (partsOf i).1 = ⟨[], pArgs i, none, [], [], none, []⟩) (h6 : (pArgs i).map (·.arg) = Str.ofString "self" :: ps) (h7 : initOf (Str.ofString "self") (partsOf i).2.1 = some (ps, tl)) (h8 : initB K C i ps tl = true) : InitOk K C ps tl := by
  unfold initB at h8
  simp only [Bool.and_eq_true, Bool.not_eq_true', List.all_eq_true] at h8
  obtain ⟨⟨⟨⟨⟨⟨⟨a1, a2⟩, a3⟩, a4⟩, a5⟩, a6⟩, a7⟩, a8⟩ := h8
  refine ⟨h0, fun a ha => takerNone_is (a1 a ha), fI, _, pArgs i, _, _, _, _, _, _, _, _, _, Str.ofString "self", h1, h2, h3, congrArg (fun p => Data.func (fnX (Str.ofString "__init__") (Str.ofString qual) p (partsOf i).2.1 (partsOf i).2.2 [] .none .none .none pm none (.ref c) .none)) h5, h4, h6, nodupS_iff a2, h7, isFun_is a3, a4, a5, fun x hx => by simpa using a6 x hx, fun x hx => by simpa using a7 x hx, fun x hx => a8 x hx⟩
section
variable (w : World) (P : Params)
theorem kc2 : InitOk (kK P) 68 ["node"] none := initOk_of (i := 203) (fI := 65) (c := 64) (qual := "Pattern.__init__") (pm := ks "snobol.values" 187) ⟨by kernel_rfl, by kernel_rfl, by kernel_rfl, by kernel_rfl⟩ (by kernel_rfl) (by kernel_rfl) (by kernel_rfl) (by kernel_rfl) (by kernel_rfl) (by kernel_rfl) (by kernel_rfl) (by kernel_rfl)
theorem kc3 : InitOk (kK P) 89 ["tree"] none := initOk_of (i := 204) (fI := 86) (c := 85) (qual := "Delayed.__init__") (pm := ks "snobol.values" 187) ⟨by kernel_rfl, by kernel_rfl, by kernel_rfl, by kernel_rfl⟩ (by kernel_rfl) (by kernel_rfl) (by kernel_rfl) (by kernel_rfl) (by kernel_rfl) (by kernel_rfl) (by kernel_rfl) (by kernel_rfl)
theorem kc5 : InitOk (kK P) 131 ["kind", "owner", "key"] none := initOk_of (i := 206) (fI := 128) (c := 127) (qual := "NameRef.__init__") (pm := ks "snobol.values" 187) ⟨by kernel_rfl, by kernel_rfl, by kernel_rfl, by kernel_rfl⟩ (by kernel_rfl) (by kernel_rfl) (by kernel_rfl) (by kernel_rfl) (by kernel_rfl) (by kernel_rfl) (by kernel_rfl) (by kernel_rfl)
theorem kc7 : InitOk (kK P) 377 ["values", "functions", "width", "most_length"] (some "log") := initOk_of (i := 240) (fI := 360) (c := 359) (qual := "ExprHooks.__init__") (pm := ks "snobol.plainexpr" 629) ⟨by kernel_rfl, by kernel_rfl, by kernel_rfl, by kernel_rfl⟩ (by kernel_rfl) (by kernel_rfl) (by kernel_rfl) (by kernel_rfl) (by kernel_rfl) (by kernel_rfl) (by kernel_rfl) (by kernel_rfl)
set_option tactic.hygienic true in
theorem kCls : KCls (kG w) (kK P) where
  isO := fun d h => by
    revert h
    revert d
    refine d4 ?_ ?_ ?_ ?_
    · exact iAAA (by kernel_rfl) (by kernel_rfl) (by kernel_rfl) (by kernel_rfl)
    · exact iAAA (by kernel_rfl) (by kernel_rfl) (by kernel_rfl) (by kernel_rfl)
    · exact iAAA (by kernel_rfl) (by kernel_rfl) (by kernel_rfl) (by kernel_rfl)
    · exact iAAA (by kernel_rfl) (by kernel_rfl) (by kernel_rfl) (by kernel_rfl)
  isG := ⟨by kernel_rfl, by kernel_rfl⟩
  isCC := fun d c h1 h2 => eq_of_beq (List.all_eq_true.mp (List.all_eq_true.mp (show ([1, 2, 3, 5].all fun d => [1, 2, 3, 4, 5, 6].all fun c => kitOne (kK P) (.ref ((kG w).cA d)) (.ref ((kG w).cA c)) == some (Nat.beq d c)) = true by kernel_rfl) d (isD_in h1)) c (isC_in h2))
  isCN := fun d n h1 h2 => eq_of_beq (List.all_eq_true.mp (List.all_eq_true.mp (show ([1, 2, 3, 5].all fun d => nList.all fun n => kitOne (kK P) (.ref ((kG w).cA d)) (.type n) == some false) = true by kernel_rfl) d (isD_in h1)) n (isN_in h2))
  isTC := fun T c h1 h2 => eq_of_beq (List.all_eq_true.mp (List.all_eq_true.mp (show (tList.all fun T => [1, 2, 3, 4, 5, 6].all fun c => kitOne (kK P) (.type T) (.ref ((kG w).cA c)) == some false) = true by kernel_rfl) T (isT_in h1)) c (isC_in h2))
  isTN := fun T n h1 h2 => eq_of_beq (List.all_eq_true.mp (List.all_eq_true.mp (show (tList.all fun T => nList.all fun n => kitOne (kK P) (.type T) (.type n) == some (tyB T n)) = true by kernel_rfl) T (isT_in h1)) n (isN_in h2))
  fd := fun _ _ h => .inl h
  keep := fun c => match c with
    | 0 => by kernel_rfl
    | 1 => by kernel_rfl
    | 2 => by kernel_rfl
    | 3 => by kernel_rfl
    | 4 => by kernel_rfl
    | 5 => by kernel_rfl
    | 6 => by kernel_rfl
    | 7 => by kernel_rfl
    | c + 8 => by show keepIn (kK P) (.ref 47) = true; kernel_rfl
  fail := ⟨by kernel_rfl, by kernel_rfl⟩
  i2 := kc2 P
  i3 := kc3 P
  i5 := kc5 P
  i7 := kc7 P
  fld := fun c n hn => by
    unfold classFields at hn
    split at hn
    · simp only [List.mem_cons, List.not_mem_nil, or_false] at hn
      subst hn
      exact ⟨by kernel_rfl, by kernel_rfl, none, by kernel_rfl, by kernel_rfl⟩
    · simp only [List.mem_cons, List.not_mem_nil, or_false] at hn
      subst hn
      exact ⟨by kernel_rfl, by kernel_rfl, none, by kernel_rfl, by kernel_rfl⟩
    · simp only [List.mem_cons, List.not_mem_nil, or_false] at hn
      rcases hn with rfl | rfl | rfl <;> exact ⟨by kernel_rfl, by kernel_rfl, none, by kernel_rfl, by kernel_rfl⟩
    · simp only [List.mem_cons, List.not_mem_nil, or_false] at hn
      rcases hn with rfl | rfl | rfl | rfl | rfl <;> exact ⟨by kernel_rfl, by kernel_rfl, none, by kernel_rfl, by kernel_rfl⟩
    · cases hn
  meth := fun n i h => by
    replace h : (match seq n (Str.ofString "get") with | true => some 101 | false => match seq n (Str.ofString "call") with | true => some 102 | false => none) = some i := h
    split at h
    · rename_i q
      cases h
      rw [seq_iff.mp q]
      exact iAAEAA (by kernel_rfl) (by decide) 367 (by kernel_rfl) (by kernel_rfl) (if101 w P)
    · split at h
      · rename_i q
        cases h
        rw [seq_iff.mp q]
        exact iAAEAA (by kernel_rfl) (by decide) 374 (by kernel_rfl) (by kernel_rfl) (if102 w P)
      · cases h
end
end Mine

end

section
namespace Mine
open PySem PySem.W PySem.Calls PyProof.Rows
noncomputable def excPs : List Pos := [⟨5, 8, 5, 13⟩, ⟨5, 8, 5, 15⟩, ⟨5, 8, 5, 24⟩, ⟨5, 25, 5, 32⟩, ⟨5, 8, 5, 33⟩, ⟨5, 8, 5, 33⟩, ⟨6, 8, 6, 12⟩, ⟨6, 8, 6, 19⟩, ⟨6, 22, 6, 28⟩, ⟨6, 8, 6, 28⟩, ⟨7, 8, 7, 12⟩, ⟨7, 8, 7, 17⟩, ⟨7, 20, 7, 24⟩, ⟨7, 8, 7, 24⟩]
noncomputable abbrev eq_ (i : Nat) : Pos := excPs.getD i ⟨0, 0, 0, 0⟩
noncomputable abbrev excFd : FuncData := ksFn sInit (Str.ofString "SnobolError.__init__") (partsOf 201).1 (initBody eq_ 0) (partsOf 201).2.2 (.ref 23) .none .none (ks "snobol.values" 187) none (.ref 30) (.ref 24) 18
section
variable (w : World) (P : Params)
theorem kExcG : KExcG (kK P) 34 := ⟨by kernel_rfl, by kernel_rfl, by kernel_rfl, by kernel_rfl, by kernel_rfl⟩
theorem exc_fn : (kK P).lookup 31 = some ⟨.type "function", none, .func excFd, #[]⟩ := by kernel_rfl
theorem exc_ns {h : Heap} (X : (kK P).In h) : ∃ es, (ko33 P).data = .dict es 4 ∧ h.Ns 33 (nsFind es) := by
  refine ⟨_, rfl, ko33 P, _, _, X 33 _ (by kernel_rfl), rfl, fun e he => ?_, fun u9 => rfl⟩
  simp only [List.mem_toArray, List.mem_cons, List.not_mem_nil, or_false] at he
  rcases he with rfl | rfl | rfl | rfl | rfl | rfl <;> exact ⟨_, _, rfl⟩
theorem exc_binds {s : Shared} (X : (kK P).In s.heap) (e va vb : Value) : BindsTo s excFd ⟨[e, va, vb], []⟩ [(sSelf, e), (sNumber, va), (sTold, vb)] :=
  BindsTo.of_defaults (T := 23) (o := ko23) rfl (X 23 _ (by kernel_rfl)) rfl rfl rfl
theorem kExc : KExc (kG w) (kK P) 34 33 31 30 18 (partsOf 201).2.2 (Str.ofString "SnobolError.__init__") where
  hC0 := rfl
  cls := ⟨Str.ofString "SnobolError", Str.ofString "SnobolError", [.type "Exception"], [], [], false, none, none, some (.ref 15), none, some (ks "SnobolError" 189), some (ks "SnobolError" 197), some (.bool true), by kernel_rfl⟩
  ns := ⟨fun x => match (ko33 P).data with | .dict es _ => nsFind es x | _ => none, fun h X => by obtain ⟨es, e, n⟩ := exc_ns P X; rw [e]; exact n, by kernel_rfl, by kernel_rfl, by kernel_rfl, by kernel_rfl⟩
  fn := ⟨(partsOf 201).1, .ref 23, .none, .none, ks "snobol.values" 187, none, .ref 24, none, #[], ((partsOf 201).1.args.head?).getD ⟨Str.ofString "", none, ⟨0, 0, 0, 0⟩⟩, eq_, 0, exc_fn P, by kernel_rfl, by kernel_rfl, by kernel_rfl, fun s e va vb X => exc_binds P X e va vb⟩
  code := by kernel_rfl
  codeF := ⟨_, _, _, _, Str.ofString "/claim/cut.py", 204, show (kK P).lookup 30 = some ko30 by kernel_rfl, rfl, by kernel_rfl⟩
  cell := ⟨_, _, _, show (kK P).lookup 18 = some ko18 by kernel_rfl⟩
  kind := by kernel_rfl
  co := by kernel_rfl
  gen := by kernel_rfl
  nocell := fun x hx => by
    have h : (partsOf 201).2.2.names.all (fun y => y.2 != .cell) = true := by kernel_rfl
    simpa using List.all_eq_true.mp h x hx
  names := ⟨by kernel_rfl, by kernel_rfl, by kernel_rfl, by kernel_rfl, by kernel_rfl⟩
  sub := ⟨by kernel_rfl, by kernel_rfl⟩
  super := by kernel_rfl
  third := by kernel_rfl
  top := by kernel_rfl
theorem kRest {p : Program} {loose : List Str} {mean : ExcName → Option Value} {mg mb : Str → Option Value} {base : Heap} : Rest (kG w) (kK P) p loose mean mg mb base :=
  ⟨glob_ok w P, fun C u9 u9 u9 u9 u9 u9 u9 u9 u9 u9 u9 u9 S ra rb hE => raise_ok (kExc w P) C S ra rb hE⟩
end
end Mine

end

section
namespace Mine
open PySem PySem.W PySem.Calls PyProof.Rows
section
variable {p : Program} {loose : List Str} {mean : ExcName → Option Value} {mg mb : Str → Option Value} {h₁ : Heap} {as : List Addr}
noncomputable def Aside (h : Heap) (as : List Addr) : Prop := ∀ b ∈ as, ∃ o, h.get? b = some o ∧ (∀ es ep, o.data ≠ .dict es ep) ∧ o.data ≠ .plain
theorem hide_get (H : Aside h₁ as) {b : Addr} {o : Obj} (e : h₁.get? b = some o) (ho : (∃ es ep, o.data = .dict es ep) ∨ o.data = .plain) : (hideAll h₁ as).get? b = some o :=
  hideAll_get _ e fun q => by
    refine eEAA (H b q) fun o' e' h1 h2 => ?_
    rw [e] at e'; cases e'
    rcases ho with ⟨es, ep, z⟩ | z
    · exact h1 _ _ z
    · exact h2 z
theorem hide_ns {a : Addr} {mm : Str → Option Value} (H : Aside h₁ as) (x : h₁.Ns a mm) : (hideAll h₁ as).Ns a mm :=
  let ⟨o, es, ep, e, hd, r⟩ := x; ⟨o, es, ep, hide_get H e (.inl ⟨es, ep, hd⟩), hd, r⟩
theorem hide_top (H : Aside h₁ as) (T : Top p loose mean mg mb h₁) :
    Top topProg (loose ++ (recsOf p).map (·.name) ++ (litsOf p).map (·.1) ++ (clssOf p loose).map (·.name)) mean mg mb (hideAll h₁ as) where
  g := hide_ns H T.g
  b := hide_ns H T.b
  nolimit := let ⟨mc, a, r⟩ := T.nolimit; ⟨mc, hide_ns H a, r⟩
  nodigits := let ⟨mc, a, r⟩ := T.nodigits; ⟨mc, hide_ns H a, r⟩
  fn := fun d hd => absurd (show d ∈ ([] : List DefRec) from hd) List.not_mem_nil
  own := fun o ho => absurd (show o ∈ ([] : List OwnSpec) from ho) List.not_mem_nil
  const := fun x d e => by cases (show (none : Option PyData) = some d from e)
  free := fun x h1 h2 u9 u9 u9 => T.free x h1 (fun q => h2 (List.mem_append_left _ (List.mem_append_left _ (List.mem_append_left _ q))))
    (fun q => h2 (List.mem_append_left _ (List.mem_append_left _ (List.mem_append_right _ q)))) (fun q => h2 (List.mem_append_left _ (List.mem_append_right _ q))) fun q => h2 (List.mem_append_right _ q)
  builtins := T.builtins
  tab := fun d hd => absurd (show d ∈ ([] : List DefRec) from hd) List.not_mem_nil
  bmain := let ⟨bm, ob, a1, a2, a3, a4, a5, a6⟩ := T.bmain; ⟨bm, ob, a1, a2, hide_get H a3 (.inr a6), a4, a5, a6⟩
  seer := fun e => absurd (show false = true from e) Bool.false_ne_true
end
noncomputable def noLists (K : Frag) : Bool := K.all fun q => match q.2.cls with | .type n => !(n == "list") | _ => true
theorem VRs.ints {G : Gx} {I : Addr → Obj → Prop} {ce : List Addr} : ∀ {vs : List Value} {ns : List Int}, IntsAre vs ns → VRs G I ce vs (ns.map .int)
  | _, _, .nil => .nil
  | _, _, .cons _ _ r => .cons .int (VRs.ints r)
noncomputable abbrev lawKs (w : World) : Frag := kK w.params
theorem law_parts : lawF.body = (partsOf 64).2.1 ∧ lawF.kinds = (partsOf 64).2.2.names ∧ (pArgs 64).map (·.arg) = [sScript] := by
  have h := ff64.2.1
  rw [law_is] at h
  have h' := Option.some.inj h
  exact iAA (congrArg Fn.body h') (congrArg Fn.kinds h') (by kernel_rfl)
theorem law_scope : (partsOf 64).2.2.kind = .function ∧ (partsOf 64).2.2.isCoroutine = false ∧ (partsOf 64).2.2.isGenerator = false ∧ (partsOf 64).2.2.names.all (fun y => y.2 != .cell) = true ∧ (partsOf 64).2.2.names.lookup sScript = some .local :=
  ⟨by kernel_rfl, by kernel_rfl, by kernel_rfl, by kernel_rfl, by kernel_rfl⟩
set_option tactic.hygienic true in
theorem law_enter {w : World} {p : Program} {loose : List Str} {mean : ExcName → Option Value} {mg mb : Str → Option Value} {s₁ : Shared} (T : Top p loose mean mg mb s₁.heap) (X : (lawKs w).In s₁.heap) (h533 : s₁.heap.get? 533 = some (tabObj #[]))
    {a : Addr} {os : Obj} {items : Array Value} {n : Nat} (ha : s₁.heap.get? a = some os) (hac : os.cls = .type "list") (had : os.data = .seq items n) {script : List Int} (hv : IntsAre items.toList script) {c : Nat} {μ₁ : Mu} (h : lawDen (c + 1) script = .ret (.bool true) μ₁) (hc : c ≤ 400)
    {R : Result → Shared → Prop} (hR : ∀ s', (∀ b o, b ≠ 533 → s₁.heap.get? b = some o → s'.heap.get? b = some o) → GrownAt 533 s'.heap → (∃ hp tk, s' = { s₁ with heap := hp, toks := tk }) → R (.ok (.ret (.bool true))) s') :
    codeAny (model (kG w).prog (kG w).w) callerA (.call (.ref 536) ⟨[.ref a], []⟩) R s₁ := by
  refine eAA (law_parts) fun pb pk pa => ?_
  try clear law_parts
  refine eAAAA (law_scope) fun c1 c2 c3 c4 c5 => ?_
  try clear law_scope
  have hfun : s₁.heap.get? 536 = some ko536 := X 536 _ (by kernel_rfl)
  have hd : ko536.data = .func (fnX (Str.ofString "law") (Str.ofString "law") ⟨[], pArgs 64, none, [], [], none, []⟩ (partsOf 64).2.1 (partsOf 64).2.2 [] .none .none .none (ks "law_nz0410_01" 761) none (.ref 535) .none) :=
    congrArg (fun p => Data.func (fnX (Str.ofString "law") (Str.ofString "law") p (partsOf 64).2.1 (partsOf 64).2.2 [] .none .none .none (ks "law_nz0410_01" 761) none (.ref 535) .none)) ff64.1
  have hlen : [Value.ref a].length = (pArgs 64).length := by
    have := congrArg List.length pa
    simpa using this.symm
  have hzip : ((pArgs 64).map (·.arg)).zip [Value.ref a] = [(sScript, .ref a)] := by rw [pa]; rfl
  have h533a : a ≠ 533 := fun e => by
    rw [e, h533] at ha; cases ha
    cases hac
  have hAs : Aside s₁.heap [533, a] := fun b hb => by
    simp only [List.mem_cons, List.not_mem_nil, or_false] at hb
    rcases hb with rfl | rfl
    · exact iEAA _ h533 (by simp) (by simp)
    · exact iEAA _ ha (by rw [had]; simp) (by rw [had]; simp)
  have hcode : s₁.heap.CodeRec (.ref 535) (Str.ofString "law") := ⟨535, ko535, _, 900, rfl, X 535 _ (by kernel_rfl), rfl, rfl⟩
  refine codeAny_call_def (by decide) hfun hd T.nolimit hcode rfl (BindsTo.of_eq (bind_simple rfl rfl (by rw [pa]; simp) hlen)) (fun x hx => by simpa using List.all_eq_true.mp c4 x hx) (fun x hx => ?_) (fun h₁ hns hk₁ => ?_) c2 c3 c1
  · rw [hzip] at hx
    simp only [List.mem_cons, List.not_mem_nil, or_false] at hx
    subst hx
    exact c5
  · rw [hzip] at hns ⊢
    let f : Fx := ⟨Str.ofString "law", (partsOf 64).2.2, s₁.heap.objs.size, 536, .ref 535, []⟩
    have Xb : (lawKs w).In (hideAll s₁.heap [533, a]) := fun b o e => hideAll_get _ (X b o e) fun q => by
      simp only [List.mem_cons, List.not_mem_nil, or_false] at q
      rcases q with rfl | rfl
      · rw [show (lawKs w).lookup 533 = none by kernel_rfl] at e; cases e
      · have h2 := List.all_eq_true.mp (show noLists (lawKs w) = true by kernel_rfl) (b, o) (mem_of_lookupK e)
        have := (X b o e).symm.trans ha
        cases this
        dsimp only at h2
        rw [hac] at h2
        exact absurd h2 (by decide)
    have Tb := hide_top hAs T
    have Cx : FCtx (lawKs w) topProg _ mean mg mb (hideAll s₁.heap [533, a]) (c + 2) (callerA.deeper f.env) [] (hideAll s₁.heap [533, a]) f :=
      ⟨Around.frames_deeper rfl, fun _ _ e => e, trivial, Tb, Xb, c1, rfl, by show 1 + 300 + 1 + (c + 2) + 10 < 1000; lia, by show 4 + 3 + 3 * (c + 2) + 300 < 9900; lia, rfl⟩
    have F : Fr (hideAll s₁.heap [533, a]) f.L h₁ (fun x => List.lookup x [(sScript, Value.ref a)].reverse) := ⟨hns, fun b o e => hk₁ b o (of_hideAll _ e), Nat.le_of_eq (hideAll_size _ _)⟩
    have N : News (hideAll s₁.heap [533, a]) f.L h₁ [(533, tabObj #[]), (a, os)] := fun q hq => by
      simp only [List.mem_cons, List.not_mem_nil, or_false] at hq
      rcases hq with rfl | rfl
      · exact iAA (hk₁ _ _ h533) (Nat.ne_of_lt (Heap.lt_size h533)) (hideAll_none _ (.head _))
      · exact iAA (hk₁ _ _ ha) (Nat.ne_of_lt (Heap.lt_size ha)) (hideAll_none _ (.tail _ (.head _)))
    have S : Now (kG w) (lawKs w) (hideAll s₁.heap [533, a]) f.L (fun x => List.lookup x [(sScript, Value.ref a)].reverse) [533] s₁ [(533, tabObj #[]), (a, os)] [] [] { s₁ with heap := h₁, toks := s₁.toks + [(sScript, Value.ref a)].length } :=
      ⟨F, N, Xb, Tb.nolimit, ⟨rfl, List.nodup_nil, nofun, fun i l e => by simp at e⟩, fun b hb => by rw [List.mem_singleton.mp hb]; exact ⟨_, .head _⟩, ⟨h₁, _, rfl⟩⟩
    have RR : RhoOk (kG w) (lawKs w) f (fun x => List.lookup x [(sScript, Value.ref a)].reverse) [533] [(533, tabObj #[]), (a, os)] [] [(sScript, .val (.list (script.map .int)))] none := by
      refine ⟨fun x d e => ?_, fun x l e => ?_⟩
      · unfold look at e
        split at e
        · rename_i hx
          cases e
          have hx' : x = sScript := seq_iff.mp hx
          subst hx'
          refine iEAA (.ref a) (.list (vs := items.toList) ⟨os, n, .inl ⟨.tail _ (.head _), fun q => h533a (List.mem_singleton.mp q), nofun⟩, hac, by rw [had]⟩ (VRs.ints hv)) (fun _ => by simp) (fun q => ?_)
          rw [show f.cs.names.lookup sScript = some .local from c5] at q; cases q
        · cases e
      · unfold look at e
        split at e
        · cases e
        · cases e
    rw [← pb]
    refine law_sound (kExc w w.params) (kExcG w.params) (kRest w w.params) (kCls w w.params) (fun _ _ q => q) (fun _ _ q => .inr q) Cx (codeHd_of_K Xb (by kernel_rfl)) rfl pk.symm S (.head _) RR h fun s' m' led' ce' μ' T' k t => ?_
    refine eEA (t) fun ps' t1 zz => ?_
    try clear t
    refine hR s' (fun b o hb e => ?_) ⟨ps', (T'.N _ t1).1⟩ T'.sm
    by_cases hba : b = a
    · subst hba
      rw [ha] at e; cases e
      exact (T'.N _ (k (b, os) (.tail _ (.head _)) hb)).1
    · exact T'.F.keep _ _ (hideAll_get _ e (by simp [hb, hba]))
end Mine

end

section
open PySem PySem.W PySem.Calls PyProof.Rows
set_option Elab.async false
namespace Mine
set_option maxHeartbeats 8000000
noncomputable abbrev kH : Hook := kmHook kK kAs kAs_is [533]
set_option tactic.hygienic true in
theorem top (plain : ∀ script : List Int, script.length ≤ 63 → ∃ μ, lawDen 61 script = .ret (.bool true) μ) : PySem.Challenge.rw_nz0410_01.Holds := by
  refine holds_law said fun _ => ?_
  refine holds_open (q := qv) (loose := ls) (Xt := fun s => xlAt qv [] s && recOk (RowW.records (PySem.Challenge.rw_nz0410_01.row.toRowW)) s) (XP := XL qv []) (Yf := Hook.obs kH) (Ya := Hook.val kH) (YP := Hook.says kH) (N := 7032) ?hl (Hook.of kH) (Hook.keeps kH) (fun s e => xl_of s (Bool.and_eq_true_iff.mp e).1) XL.keeps (by rfl) (by rfl) (by rfl) (fun s e => recFacts_of (Bool.and_eq_true_iff.mp e).2) (by rfl) sB (by decide +kernel) ⟨rfl, rfl, rfl, rfl, rfl, by decide +kernel⟩ ?hw ?hc
  case hw => w_witness2
  case hl =>
    refine leftO_tree boot_e rfl boot_f boot_size (fun w os => ?_) fun w os => ?_
    · rw [Fast.te14364793385576792824, Fast.te11892475500146522536, Fast.te4187177175401517315, Fast.te5923862056798008813]
      exact hlT w os
    · rw [Fast.te14364793385576792824, Fast.te11892475500146522536]
      exact hlO w os
  case hc =>
    intro w s₀ s₁ mg mb G Y fa o pm cd doc dV kV ho hd hcd hD hmg hg args vals as hpre hlay hrd hwl hlo
    have KX := km_in_of Y
    have hT8 := km_tabs_of Y
    refine Ground.open G ?_
    intro T B D TE TW
    have hfa : fa = 536 := by
      have e1 := mg_of KX T.g (show nsIn (kK w.params) mainGlobals (Str.ofString "law") = some (some (.ref 536)) by kernel_rfl)
      have e2 := hmg.symm.trans e1
      exact Value.ref.inj (Option.some.inj e2)
    subst hfa
    clear hd hcd hD hmg
    wrow_args hpre hlay hrd hwl hlo
    all_goals (refine enter_call ?_)
    rename_i ns _ _ _ _ _ _ _ a vs _ hL _ _ _ hI _ hlen _
    obtain ⟨os, h1, h2, n, h3⟩ := hL
    obtain ⟨μ, hμ⟩ := plain ns (by omega)
    have hT9 : TabsAt [(535, 533)] s₁.heap := fun q hq => by
      rw [List.mem_singleton.mp hq]
      exact ⟨codeHd_of_K KX (by kernel_rfl), hT8 533 (.head _)⟩
    refine kn_post hT9 (fun _ _ => by rfl) (law_enter (c := 60) T KX (hT8 533 (.head _)) h1 h2 h3 (by simpa using hI) hμ (by omega) fun s' keep grown sm => ?_)
    obtain ⟨hp, tk, rfl⟩ := sm
    refine ⟨⟨.inl ⟨.bool true, .bool true, [], rfl, fun cls => by rfl, .bool _, by kernel_rfl, fun _ => ⟨List.nodup_nil, nofun⟩⟩, fun b o e => keep b o (fun q => ?_) (of_hideAll _ e), rfl, hg⟩, grown, trivial⟩
    subst q
    have e' : (hideAll s₁.heap [533]).get? 533 = some o := e
    rw [hideAll_none [533] (.head _)] at e'
    cases e'
end Mine

end

section
namespace Mine
open PySem
noncomputable abbrev tst (b : V) (t e : Res) : Res := match b with
  | .bool true => t
  | .bool false => e
  | _ => .stuck
noncomputable abbrev str (s : String) : V := .str (Str.ofString s)
section
variable (c : Nat) (h l r t v w x y : V) (μ : Mu)
theorem p_worths0 : Phi (c+2) 42 [.list [], h] μ = .ret (.list []) μ := by kernel_rfl!
theorem p_worth_null : Phi (c+1) 41 [.tup [str "null"], h] μ = .ret (str "") μ := by kernel_rfl!
theorem p_worth_text (s : Str) : Phi (c+1) 41 [.tup [str "text", .str s], h] μ = .ret (.str s) μ := by kernel_rfl!
theorem p_worth_whole (i : Int) : Phi (c+1) 41 [.tup [str "whole", .int i], h] μ = .ret (.int i) μ := by kernel_rfl!
theorem p_worth_name : Phi (c+1) 41 [.tup [str "name", x], h] μ = (match methK h (Str.ofString "get") with | some mk => methV { top := true, kinds := [], gl := gl, isCell := fun u9 => false, Φ := Phi c } h mk [x] μ Res.ret | none => .stuck) := by kernel_rfl!
theorem p_worth_call : Phi (c+1) 41 [.tup [str "call", x, .tup [l, r]], h] μ = bindR (Phi c 42 [.tup [l, r], h] μ) fun a μ => bindR (Phi c 8 [a] μ) fun b μ => tst b (.ret a μ) (match methK h (Str.ofString "call") with | some mk => methV { top := true, kinds := [], gl := gl, isCell := fun u9 => false, Φ := Phi c } h mk [x, a] μ Res.ret | none => .stuck) := by kernel_rfl!
theorem p_worth_unary : Phi (c+1) 41 [.tup [str "unary", x, t], h] μ = bindR (Phi c 44 [x, t, h] μ) Res.ret := by kernel_rfl!
theorem p_worth_join : Phi (c+1) 41 [.tup [str "join", l, r], h] μ = bindR (Phi c 45 [.tup [str "join", l, r], h] μ) Res.ret := by kernel_rfl!
theorem p_worth_binary : Phi (c+1) 41 [.tup [str "binary", x, l, r], h] μ = bindR (Phi c 45 [.tup [str "binary", x, l, r], h] μ) Res.ret := by kernel_rfl!
end
end Mine

end

section
namespace Mine
open PySem
section
variable (c : Nat) (h l r t v w x y g : V) (μ : Mu)
theorem p_two_join : Phi (c+1) 45 [.tup [str "join", l, r], h] μ = bindR (Phi c 42 [.list [l, r], h] μ) fun a μ => bindR (Phi c 8 [a] μ) fun b μ => tst b (.ret a μ)
    (match itemV μ a (.int 0) with | some p => (match itemV μ a (.int 1) with | some q => bindR (Phi c 35 [h, p, q] μ) Res.ret | none => .stuck) | none => .stuck) := by kernel_rfl!
noncomputable abbrev kDot (c : Nat) (v : V) (ref : V) (μ : Mu) : Res := bindR (Phi c 8 [ref] μ) fun b μ => tst b (.ret ref μ) (bindR (Phi c 27 [v] μ) fun n μ => bindR (Phi c 22 [n, ref] μ) fun n μ => mkInst 2 [n] μ Res.ret)
theorem p_two_dot : Phi (c+1) 45 [.tup [str "binary", str ".", l, r], h] μ = bindR (Phi c 41 [l, h] μ) fun v μ => bindR (Phi c 8 [v] μ) fun b μ => tst b (kDot c v v μ) (bindR (Phi c 43 [r, h] μ) (kDot c v)) := by kernel_rfl!
theorem p_one_star : Phi (c+1) 44 [str "*", t, h] μ = .ret (.inst 3 [t]) μ := by kernel_rfl!
theorem p_one_tilde : Phi (c+1) 44 [str "~", t, h] μ = bindR (Phi c 41 [t, h] μ) fun v μ => bindR (Phi c 8 [v] μ) fun b μ => tst b (.ret (str "") μ) (.ret (.inst 1 []) μ) := by kernel_rfl!
theorem p_one_q : Phi (c+1) 44 [str "?", t, h] μ = bindR (Phi c 41 [t, h] μ) fun v μ => bindR (Phi c 8 [v] μ) fun b μ => tst b (.ret v μ) (.ret (str "") μ) := by kernel_rfl!
theorem p_one_plus : Phi (c+1) 44 [str "+", t, h] μ = bindR (Phi c 41 [t, h] μ) fun v μ => bindR (Phi c 8 [v] μ) fun b μ => tst b (.ret v μ) (bindR (Phi c 38 [h, str "+", v] μ) Res.ret) := by kernel_rfl!
theorem p_law_unary (log wd : V) : Phi (c+1) 60 [.tup [str "unary", x, t], wd, log] μ = bindR (Phi c 58 [x, t, wd, log] μ) Res.ret := by kernel_rfl!
theorem p_law_one_star (log wd : V) : Phi (c+1) 58 [str "*", t, wd, log] μ = .ret (.tup [str "value", .tup [str "delayed", t]]) μ := by kernel_rfl!
end
end Mine

end

section
namespace Mine
open PySem
section
variable (c : Nat) (h l r t v w x y g : V) (μ : Mu)
noncomputable abbrev kTwo (c : Nat) (r h : V) (v : V) (μ : Mu) : Res := bindR (Phi (c+1) 8 [v] μ) fun b μ => tst b (.ret v μ) (bindR (Phi (c+1) 41 [r, h] μ) fun w μ => bindR (Phi (c+1) 8 [w] μ) fun b μ => tst b (.ret w μ) (.ret (.list [v, w]) μ))
theorem p_worths_l2 : Phi (c+2) 42 [.list [l, r], h] μ = bindR (Phi (c+1) 41 [l, h] μ) (kTwo c r h) := by kernel_rfl!
theorem p_worths_t2 : Phi (c+2) 42 [.tup [l, r], h] μ = bindR (Phi (c+1) 41 [l, h] μ) (kTwo c r h) := by kernel_rfl!
theorem p_worths_t1 : Phi (c+2) 42 [.tup [l], h] μ = bindR (Phi (c+1) 41 [l, h] μ) fun v μ => bindR (Phi (c+1) 8 [v] μ) fun b μ => tst b (.ret v μ) (.ret (.list [v]) μ) := by kernel_rfl!
theorem p_worths_t0 : Phi (c+2) 42 [.tup [], h] μ = .ret (.list []) μ := by kernel_rfl!
theorem p_fail_inst : Phi (c+1) 8 [.inst 1 []] μ = .ret (.bool true) μ := by kernel_rfl!
theorem p_fail_int (i : Int) : Phi (c+1) 8 [.int i] μ = .ret (.bool false) μ := by kernel_rfl!
theorem p_fail_str (s : Str) : Phi (c+1) 8 [.str s] μ = .ret (.bool false) μ := by kernel_rfl!
theorem p_fail_pat : Phi (c+1) 8 [.inst 2 [v]] μ = .ret (.bool false) μ := by kernel_rfl!
theorem p_fail_del : Phi (c+1) 8 [.inst 3 [v]] μ = .ret (.bool false) μ := by kernel_rfl!
theorem p_fail_ref : Phi (c+1) 8 [.inst 5 [x, y, v]] μ = .ret (.bool false) μ := by kernel_rfl!
theorem p_fail_list (a : List V) : Phi (c+1) 8 [.list a] μ = .ret (.bool false) μ := by kernel_rfl!
theorem p_pat_pat (l : List V) : Phi (c+1) 27 [.inst 2 [.tup l]] μ = .ret (.tup l) μ := by kernel_rfl!
theorem p_pat_del (l : List V) : Phi (c+1) 27 [.inst 3 [.tup l]] μ = .ret (.tup [str "delay", .tup l]) μ := by kernel_rfl!
theorem p_pat_str (s : Str) : Phi (c+3) 27 [.str s] μ = .ret (.tup [str "chars", .str s]) μ := by kernel_rfl!
theorem p_text_int (i : Int) : Phi (c+1) 16 [.int i] μ = bindR (Phi c 14 [.int i] μ) Res.ret := by kernel_rfl!
theorem p_text_str (s : Str) : Phi (c+1) 16 [.str s] μ = .ret (.str s) μ := by kernel_rfl!
theorem p_text_pat : Phi (c+1) 16 [.inst 2 [v]] μ = .ret .none μ := by kernel_rfl!
theorem p_text_del : Phi (c+1) 16 [.inst 3 [v]] μ = .ret .none μ := by kernel_rfl!
theorem p_text_ref : Phi (c+1) 16 [.inst 5 [x, y, v]] μ = .ret .none μ := by kernel_rfl!
theorem p_either (x y : V) : Phi (c+1) 26 [x, y] μ = .ret (.tup [str "alt", x, y]) μ := by kernel_rfl!
theorem p_later (x y : V) : Phi (c+1) 22 [x, y] μ = .ret (.tup [str "later", x, y]) μ := by kernel_rfl!
theorem p_now (x y : V) : Phi (c+1) 23 [x, y] μ = .ret (.tup [str "now", x, y]) μ := by kernel_rfl!
theorem p_cursor (x : V) : Phi (c+1) 24 [x] μ = .ret (.tup [str "cursor", x]) μ := by kernel_rfl!
theorem p_name_name (x : V) : Phi (c+1) 43 [.tup [str "name", x], h] μ = .ret (.inst 5 [str "var", .none, x]) μ := by kernel_rfl!
end
end Mine

end

section
namespace Mine
open PySem
section
variable (c : Nat) (h l r t v w x y g wd : V) (μ : Mu) (lg : V)
/-! the law's side; told = (how, what) -/
theorem q_leaf_text (s : Str) : Phi (c+2) 60 [.tup [str "text", .str s], .dict [] [], lg] μ = .ret (.tup [str "value", .str s]) μ := by kernel_rfl!
noncomputable abbrev lawVals : List V := [.int 5, str "12", .tup [str "pattern", .tup [str "len", .int 2]], .tup [str "name", str "N"]]
noncomputable abbrev lawNs : List Str := [Str.ofString "N", Str.ofString "S", Str.ofString "P", Str.ofString "R"]
noncomputable abbrev lawW : V := .dict lawNs lawVals
theorem q_null : Phi (c+2) 60 [.tup [str "null"], lawW, lg] μ = .ret (.tup [str "value", str ""]) μ := by kernel_rfl!
theorem q_whole (i : Int) : Phi (c+2) 60 [.tup [str "whole", .int i], lawW, lg] μ = .ret (.tup [str "value", .int i]) μ := by kernel_rfl!
theorem q_name_N : Phi (c+2) 60 [.tup [str "name", str "N"], lawW, lg] μ = .ret (.tup [str "value", .int 5]) μ := by kernel_rfl!
theorem q_name_P : Phi (c+2) 60 [.tup [str "name", str "P"], lawW, lg] μ = .ret (.tup [str "value", .tup [str "pattern", .tup [str "len", .int 2]]]) μ := by kernel_rfl!
theorem q_name_NONE : Phi (c+2) 60 [.tup [str "name", str "NONE"], lawW, lg] μ = .ret (.tup [str "value", str ""]) μ := by kernel_rfl!
noncomputable abbrev tv (t : V) (μ : Mu) (k : V → Res) : Res := match itemV μ t (.int 0) with
  | some hw => (match neT μ hw (str "value") with
    | some true => .ret t μ
    | some false => (match itemV μ t (.int 1) with | some u => k u | none => .stuck)
    | none => .stuck)
  | none => .stuck
theorem q_join : Phi (c+1) 60 [.tup [str "join", l, r], lawW, lg] μ = bindR (Phi c 60 [l, lawW, lg] μ) fun t μ => tv t μ fun a => bindR (Phi c 60 [r, lawW, lg] μ) fun t μ => tv t μ fun b => bindR (Phi c 55 [a, b] μ) Res.ret := by kernel_rfl!
theorem q_plus : Phi (c+1) 60 [.tup [str "binary", str "+", l, r], lawW, lg] μ = bindR (Phi c 60 [l, lawW, lg] μ) fun t μ => tv t μ fun a => bindR (Phi c 60 [r, lawW, lg] μ) fun t μ => tv t μ fun b => bindR (Phi c 56 [str "+", a, b] μ) Res.ret := by kernel_rfl!
theorem q_call2 : Phi (c+1) 60 [.tup [str "call", x, .tup [l, r]], lawW, lg] μ = bindR (Phi c 60 [l, lawW, lg] μ) fun t μ => tv t μ fun a => bindR (Phi c 60 [r, lawW, lg] μ) fun t μ => tv t μ fun b => bindR (Phi c 59 [x, .list [a, b], lg] μ) Res.ret := by kernel_rfl!
end
end Mine

end

section
namespace Mine
open PySem
section
variable (c : Nat) (h l r t v w x y g wd : V) (μ : Mu) (lg : V)
theorem q_minus : Phi (c+1) 60 [.tup [str "binary", str "-", l, r], lawW, lg] μ = bindR (Phi c 60 [l, lawW, lg] μ) fun t μ => tv t μ fun a => bindR (Phi c 60 [r, lawW, lg] μ) fun t μ => tv t μ fun b => bindR (Phi c 56 [str "-", a, b] μ) Res.ret := by kernel_rfl!
theorem q_dot : Phi (c+1) 60 [.tup [str "binary", str ".", l, r], lawW, lg] μ = bindR (Phi c 60 [l, lawW, lg] μ) fun t μ => tv t μ fun a => bindR (Phi c 57 [r, lawW, lg] μ) fun t μ => tv t μ fun b => bindR (Phi c 53 [a] μ) fun n μ => match cmpV .Is n .none μ with
    | some true => .ret (.tup [str "error", .int 1]) μ
    | some false => (match itemV μ b (.int 1) with | some q => .ret (.tup [str "value", .tup [str "pattern", .tup [str "later", n, q]]]) μ | none => .stuck)
    | none => .stuck := by kernel_rfl!
theorem q_call1 : Phi (c+1) 60 [.tup [str "call", x, .tup [l]], lawW, lg] μ = bindR (Phi c 60 [l, lawW, lg] μ) fun t μ => tv t μ fun a => bindR (Phi c 59 [x, .list [a], lg] μ) Res.ret := by kernel_rfl!
theorem q_call0 : Phi (c+1) 60 [.tup [str "call", x, .tup []], lawW, lg] μ = bindR (Phi c 59 [x, .list [], lg] μ) Res.ret := by kernel_rfl!
theorem q_one_tilde : Phi (c+1) 58 [str "~", t, lawW, lg] μ = bindR (Phi c 60 [t, lawW, lg] μ) fun u μ => match itemV μ u (.int 0) with
    | some hw => (match eqT μ hw (str "error") with
      | some true => .ret u μ
      | some false => (match itemV μ u (.int 0) with
        | some hw => (match eqT μ hw (str "fail") with | some true => .ret (.tup [str "value", str ""]) μ | some false => .ret (.tup [str "fail", .none]) μ | none => .stuck)
        | none => .stuck)
      | none => .stuck)
    | none => .stuck := by kernel_rfl!
theorem q_name_name (x : V) : Phi (c+1) 57 [.tup [str "name", x], lawW, lg] μ = .ret (.tup [str "value", .tup [str "name", x]]) μ := by kernel_rfl!
theorem q_node_str (s : Str) : Phi (c+1) 53 [.str s] μ = .ret (.tup [str "chars", .str s]) μ := by kernel_rfl!
theorem q_node_int (i : Int) : Phi (c+1) 53 [.int i] μ = bindR (Phi c 52 [.int i] μ) fun s μ => .ret (.tup [str "chars", s]) μ := by kernel_rfl!
theorem q_node_pat (n : List V) : Phi (c+1) 53 [.tup [str "pattern", .tup n]] μ = .ret (.tup n) μ := by kernel_rfl!
theorem q_node_del (n : List V) : Phi (c+1) 53 [.tup [str "delayed", .tup n]] μ = .ret (.tup [str "delay", .tup n]) μ := by kernel_rfl!
theorem q_node_ref (n : V) : Phi (c+1) 53 [.tup [str "name", n]] μ = .ret .none μ := by kernel_rfl!
end
end Mine

end

section
namespace Mine
open PySem
noncomputable abbrev hkV (i : Nat) : V := .inst 7 [.dict lawNs [.int 5, str "12", .inst 2 [.tup [str "len", .int 2]], .inst 5 [str "var", .none, str "N"]], .dict [Str.ofString "F", Str.ofString "G", Str.ofString "H"] [.fn 63, .fn 103, .fn 104], .int 16, .int 12, .cell i]
section
variable (c i : Nat) (h l r t v w x y g wd : V) (μ : Mu) (lg : V)
theorem p_name_N : Phi (c+2) 41 [.tup [str "name", str "N"], hkV i] μ = .ret (.int 5) μ := by kernel_rfl!
theorem p_name_P : Phi (c+2) 41 [.tup [str "name", str "P"], hkV i] μ = .ret (.inst 2 [.tup [str "len", .int 2]]) μ := by kernel_rfl!
theorem p_name_NONE : Phi (c+2) 41 [.tup [str "name", str "NONE"], hkV i] μ = .ret (str "") μ := by kernel_rfl!
theorem p_join_int_int (a b : Int) : Phi (c+3) 35 [hkV i, .int a, .int b] μ = bindR (Phi (c+2) 16 [.int a] μ) fun p μ => bindR (Phi (c+2) 16 [.int b] μ) fun q μ => match binV .Add p q with
   | some z => bindR (Phi (c+2) 29 [hkV i, z] μ) Res.ret
   | none => .stuck := by kernel_rfl!
theorem p_call_nope (a : V) : Phi (c+1) 102 [hkV i, str "NOPE", a] μ = .exc 5 μ := by kernel_rfl!
theorem p_bin_plus (a b : V) : Phi (c+1) 37 [hkV i, str "+", a, b] μ = bindR (Phi c 17 [a, .int 16] μ) fun x μ => bindR (Phi c 17 [b, .int 16] μ) fun y μ => bindR (Phi c 33 [str "+", x, y, .int 16] μ) Res.ret := by kernel_rfl!
theorem p_bin_hash (a b : V) : Phi (c+1) 37 [hkV i, str "#", a, b] μ = .exc 5 μ := by kernel_rfl!
theorem p_need_int (a : Int) : Phi (c+2) 17 [.int a, .int 16] μ = .ret (.int a) μ := by kernel_rfl!
theorem p_need_pat (a : V) : Phi (c+2) 17 [.inst 2 [a], .int 16] μ = .exc 1 μ := by kernel_rfl!
theorem p_need_str (s : Str) : Phi (c+1) 17 [.str s, .int 16] μ = bindR (Phi c 15 [.str s, .int 16] μ) fun n μ => match cmpV .Is n .none μ with | some true => .exc 1 μ | some false => .ret n μ | none => .stuck := by kernel_rfl!
theorem p_to_str (s : Str) : Phi (c+1) 15 [.str s, .int 16] μ = bindR (Phi c 13 [.str s, .int 16] μ) Res.ret := by kernel_rfl!
theorem p_plus_int (a b : Int) : Phi (c+2) 33 [str "+", .int a, .int b, .int 16] μ = bindR (Phi (c+1) 18 [.int (a + b), .int 16] μ) Res.ret := by kernel_rfl!
end
end Mine

end

section
namespace Mine
open PySem
noncomputable def whileT (s : Option Stmt) : PySem.Expr := match s with | some (.While t _ _ _) => t | _ => .Name (Str.ofString "") ⟨0, 0, 0, 0⟩
noncomputable def whileB (s : Option Stmt) : List Stmt := match s with | some (.While _ b _ _) => b | _ => []
noncomputable def f14 : Fn := (fnInfo 14).getD ⟨[], [], []⟩
noncomputable def cx14 (c : Nat) : Cx := topCx f14.kinds (Phi c)
noncomputable def tw (c k : Nat) (n : V) (left found : V) (μ : Mu) : Res := evWhile (evC 58) (cx14 c) (whileT (stAt f14.body 1)) (fun ρ μ k => evS 58 (cx14 c) ρ (whileB (stAt f14.body 1)) μ k) k [(Str.ofString "number", .val n), (Str.ofString "left", .val left), (Str.ofString "found", .val found)] μ
  fun ρ μ => evS 58 (cx14 c) ρ (f14.body.drop 2) μ fun u9 μ => .ret .none μ
noncomputable abbrev orR (o : Option V) (k : V → Res) : Res := match o with | some v => k v | none => .stuck
noncomputable abbrev iteR (o : Option Bool) (t e : Res) : Res := match o with | some b => (match b with | true => t | false => e) | none => .stuck
noncomputable abbrev twx (a : Int) (s : Str) (μ : Mu) : Res := iteR (cmpV .Lt (.int a) (.int 0) μ) (orR (binV .Add (str "-") (.str s)) fun v => .ret v μ) (.ret (.str s) μ)
section
variable (c k : Nat) (n v : V) (μ : Mu)
noncomputable abbrev twB (c k : Nat) (a : Int) (m : Nat) (s : Str) (μ : Mu) : Res := match Nat.blt (48 + (m+1) % 10) 128 with
   | true => orR (binV .Add (.str (ch (48 + (m+1) % 10))) (.str s)) fun v => tw c k (.int a) (.int (Int.ofNat ((m+1) / 10))) v μ
   | false => .stuck
theorem tw_step (s : Str) (m : Nat) (a : Int) : tw c (k+1) (.int a) (.int (Int.ofNat (m+1))) (.str s) μ = iteR (cmpV .Gt (.int (Int.ofNat (m+1))) (.int 0) μ) (twB c k a m s μ) (iteR (eqT μ (.str s) (str "")) (twB c k a m s μ) (twx a s μ)) := by kernel_rfl!
theorem tw_end (x : Nat) (l : List Nat) (a : Int) : tw c (k+1) (.int a) (.int (Int.ofNat 0)) (.str ⟨⟨x :: l⟩⟩) μ = twx a ⟨⟨x :: l⟩⟩ μ := by kernel_rfl!
theorem tw_zero (a : Int) : tw c (k+1) (.int a) (.int (Int.ofNat 0)) (.str (Str.ofString "")) μ = tw c k (.int a) (.int (Int.ofNat 0)) (.str ⟨⟨[48]⟩⟩) μ := by kernel_rfl!
theorem tw_in (a : Int) : Phi (c+1) 14 [.int a] μ = tw c 58 (.int a) (.int (Int.ofNat a.natAbs)) (.str (Str.ofString "")) μ := by kernel_rfl!
end
noncomputable def dg (m : Nat) : List Nat := (Nat.toDigits 10 m).map Char.toNat
theorem dig_sign : ∀ d, d < 10 → (Nat.digitChar d).toNat = 48 + d := by decide
theorem dg_small {m : Nat} (h : m < 10) : dg m = [48 + m] := by
  unfold dg
  rw [Nat.toDigits_of_lt_base h, List.map_cons, dig_sign m h, List.map_nil]
theorem dg_big {m : Nat} (h : 10 ≤ m) : dg m = dg (m / 10) ++ [48 + m % 10] := by
  unfold dg
  rw [Nat.toDigits_of_base_le (by lia) h, List.map_append, List.map_cons, dig_sign _ (Nat.mod_lt _ (by lia)), List.map_nil]
theorem shown_dg (m : Nat) : shownNat m = ⟨⟨dg m⟩⟩ := by
  unfold shownNat
  rw [Str.ofString_eq_toList]
  show (⟨⟨((Nat.repr m).toList.map Char.toNat)⟩⟩ : Str) = _
  rw [Nat.toList_repr]
  rfl
theorem dg_length {m k : Nat} (hk : 0 < k) (h : m < 10 ^ k) : (dg m).length ≤ k := by
  unfold dg
  rw [List.length_map]
  exact (Nat.length_toDigits_le_iff (by lia) hk).2 h
theorem dg_ne (m : Nat) : dg m ≠ [] := by
  unfold dg
  intro h
  exact Nat.toDigits_ne_nil (List.map_eq_nil_iff.1 h)
theorem str_app (a b : List Nat) : ((⟨⟨a⟩⟩ : Str) ++ ⟨⟨b⟩⟩ : Str) = ⟨⟨a ++ b⟩⟩ := by
  show (⟨(⟨a⟩ : Array Nat) ++ ⟨b⟩⟩ : Str) = _
  rw [← Array.toList_inj.1 (show ((⟨a⟩ : Array Nat) ++ ⟨b⟩).toList = (⟨a ++ b⟩ : Array Nat).toList by simp)]
theorem tw_run (c : Nat) (a : Int) (μ : Mu) : ∀ (k m : Nat) (l : List Nat), m < 10 ^ k → l.length + k ≤ 1000 → 0 < m → tw c (k + 1) (.int a) (.int (Int.ofNat m)) (.str ⟨⟨l⟩⟩) μ = twx a ⟨⟨dg m ++ l⟩⟩ μ
  | 0, m, l, hm, _, h0 => by simp at hm; lia
  | k + 1, m, l, hm, hl, h0 => by
    obtain ⟨q, rfl⟩ : ∃ q, m = q + 1 := ⟨m - 1, by lia⟩
    rw [tw_step]
    have e1 : cmpV .Gt (.int (Int.ofNat (q+1))) (.int 0) μ = some true := congrArg some (decide_eq_true (by show (0 : Int) < Int.ofNat (q + 1); exact Int.natCast_pos.2 (Nat.succ_pos q)))
    have e2 : Nat.blt (48 + (q+1) % 10) 128 = true := Nat.ble_eq_true_of_le (by lia)
    have e3 : binV .Add (.str (ch (48 + (q+1) % 10))) (.str ⟨⟨l⟩⟩) = some (.str ⟨⟨(48 + (q+1) % 10) :: l⟩⟩) := by
      have : Nat.ble ((ch (48 + (q+1) % 10)).length + (⟨⟨l⟩⟩ : Str).length) 100000 = true := Nat.ble_eq_true_of_le (by show 1 + l.length ≤ 100000; lia)
      show (match Nat.ble ((ch (48 + (q+1) % 10)).length + (⟨⟨l⟩⟩ : Str).length) 100000 with | true => some (V.str (ch (48 + (q+1) % 10) ++ (⟨⟨l⟩⟩ : Str))) | false => none) = _
      rw [this]
      exact congrArg (fun s => some (V.str s)) (str_app [48 + (q+1) % 10] l)
    rw [e1]
    show twB c (k+1) a q _ μ = _
    unfold twB
    rw [e2, e3]
    show tw c (k + 1) (.int a) (.int (Int.ofNat ((q+1) / 10))) (.str ⟨⟨(48 + (q+1) % 10) :: l⟩⟩) μ = _
    by_cases h : q + 1 < 10
    · have e4 : (q + 1) / 10 = 0 := by lia
      have e5 : (q + 1) % 10 = q + 1 := by lia
      rw [e4, tw_end, dg_small h, e5]
      rfl
    · have e4 : (q + 1) / 10 < 10 ^ k := by
        rw [Nat.pow_succ] at hm
        lia
      rw [tw_run c a μ k ((q + 1) / 10) _ e4 (by simp; lia) (by lia), dg_big (m := q + 1) (by lia), List.append_assoc]
      rfl
noncomputable def sg (a : Int) : List Nat := match decide (a < 0) with | true => 45 :: dg a.natAbs | false => dg a.natAbs
theorem twx_is (a : Int) (h : a.natAbs < 10 ^ 12) (μ : Mu) : twx a ⟨⟨dg a.natAbs⟩⟩ μ = .ret (.str ⟨⟨sg a⟩⟩) μ := by
  have hl := dg_length (by lia) h
  have e3 : binV .Add (str "-") (.str ⟨⟨dg a.natAbs⟩⟩) = some (.str ⟨⟨45 :: dg a.natAbs⟩⟩) := by
    have : Nat.ble ((Str.ofString "-").length + (⟨⟨dg a.natAbs⟩⟩ : Str).length) 100000 = true := Nat.ble_eq_true_of_le (by show 1 + (dg a.natAbs).length ≤ 100000; lia)
    show (match Nat.ble ((Str.ofString "-").length + (⟨⟨dg a.natAbs⟩⟩ : Str).length) 100000 with | true => some (V.str (Str.ofString "-" ++ (⟨⟨dg a.natAbs⟩⟩ : Str))) | false => none) = _
    rw [this]
    exact congrArg (fun s => some (V.str s)) (str_app [45] (dg a.natAbs))
  unfold twx sg
  rw [e3]
  show iteR (some (decide (a < 0))) _ _ = _
  cases decide (a < 0) <;> rfl
theorem p_text_of (c : Nat) (a : Int) (h : a.natAbs < 10 ^ 12) (μ : Mu) : Phi (c+1) 14 [.int a] μ = .ret (.str ⟨⟨sg a⟩⟩) μ := by
  rw [tw_in, ← twx_is a h μ]
  by_cases h0 : a.natAbs = 0
  · rw [h0, tw_zero, tw_end]
    rfl
  · have := tw_run c a μ 57 a.natAbs [] (Nat.lt_of_lt_of_le h (by decide)) (by simp) (by lia)
    rw [List.append_nil] at this
    exact this
theorem q_shown0 (c : Nat) (a : Int) (μ : Mu) : Phi (c+1) 52 [.int a] μ = iteR (cmpV .Lt (.int a) (.int 0) μ) (typV "str" [.int (Int.ofNat a.natAbs)] μ fun w μ => orR (binV .Add (str "-") w) fun v => .ret v μ) (typV "str" [.int (Int.ofNat a.natAbs)] μ fun w μ => orR (binV .Add (str "") w) fun v => .ret v μ) := by kernel_rfl!
theorem q_shown (c : Nat) (a : Int) (h : a.natAbs < 10 ^ 12) (μ : Mu) : Phi (c+1) 52 [.int a] μ = .ret (.str ⟨⟨sg a⟩⟩) μ := by
  have hl := dg_length (by lia) h
  have e0 : Nat.blt a.natAbs (2 ^ 40) = true := Nat.ble_eq_true_of_le (by lia)
  have e1 : ∀ k, typV "str" [.int (Int.ofNat a.natAbs)] μ k = k (.str ⟨⟨dg a.natAbs⟩⟩) μ := fun k => by
    show (match Nat.blt a.natAbs (2 ^ 40) with | true => k (.str (shownNat a.natAbs)) μ | false => .stuck) = _
    rw [e0, shown_dg]
  rw [q_shown0, e1, e1, ← twx_is a h μ]
  have e3 : binV .Add (str "") (.str ⟨⟨dg a.natAbs⟩⟩) = some (.str ⟨⟨dg a.natAbs⟩⟩) := by
    have : Nat.ble ((Str.ofString "").length + (⟨⟨dg a.natAbs⟩⟩ : Str).length) 100000 = true := Nat.ble_eq_true_of_le (by show 0 + (dg a.natAbs).length ≤ 100000; lia)
    show (match Nat.ble ((Str.ofString "").length + (⟨⟨dg a.natAbs⟩⟩ : Str).length) 100000 with | true => some (V.str (Str.ofString "" ++ (⟨⟨dg a.natAbs⟩⟩ : Str))) | false => none) = _
    rw [this]
    exact congrArg (fun s => some (V.str s)) (str_app [] (dg a.natAbs))
  rw [e3]
end Mine

end

section
namespace Mine
open PySem
noncomputable def forB (s : Option Stmt) : List Stmt := match s with | some (.For _ _ b _ _) => b | _ => []
noncomputable def f13 : Fn := (fnInfo 13).getD ⟨[], [], []⟩
noncomputable def f51 : Fn := (fnInfo 51).getD ⟨[], [], []⟩
noncomputable def lpF (fn : Fn) (c n j : Nat) (L : List V) (ρ : Rho) (μ : Mu) : Res := loopL (fun v ρ => some (put (Str.ofString "sign") (.val v) ρ)) (fun ρ μ k => evS n (topCx fn.kinds (Phi c)) ρ (forB (stAt fn.body j)) μ k) L ρ μ
  fun ρ μ => evS n (topCx fn.kinds (Phi c)) (frozen ρ) (fn.body.drop (j+1)) μ fun u9 μ => .ret .none μ
noncomputable abbrev sgn (l : List Nat) : List V := l.map fun x => .str (ch x)
noncomputable abbrev r13 (T D N : V) : Rho := [(Str.ofString "text", .val T), (Str.ofString "width", .val (.int 16)), (Str.ofString "digits", .val D), (Str.ofString "number", .val N)]
noncomputable abbrev r51 (T D N : V) : Rho := [(Str.ofString "value", .val T), (Str.ofString "found", .val N), (Str.ofString "digits", .val D)]
noncomputable abbrev sr (S : V) : Rho := [(Str.ofString "sign", .val S)]
noncomputable abbrev l13 (c : Nat) (l : List Nat) (ρ : Rho) (μ : Mu) := lpF f13 c 55 4 (sgn l) ρ μ
noncomputable abbrev l51 (c : Nat) (l : List Nat) (ρ : Rho) (μ : Mu) := lpF f51 c 56 3 (sgn l) ρ μ
section
variable (c : Nat) (T D : V) (N : Int) (μ : Mu) (x : Nat) (l : List Nat)
noncomputable abbrev w13 (x : Nat) (N : Int) (μ : Mu) (k : V → Res) : Res := match Nat.ble 48 x with
  | true => (match !(Nat.ble x 57) with
    | true => .ret .none μ
    | false => orR (binV .Mult (.int 10) (.int N)) fun v => orR (binV .Add v (.int (Int.ofNat x))) fun v => orR (binV .Sub v (.int 48)) k)
  | false => .ret .none μ
theorem l13_first : l13 c (x :: l) (r13 T D (.int N)) μ = w13 x N μ fun v => l13 c l (r13 T D v ++ sr (.str (ch x))) μ := by kernel_rfl!
theorem l13_next (S : V) : l13 c (x :: l) (r13 T D (.int N) ++ sr S) μ = w13 x N μ fun v => l13 c l (r13 T D v ++ sr (.str (ch x))) μ := by kernel_rfl!
noncomputable abbrev w51 (x : Nat) (N : Int) (μ : Mu) (k : V → Res) : Res := match !(isIn x [48, 49, 50, 51, 52, 53, 54, 55, 56, 57]) with
  | true => .ret .none μ
  | false => orR (binV .Mult (.int N) (.int 10)) fun v => indexV (str "0123456789") [.str (ch x)] μ fun w μ => orR (binV .Add v w) k
theorem l51_first : l51 c (x :: l) (r51 T D (.int N)) μ = w51 x N μ fun v => l51 c l (r51 T D v ++ sr (.str (ch x))) μ := by kernel_rfl!
theorem l51_next (S : V) : l51 c (x :: l) (r51 T D (.int N) ++ sr S) μ = w51 x N μ fun v => l51 c l (r51 T D v ++ sr (.str (ch x))) μ := by kernel_rfl!
noncomputable abbrev fit (n : Int) (μ : Mu) : Res := iteR (cmpV .LtE (.int (-32768)) (.int n) μ) (iteR (cmpV .Lt (.int n) (.int 32768) μ) (.ret (.int n) μ) (.ret .none μ)) (.ret .none μ)
theorem p_fits (n : Int) : Phi (c+1) 12 [.int n, .int 16] μ = (match decide (-32768 ≤ n) with | true => .ret (.bool (decide (n < 32768))) μ | false => .ret (.bool false) μ) := by kernel_rfl!
noncomputable abbrev e13 (c : Nat) (n : Int) (μ : Mu) : Res := bindR (Phi c 12 [.int n, .int 16] μ) fun b μ => tst b (.ret (.int n) μ) (.ret .none μ)
theorem l13_end (y : Nat) (r : List Nat) (S : V) : l13 c [] (r13 (.str ⟨⟨y :: r⟩⟩) D (.int N) ++ sr S) μ = iteR (eqT μ (.str (ch y)) (str "-")) (e13 c (-N) μ) (e13 c N μ) := by kernel_rfl!
noncomputable abbrev e51 (D : V) (n : Int) (μ : Mu) : Res := iteR (neT μ D (str "")) (iteR (cmpV .LtE (.int (-32768)) (.int n) μ) (iteR (cmpV .LtE (.int n) (.int 32767) μ) (.ret (.int n) μ) (.ret .none μ)) (.ret .none μ)) (.ret .none μ)
theorem l51_end (y : Nat) (r : List Nat) (S : V) : l51 c [] (r51 (.str ⟨⟨y :: r⟩⟩) D (.int N) ++ sr S) μ = iteR (eqT μ (.str (ch y)) (str "-")) (e51 D (0 - N) μ) (e51 D N μ) := by kernel_rfl!
theorem l51_none (y : Nat) (r : List Nat) : l51 c [] (r51 (.str ⟨⟨y :: r⟩⟩) (str "") (.int 0)) μ = iteR (eqT μ (.str (ch y)) (str "-")) (.ret .none μ) (.ret .none μ) := by kernel_rfl!
theorem p_whole_nil : Phi (c+1) 13 [.str ⟨⟨[]⟩⟩, .int 16] μ = .ret (.int 0) μ := by kernel_rfl!
theorem q_whole_nil : Phi (c+1) 51 [.str ⟨⟨[]⟩⟩] μ = .ret (.int 0) μ := by kernel_rfl!
theorem q_whole_int : Phi (c+1) 51 [.int N] μ = .ret (.int N) μ := by kernel_rfl!
noncomputable def d13 (c : Nat) (T D : V) (μ : Mu) : Res := evS 58 (topCx f13.kinds (Phi c)) [(Str.ofString "text", .val T), (Str.ofString "width", .val (.int 16)), (Str.ofString "digits", .val D)] (f13.body.drop 2) μ fun u9 μ => .ret .none μ
noncomputable def d51 (c : Nat) (T D : V) (μ : Mu) : Res := evS 57 (topCx f51.kinds (Phi c)) (r51 T D (.int 0)) (f51.body.drop 3) μ fun u9 μ => .ret .none μ
theorem p_whole_cons : Phi (c+1) 13 [.str ⟨⟨x :: l⟩⟩, .int 16] μ = iteR (inV (.str (ch x)) (str "+-")) (orR (cutV (.str ⟨⟨x :: l⟩⟩) (some 1) none) fun d => d13 c (.str ⟨⟨x :: l⟩⟩) d μ) (d13 c (.str ⟨⟨x :: l⟩⟩) (.str ⟨⟨x :: l⟩⟩) μ) := by kernel_rfl!
theorem q_whole_cons : Phi (c+1) 51 [.str ⟨⟨x :: l⟩⟩] μ = iteR (inV (.str (ch x)) (str "+-")) (orR (cutV (.str ⟨⟨x :: l⟩⟩) (some 1) none) fun d => d51 c (.str ⟨⟨x :: l⟩⟩) d μ) (d51 c (.str ⟨⟨x :: l⟩⟩) (.str ⟨⟨x :: l⟩⟩) μ) := by kernel_rfl!
theorem d13_nil : d13 c T (.str ⟨⟨[]⟩⟩) μ = .ret .none μ := by kernel_rfl!
theorem d13_cons : d13 c T (.str ⟨⟨x :: l⟩⟩) μ = (match Nat.ble (⟨⟨x :: l⟩⟩ : Str).length 100000 with | true => iteR (cmpV .Gt (toI (⟨⟨x :: l⟩⟩ : Str).length) (.int 16) μ) (.ret .none μ) (l13 c (x :: l) (r13 T (.str ⟨⟨x :: l⟩⟩) (.int 0)) μ) | false => .stuck) := by kernel_rfl!
theorem d51_is : d51 c T (.str ⟨⟨l⟩⟩) μ = l51 c l (r51 T (.str ⟨⟨l⟩⟩) (.int 0)) μ := by kernel_rfl!
end
noncomputable def prs : List Nat → Int → Option Int
  | [], N => some N
  | x :: l, N => match Nat.ble 48 x && Nat.ble x 57 with | true => prs l (10 * N + Int.ofNat x - 48) | false => none
theorem dig_in (x : Nat) : isIn x [48, 49, 50, 51, 52, 53, 54, 55, 56, 57] = (Nat.ble 48 x && Nat.ble x 57) ∧ ((Nat.ble 48 x && Nat.ble x 57) = true → indexL x [48, 49, 50, 51, 52, 53, 54, 55, 56, 57] 0 = some (x - 48)) := by
  by_cases h : x < 58
  · have : ∀ x, x < 58 → isIn x [48, 49, 50, 51, 52, 53, 54, 55, 56, 57] = (Nat.ble 48 x && Nat.ble x 57) ∧ ((Nat.ble 48 x && Nat.ble x 57) = true → indexL x [48, 49, 50, 51, 52, 53, 54, 55, 56, 57] 0 = some (x - 48)) := by decide +kernel
    exact this x h
  · have hb : Nat.ble x 57 = false := by
      cases q : Nat.ble x 57 with
      | false => rfl
      | true => exact absurd (Nat.le_of_ble_eq_true q) (by omega)
    obtain ⟨y, rfl⟩ : ∃ y, x = y + 58 := ⟨x - 58, by omega⟩
    rw [hb, Bool.and_false]
    exact ⟨rfl, fun h => nomatch h⟩
theorem w13_is (x : Nat) (N : Int) (μ : Mu) (k : V → Res) (hN : N.natAbs < 10 ^ 12) : w13 x N μ k = (match Nat.ble 48 x && Nat.ble x 57 with | true => k (.int (10 * N + Int.ofNat x - 48)) | false => .ret .none μ) := by
  have e : binV .Mult (.int 10) (.int N) = some (.int (10 * N)) := by
    have : small N = true := decide_eq_true (Nat.lt_trans hN (by decide))
    show (match small 10, small N with | true, true => some (V.int (10 * N)) | _, _ => none) = _
    rw [this]
    rfl
  unfold w13
  rw [e]
  cases Nat.ble 48 x <;> cases Nat.ble x 57 <;> rfl
theorem w51_is (x : Nat) (N : Int) (μ : Mu) (k : V → Res) (hN : N.natAbs < 10 ^ 12) : w51 x N μ k = (match Nat.ble 48 x && Nat.ble x 57 with | true => k (.int (10 * N + Int.ofNat x - 48)) | false => .ret .none μ) := by
  have e : binV .Mult (.int N) (.int 10) = some (.int (N * 10)) := by
    have : small N = true := decide_eq_true (Nat.lt_trans hN (by decide))
    show (match small N, small 10 with | true, true => some (V.int (N * 10)) | _, _ => none) = _
    rw [this]
    rfl
  have ei : ∀ k, indexV (str "0123456789") [.str (ch x)] μ k = (match indexL x [48, 49, 50, 51, 52, 53, 54, 55, 56, 57] 0 with | some i => k (toI i) μ | none => .stuck) := fun k => by kernel_rfl!
  unfold w51
  rw [e, (dig_in x).1]
  cases h : (Nat.ble 48 x && Nat.ble x 57) with
  | false => rfl
  | true =>
    show indexV (str "0123456789") [.str (ch x)] μ _ = _
    rw [ei, (dig_in x).2 h]
    have h1 := Nat.le_of_ble_eq_true (Bool.and_eq_true_iff.1 h).1
    show k (.int (N * 10 + Int.ofNat (x - 48))) = k (.int (10 * N + Int.ofNat x - 48))
    congr 2
    show N * 10 + ((x - 48 : Nat) : Int) = 10 * N + (x : Int) - 48
    omega
theorem next_ok {N : Int} {x k : Nat} (h0 : 0 ≤ N) (h1 : N < 10 ^ k) (hx : (Nat.ble 48 x && Nat.ble x 57) = true) : 0 ≤ 10 * N + Int.ofNat x - 48 ∧ 10 * N + Int.ofNat x - 48 < 10 ^ (k + 1) := by
  have a := Nat.le_of_ble_eq_true (Bool.and_eq_true_iff.1 hx).1
  have b := Nat.le_of_ble_eq_true (Bool.and_eq_true_iff.1 hx).2
  show 0 ≤ 10 * N + (x : Int) - 48 ∧ 10 * N + (x : Int) - 48 < 10 ^ (k + 1)
  rw [Int.pow_succ]
  omega
theorem natAbs_ok {N : Int} {k : Nat} (h0 : 0 ≤ N) (h1 : N < 10 ^ k) (hk : k ≤ 12) : N.natAbs < 10 ^ 12 := by
  have : (10 : Int) ^ k ≤ 10 ^ 12 := by
    have := Nat.pow_le_pow_right (n := 10) (by omega) hk
    exact_mod_cast this
  omega
theorem l13_run (c : Nat) (y : Nat) (r : List Nat) (D : V) (μ : Mu) : ∀ (l : List Nat) (N : Int) (S : V) (k : Nat), 0 ≤ N → N < 10 ^ k → l.length + k ≤ 12 →
    l13 c l (r13 (.str ⟨⟨y :: r⟩⟩) D (.int N) ++ sr S) μ = (match prs l N with | some n => iteR (eqT μ (.str (ch y)) (str "-")) (e13 c (-n) μ) (e13 c n μ) | none => .ret .none μ)
  | [], N, S, k, _, _, _ => l13_end ..
  | x :: l, N, S, k, h0, h1, hl => by
    have hl' : l.length + 1 + k ≤ 12 := hl
    rw [l13_next, w13_is _ _ _ _ (natAbs_ok h0 h1 (by omega))]
    unfold prs
    cases h : (Nat.ble 48 x && Nat.ble x 57) with
    | false => rfl
    | true => exact l13_run c y r D μ l _ _ (k + 1) (next_ok h0 h1 h).1 (next_ok h0 h1 h).2 (by omega)
theorem l51_run (c : Nat) (y : Nat) (r : List Nat) (D : V) (μ : Mu) : ∀ (l : List Nat) (N : Int) (S : V) (k : Nat), 0 ≤ N → N < 10 ^ k → l.length + k ≤ 12 →
    l51 c l (r51 (.str ⟨⟨y :: r⟩⟩) D (.int N) ++ sr S) μ = (match prs l N with | some n => iteR (eqT μ (.str (ch y)) (str "-")) (e51 D (0 - n) μ) (e51 D n μ) | none => .ret .none μ)
  | [], N, S, k, _, _, _ => l51_end ..
  | x :: l, N, S, k, h0, h1, hl => by
    have hl' : l.length + 1 + k ≤ 12 := hl
    rw [l51_next, w51_is _ _ _ _ (natAbs_ok h0 h1 (by omega))]
    unfold prs
    cases h : (Nat.ble 48 x && Nat.ble x 57) with
    | false => rfl
    | true => exact l51_run c y r D μ l _ _ (k + 1) (next_ok h0 h1 h).1 (next_ok h0 h1 h).2 (by omega)
noncomputable def inB (n : Int) : Prop := -32768 ≤ n ∧ n ≤ 32767
noncomputable def WholeO : V → Prop
  | .none => True
  | .int n => inB n
  | _ => False
theorem e13_is (c : Nat) (n : Int) (μ : Mu) : e13 (c+1) n μ = .ret (match decide (-32768 ≤ n ∧ n ≤ 32767) with | true => .int n | false => .none) μ := by
  unfold e13
  rw [p_fits]
  by_cases h1 : -32768 ≤ n
  · by_cases h2 : n < 32768
    · rw [decide_eq_true h1, decide_eq_true h2, decide_eq_true (show -32768 ≤ n ∧ n ≤ 32767 by omega)]; rfl
    · rw [decide_eq_true h1, decide_eq_false h2, decide_eq_false (show ¬(-32768 ≤ n ∧ n ≤ 32767) by omega)]; rfl
  · rw [decide_eq_false h1, decide_eq_false (show ¬(-32768 ≤ n ∧ n ≤ 32767) by omega)]; rfl
theorem e51_is (x : Nat) (l : List Nat) (n : Int) (μ : Mu) : e51 (.str ⟨⟨x :: l⟩⟩) n μ = .ret (match decide (-32768 ≤ n ∧ n ≤ 32767) with | true => .int n | false => .none) μ := by
  show iteR (some (decide (-32768 ≤ n))) (iteR (some (decide (n ≤ 32767))) (.ret (.int n) μ) (.ret .none μ)) (.ret .none μ) = _
  by_cases h1 : -32768 ≤ n
  · by_cases h2 : n ≤ 32767
    · rw [decide_eq_true h1, decide_eq_true h2, decide_eq_true (show -32768 ≤ n ∧ n ≤ 32767 by omega)]
    · rw [decide_eq_true h1, decide_eq_false h2, decide_eq_false (show ¬(-32768 ≤ n ∧ n ≤ 32767) by omega)]
  · rw [decide_eq_false h1, decide_eq_false (show ¬(-32768 ≤ n ∧ n ≤ 32767) by omega)]
theorem fitP (n : Int) : WholeO (match decide (-32768 ≤ n ∧ n ≤ 32767) with | true => .int n | false => .none) := by
  by_cases h : -32768 ≤ n ∧ n ≤ 32767
  · rw [decide_eq_true h]; exact h
  · rw [decide_eq_false h]; trivial
theorem d_same (x : Nat) (r l : List Nat) (hl : l.length ≤ 12) : ∃ o, WholeO o ∧ ∀ c μ, d13 (c+1) (.str ⟨⟨x :: r⟩⟩) (.str ⟨⟨l⟩⟩) μ = .ret o μ ∧ d51 (c+1) (.str ⟨⟨x :: r⟩⟩) (.str ⟨⟨l⟩⟩) μ = .ret o μ := by
  cases l with
  | nil =>
    refine iEA .none trivial (fun c μ => ⟨d13_nil .., ?_⟩)
    rw [d51_is]
    show l51 _ [] (r51 _ (str "") (.int 0)) μ = _
    rw [l51_none]
    show iteR (some (seq (ch x) (Str.ofString "-"))) _ _ = _
    cases seq (ch x) (Str.ofString "-") <;> rfl
  | cons y t =>
    have hl' : t.length + 1 ≤ 12 := hl
    have a : ∀ c μ, d13 (c+1) (.str ⟨⟨x :: r⟩⟩) (.str ⟨⟨y :: t⟩⟩) μ = l13 (c+1) (y :: t) (r13 (.str ⟨⟨x :: r⟩⟩) (.str ⟨⟨y :: t⟩⟩) (.int 0)) μ := fun c μ => by
      rw [d13_cons]
      have h1 : Nat.ble (⟨⟨y :: t⟩⟩ : Str).length 100000 = true := Nat.ble_eq_true_of_le (by show t.length + 1 ≤ 100000; omega)
      have h2 : cmpV .Gt (toI (⟨⟨y :: t⟩⟩ : Str).length) (.int 16) μ = some false := congrArg some (decide_eq_false (by show ¬((16 : Int) < ((t.length + 1 : Nat) : Int)); omega))
      rw [h1, h2]
    have b : ∀ c μ, d51 (c+1) (.str ⟨⟨x :: r⟩⟩) (.str ⟨⟨y :: t⟩⟩) μ = l51 (c+1) (y :: t) (r51 (.str ⟨⟨x :: r⟩⟩) (.str ⟨⟨y :: t⟩⟩) (.int 0)) μ := fun c μ => d51_is ..
    have z0 : (0 : Int).natAbs < 10 ^ 12 := by decide
    cases h : (Nat.ble 48 y && Nat.ble y 57) with
    | false =>
      refine iEA .none trivial (fun c μ => ⟨?_, ?_⟩)
      · rw [a, l13_first, w13_is _ _ _ _ z0, h]
      · rw [b, l51_first, w51_is _ _ _ _ z0, h]
    | true =>
      have ok := next_ok (k := 0) (Int.le_refl 0) (by decide) h
      have p : ∀ c μ, d13 (c+1) (.str ⟨⟨x :: r⟩⟩) (.str ⟨⟨y :: t⟩⟩) μ = (match prs t (10 * 0 + Int.ofNat y - 48) with | some n => iteR (eqT μ (.str (ch x)) (str "-")) (e13 (c+1) (-n) μ) (e13 (c+1) n μ) | none => .ret .none μ) := fun c μ => by
        rw [a, l13_first, w13_is _ _ _ _ z0, h]
        exact l13_run _ x r _ μ t _ _ 1 ok.1 ok.2 (by omega)
      have q : ∀ c μ, d51 (c+1) (.str ⟨⟨x :: r⟩⟩) (.str ⟨⟨y :: t⟩⟩) μ = (match prs t (10 * 0 + Int.ofNat y - 48) with | some n => iteR (eqT μ (.str (ch x)) (str "-")) (e51 (.str ⟨⟨y :: t⟩⟩) (0 - n) μ) (e51 (.str ⟨⟨y :: t⟩⟩) n μ) | none => .ret .none μ) := fun c μ => by
        rw [b, l51_first, w51_is _ _ _ _ z0, h]
        exact l51_run _ x r _ μ t _ _ 1 ok.1 ok.2 (by omega)
      cases hp : prs t (10 * 0 + Int.ofNat y - 48) with
      | none =>
        rw [hp] at p q
        exact iEA .none trivial (fun c μ => ⟨p c μ, q c μ⟩)
      | some n =>
        rw [hp] at p q
        cases hs : seq (ch x) (Str.ofString "-") with
        | true =>
          refine iEA _ (fitP (-n)) (fun c μ => ⟨?_, ?_⟩)
          · rw [p]
            show iteR (some (seq (ch x) (Str.ofString "-"))) (e13 (c+1) (-n) μ) (e13 (c+1) n μ) = _
            rw [hs, e13_is]
          · rw [q]
            show iteR (some (seq (ch x) (Str.ofString "-"))) _ _ = _
            rw [hs, e51_is, Int.zero_sub]
        | false =>
          refine iEA _ (fitP n) (fun c μ => ⟨?_, ?_⟩)
          · rw [p]
            show iteR (some (seq (ch x) (Str.ofString "-"))) (e13 (c+1) (-n) μ) (e13 (c+1) n μ) = _
            rw [hs, e13_is, e13_is]
          · rw [q]
            show iteR (some (seq (ch x) (Str.ofString "-"))) _ _ = _
            rw [hs, e51_is, e51_is]
theorem whole_same (l : List Nat) (hl : l.length ≤ 12) : ∃ o, WholeO o ∧ ∀ c μ, Phi (c+2) 13 [.str ⟨⟨l⟩⟩, .int 16] μ = .ret o μ ∧ Phi (c+2) 51 [.str ⟨⟨l⟩⟩] μ = .ret o μ := by
  cases l with
  | nil => exact ⟨.int 0, by show inB 0; unfold inB; omega, fun c μ => ⟨p_whole_nil .., q_whole_nil ..⟩⟩
  | cons x r =>
    have hl' : r.length + 1 ≤ 12 := hl
    have ec : cutV (.str ⟨⟨x :: r⟩⟩) (some 1) none = some (.str ⟨⟨r⟩⟩) := by
      have : Nat.ble (⟨⟨x :: r⟩⟩ : Str).length 100000 = true := Nat.ble_eq_true_of_le (by show r.length + 1 ≤ 100000; omega)
      show (match Nat.ble (⟨⟨x :: r⟩⟩ : Str).length 100000 with | true => some (V.str ⟨((x :: r).drop 1).toArray⟩) | false => none) = _
      rw [this]
      rfl
    refine eEA (d_same x r r (by omega)) fun o1 w1 s1 => ?_
    refine eEA (d_same x r (x :: r) hl) fun o2 w2 s2 => ?_
    have ei : inV (.str (ch x)) (str "+-") = some (isIn x [43, 45]) := by kernel_rfl!
    cases h : isIn x [43, 45] with
    | true =>
      refine iEA o1 w1 (fun c μ => ⟨?_, ?_⟩)
      · rw [p_whole_cons, ei, h, ec]; exact (s1 c μ).1
      · rw [q_whole_cons, ei, h, ec]; exact (s1 c μ).2
    | false =>
      refine iEA o2 w2 (fun c μ => ⟨?_, ?_⟩)
      · rw [p_whole_cons, ei, h]; exact (s2 c μ).1
      · rw [q_whole_cons, ei, h]; exact (s2 c μ).2
end Mine

end

section
namespace Mine
open PySem
inductive Nd where
  | chars (l : List Nat) | delay (t : List V) | cat (a b : Nd) | alt (a b : Nd) | later (n : Nd) (k : List Nat) | now (n : Nd) (k : List Nat) | cursor (k : List Nat) | len2
noncomputable abbrev sv (l : List Nat) : V := .str ⟨⟨l⟩⟩
noncomputable abbrev refV (k : List Nat) : V := .inst 5 [str "var", .none, sv k]
noncomputable def Nd.p : Nd → List V
  | chars l => [str "chars", sv l]
  | delay t => [str "delay", .tup t]
  | cat a b => [str "cat", .tup a.p, .tup b.p]
  | alt a b => [str "alt", .tup a.p, .tup b.p]
  | later n k => [str "later", .tup n.p, refV k]
  | now n k => [str "now", .tup n.p, refV k]
  | cursor k => [str "cursor", refV k]
  | len2 => [str "len", .int 2]
noncomputable def Nd.l : Nd → List V
  | chars l => [str "chars", sv l]
  | delay t => [str "delay", .tup t]
  | cat a b => [str "cat", .tup a.l, .tup b.l]
  | alt a b => [str "alt", .tup a.l, .tup b.l]
  | later n k => [str "later", .tup n.l, sv k]
  | now n k => [str "now", .tup n.l, sv k]
  | cursor k => [str "cursor", sv k]
  | len2 => [str "len", .int 2]
noncomputable def Nd.isC : Nd → Bool
  | chars _ => true
  | _ => false
noncomputable def Nd.nn : Nd → Bool
  | chars [] => false
  | _ => true
inductive Val where
  | int (i : Int) | str (l : List Nat) | pat (n : Nd) | del (t : List V) | ref (k : List Nat)
noncomputable def Val.P : Val → V
  | int i => .int i
  | str l => sv l
  | pat n => .inst 2 [.tup n.p]
  | del t => .inst 3 [.tup t]
  | ref k => refV k
noncomputable def Val.L : Val → V
  | int i => .int i
  | str l => sv l
  | pat n => .tup [Mine.str "pattern", .tup n.l]
  | del t => .tup [Mine.str "delayed", .tup t]
  | ref k => .tup [Mine.str "name", sv k]
inductive Out where
  | val (v : Val) | fail | err (n : Int)
noncomputable abbrev failV : V := .inst 1 []
noncomputable def Out.P : Out → Mu → Res
  | val v, μ => .ret v.P μ
  | fail, μ => .ret failV μ
  | err n, μ => .exc n μ
noncomputable def Out.L : Out → V
  | val v => .tup [str "value", v.L]
  | fail => .tup [str "fail", .none]
  | err n => .tup [str "error", .int n]
noncomputable def Val.nd : Val → Option Nd
  | int i => some (.chars (sg i))
  | str l => some (.chars l)
  | pat n => some n
  | del t => some (.delay t)
  | ref _ => none
noncomputable def Val.isNull : Val → Bool
  | str [] => true
  | _ => false
noncomputable def Val.plain : Val → Bool
  | int _ => true
  | str _ => true
  | _ => false
noncomputable def ShT (t : List V) : Prop := ∃ d, dataOf (.tup t) = some d ∧ d.showable = true ∧ d.depth ≤ 30 ∧ d.shown.length ≤ 3000
noncomputable def tok (l : List Nat) : Prop := l.length ≤ 12 ∧ ∀ x ∈ l, x < 256
noncomputable def Nd.ok : Nd → Prop
  | chars l => tok l
  | delay t => ShT t
  | cat a b => a.ok ∧ b.ok
  | alt a b => a.ok ∧ b.ok
  | later n k => n.ok ∧ tok k
  | now n k => n.ok ∧ tok k
  | cursor k => tok k
  | len2 => True
noncomputable def Nd.n : Nd → Nat
  | cat a b => a.n + b.n + 1
  | alt a b => a.n + b.n + 1
  | later n _ => n.n + 1
  | now n _ => n.n + 1
  | _ => 1
noncomputable def Val.n : Val → Nat
  | pat n => n.n
  | _ => 1
noncomputable def Out.n : Out → Nat
  | val v => v.n
  | _ => 1
noncomputable def Val.good : Val → Prop
  | int i => inB i
  | str l => tok l
  | pat n => n.isC = false ∧ n.ok
  | del t => ShT t
  | ref k => tok k
noncomputable def Out.good : Out → Prop
  | val v => v.good
  | fail => True
  | err n => Nat.ble n.natAbs 99 = true
theorem inB_abs {i : Int} (h : inB i) : i.natAbs < 10 ^ 12 := by
  unfold inB at h
  omega
theorem bR (v : V) (μ : Mu) (k : V → Mu → Res) : bindR (.ret v μ) k = k v μ := rfl
theorem bE (n : Int) (μ : Mu) (k : V → Mu → Res) : bindR (.exc n μ) k = .exc n μ := rfl
section
variable (c i : Nat) (h l r t v w x y g wd p q : V) (μ : Mu) (lg : V)
theorem p_pattern (v : Val) (hv : v.good) : Phi (c+4) 27 [v.P] μ = (match v.nd with | some n => .ret (.tup n.p) μ | none => .exc 1 μ) := by
  cases v with
  | int i =>
    have e : Phi (c+4) 27 [.int i] μ = bindR (Phi (c+3) 16 [.int i] μ) fun s μ => iteR (cmpV .Is s .none μ) (.exc 1 μ) (.ret (.tup [str "chars", s]) μ) := by kernel_rfl!
    show Phi (c+4) 27 [.int i] μ = _
    rw [e, p_text_int, p_text_of _ _ (inB_abs hv)]
    rfl
  | str l => exact p_pat_str ..
  | pat n => exact p_pat_pat ..
  | del t => exact p_pat_del ..
  | ref k => show Phi (c+4) 27 [refV k] μ = _; kernel_rfl!
theorem q_node (v : Val) (hv : v.good) : Phi (c+4) 53 [v.L] μ = (match v.nd with | some n => .ret (.tup n.l) μ | none => .ret .none μ) := by
  cases v with
  | int i =>
    show Phi (c+4) 53 [.int i] μ = _
    rw [q_node_int, q_shown _ _ (inB_abs hv)]
    rfl
  | str l => exact q_node_str ..
  | pat n => exact q_node_pat ..
  | del t => exact q_node_del ..
  | ref k => exact q_node_ref ..
theorem p_null_node (n : Nd) (hn : n.nn = true) : Phi (c+1) 21 [.tup n.p] μ = .ret (.bool false) μ := by
  cases n with
  | chars l => cases l with
    | nil => cases hn
    | cons x l => show Phi (c+1) 21 [.tup [str "chars", sv (x :: l)]] μ = _; kernel_rfl!
  | delay t => show Phi (c+1) 21 [.tup [str "delay", .tup t]] μ = _; kernel_rfl!
  | cat a b => show Phi (c+1) 21 [.tup [str "cat", .tup a.p, .tup b.p]] μ = _; kernel_rfl!
  | alt a b => show Phi (c+1) 21 [.tup [str "alt", .tup a.p, .tup b.p]] μ = _; kernel_rfl!
  | later n k => show Phi (c+1) 21 [.tup [str "later", .tup n.p, refV k]] μ = _; kernel_rfl!
  | now n k => show Phi (c+1) 21 [.tup [str "now", .tup n.p, refV k]] μ = _; kernel_rfl!
  | cursor k => show Phi (c+1) 21 [.tup [str "cursor", refV k]] μ = _; kernel_rfl!
  | len2 => show Phi (c+1) 21 [.tup [str "len", .int 2]] μ = _; kernel_rfl!
theorem node_tag (n : Nd) : ∃ t, itemV μ (.tup n.p) (.int 0) = some t ∧ eqT μ t (str "chars") = some n.isC := by
  cases n with
  | chars l => exact ⟨str "chars", rfl, by kernel_rfl!⟩
  | delay t => exact ⟨str "delay", rfl, by kernel_rfl!⟩
  | cat a b => exact ⟨str "cat", rfl, by kernel_rfl!⟩
  | alt a b => exact ⟨str "alt", rfl, by kernel_rfl!⟩
  | later n k => exact ⟨str "later", rfl, by kernel_rfl!⟩
  | now n k => exact ⟨str "now", rfl, by kernel_rfl!⟩
  | cursor k => exact ⟨str "cursor", rfl, by kernel_rfl!⟩
  | len2 => exact ⟨str "len", rfl, by kernel_rfl!⟩
theorem p_joined_gen : Phi (c+1) 25 [p, q] μ = bindR (Phi c 21 [p] μ) fun b μ => tst b (.ret q μ) (bindR (Phi c 21 [q] μ) fun b μ => tst b (.ret p μ)
   (orR (itemV μ p (.int 0)) fun t => iteR (eqT μ t (str "chars")) (orR (itemV μ q (.int 0)) fun t => iteR (eqT μ t (str "chars")) (orR (itemV μ p (.int 1)) fun a => orR (itemV μ q (.int 1)) fun b => orR (binV .Add a b) fun z => .ret (.tup [str "chars", z]) μ) (.ret (.tup [str "cat", p, q]) μ)) (.ret (.tup [str "cat", p, q]) μ))) := by kernel_rfl!
theorem p_joined (m n : Nd) (hm : m.nn = true) (hn : n.nn = true) (h : (m.isC && n.isC) = false) : Phi (c+2) 25 [.tup m.p, .tup n.p] μ = .ret (.tup [str "cat", .tup m.p, .tup n.p]) μ := by
  rw [p_joined_gen, p_null_node _ _ _ hm]
  show bindR (Phi (c+1) 21 [.tup n.p] μ) _ = _
  rw [p_null_node _ _ _ hn]
  refine eEA (node_tag μ m) fun a a1 a2 => ?_
  refine eEA (node_tag μ n) fun b b1 b2 => ?_
  show orR (itemV μ (.tup m.p) (.int 0)) _ = _
  rw [a1]
  show iteR (eqT μ a (str "chars")) _ _ = _
  rw [a2, b1]
  cases hm : m.isC with
  | false => rfl
  | true =>
    rw [hm] at h
    show iteR (eqT μ b (str "chars")) _ _ = _
    rw [b2, show n.isC = false from h]
/-! join -/
noncomputable abbrev tstN (b : V) (t e : Res) : Res := match b with
  | .bool b => (match !b with | true => t | false => e)
  | _ => .stuck
noncomputable abbrev J1 (c i : Nat) (p q : V) (μ : Mu) : Res := bindR (Phi c 16 [p] μ) fun s μ => bindR (Phi c 16 [q] μ) fun t μ => orR (binV .Add s t) fun z => bindR (Phi c 29 [hkV i, z] μ) Res.ret
noncomputable abbrev J2 (c : Nat) (p q : V) (μ : Mu) : Res := bindR (Phi c 34 [p] μ) fun b μ => tstN b (.exc 1 μ) (bindR (Phi c 34 [q] μ) fun b μ => tstN b (.exc 1 μ)
  (bindR (Phi c 27 [p] μ) fun m μ => bindR (Phi c 27 [q] μ) fun n μ => bindR (Phi c 25 [m, n] μ) fun z μ => mkInst 2 [z] μ Res.ret))
theorem p_join_gen : Phi (c+1) 35 [hkV i, p, q] μ = bindR (Phi c 10 [p] μ) fun b μ => tst b (.ret q μ) (bindR (Phi c 10 [q] μ) fun b μ => tst b (.ret p μ) (bindR (Phi c 11 [p] μ) fun b μ => tst b (bindR (Phi c 11 [q] μ) fun b μ => tst b (J1 c i p q μ) (J2 c p q μ)) (J2 c p q μ))) := by kernel_rfl!
theorem p_isnull (v : Val) : Phi (c+1) 10 [v.P] μ = .ret (.bool v.isNull) μ := by
  cases v with
  | int i => show Phi (c+1) 10 [.int i] μ = _; kernel_rfl!
  | str l => cases l with
    | nil => show Phi (c+1) 10 [sv []] μ = _; kernel_rfl!
    | cons x l => show Phi (c+1) 10 [sv (x :: l)] μ = _; kernel_rfl!
  | pat n => show Phi (c+1) 10 [.inst 2 [.tup n.p]] μ = _; kernel_rfl!
  | del t => show Phi (c+1) 10 [.inst 3 [.tup t]] μ = _; kernel_rfl!
  | ref k => show Phi (c+1) 10 [refV k] μ = _; kernel_rfl!
theorem p_isplain (v : Val) : Phi (c+1) 11 [v.P] μ = .ret (.bool v.plain) μ := by
  cases v with
  | int i => show Phi (c+1) 11 [.int i] μ = _; kernel_rfl!
  | str l => show Phi (c+1) 11 [sv l] μ = _; kernel_rfl!
  | pat n => show Phi (c+1) 11 [.inst 2 [.tup n.p]] μ = _; kernel_rfl!
  | del t => show Phi (c+1) 11 [.inst 3 [.tup t]] μ = _; kernel_rfl!
  | ref k => show Phi (c+1) 11 [refV k] μ = _; kernel_rfl!
theorem p_ispart (v : Val) : Phi (c+2) 34 [v.P] μ = .ret (.bool v.nd.isSome) μ := by
  cases v with
  | int i => show Phi (c+2) 34 [.int i] μ = _; kernel_rfl!
  | str l => show Phi (c+2) 34 [sv l] μ = _; kernel_rfl!
  | pat n => show Phi (c+2) 34 [.inst 2 [.tup n.p]] μ = _; kernel_rfl!
  | del t => show Phi (c+2) 34 [.inst 3 [.tup t]] μ = _; kernel_rfl!
  | ref k => show Phi (c+2) 34 [refV k] μ = _; kernel_rfl!
theorem J2_is (a b : Val) (ha : a.good) (hb : b.good) : J2 (c+4) a.P b.P μ = (match a.nd, b.nd with | some m, some n => bindR (Phi (c+4) 25 [.tup m.p, .tup n.p] μ) fun z μ => mkInst 2 [z] μ Res.ret | _, _ => .exc 1 μ) := by
  unfold J2
  rw [p_ispart, bR, p_ispart, bR, p_pattern _ _ _ ha]
  cases ea : a.nd with
  | none => rfl
  | some m =>
    rw [bR, p_pattern _ _ _ hb]
    cases eb : b.nd with
    | none => rfl
    | some n => rfl
end
end Mine

end

section
namespace Mine
open PySem
noncomputable def Val.tx : Val → List Nat
  | int i => sg i
  | str l => l
  | _ => []
theorem sg_len {i : Int} (h : inB i) : (sg i).length ≤ 12 := by
  have h5 : (dg i.natAbs).length ≤ 5 := dg_length (by omega) (by unfold inB at h; omega)
  unfold sg
  cases decide (i < 0) with
  | true => show (dg i.natAbs).length + 1 ≤ 12; omega
  | false => show (dg i.natAbs).length ≤ 12; omega
theorem sg_cons (i : Int) : ∃ x l, sg i = x :: l := by
  unfold sg
  cases decide (i < 0) with
  | true => exact ⟨_, _, rfl⟩
  | false => cases h : dg i.natAbs with
    | nil => exact absurd h (dg_ne _)
    | cons x l => exact ⟨x, l, rfl⟩
theorem dg_in : ∀ (m : Nat), ∀ x ∈ dg m, x < 256 := by
  intro m
  induction m using Nat.strongRecOn with
  | _ m ih =>
    by_cases h : m < 10
    · rw [dg_small h]
      intro x hx
      rw [List.mem_singleton] at hx
      omega
    · rw [dg_big (by omega)]
      intro x hx
      rw [List.mem_append, List.mem_singleton] at hx
      rcases hx with hx | hx
      · exact ih (m / 10) (by omega) x hx
      · omega
theorem sg_tok {i : Int} (h : inB i) : tok (sg i) := by
  refine ⟨sg_len h, ?_⟩
  unfold sg
  cases decide (i < 0) with
  | true =>
    intro x hx
    rw [List.mem_cons] at hx
    rcases hx with rfl | hx
    · decide
    · exact dg_in _ x hx
  | false => exact dg_in _
theorem tx_tok {v : Val} (h : v.good) : tok v.tx := by
  cases v with
  | int i => exact sg_tok h
  | str l => exact h
  | _ => exact ⟨Nat.zero_le _, fun x h => nomatch h⟩
theorem tx_len {v : Val} (h : v.good) : v.tx.length ≤ 12 := (tx_tok h).1
theorem nd_good {v : Val} {n : Nd} (h : v.good) (e : v.nd = some n) : n.ok ∧ n.n = v.n ∧ (v.isNull = false → n.nn = true) ∧ (v.plain = false → n.isC = false) := by
  cases v with
  | int i =>
    cases e
    refine eEE (sg_cons i) fun x l e => ?_
    exact iAAA (sg_tok h) rfl (fun u9 => by rw [e]; rfl) (fun h => nomatch h)
  | str l =>
    cases e
    exact iAAA h rfl (fun h => by cases l with | nil => cases h | cons x l => rfl) (fun h => nomatch h)
  | pat n =>
    cases e
    exact iAAA h.2 rfl (fun u9 => by cases n <;> first | rfl | exact absurd h.1 (by simp [Nd.isC])) (fun u9 => h.1)
  | del t => cases e; exact ⟨h, rfl, fun u9 => rfl, fun u9 => rfl⟩
  | ref k => cases e
theorem bin_add (a b : List Nat) (h : a.length + b.length ≤ 100000) : binV .Add (sv a) (sv b) = some (sv (a ++ b)) := by
  have : Nat.ble ((⟨⟨a⟩⟩ : Str).length + (⟨⟨b⟩⟩ : Str).length) 100000 = true := Nat.ble_eq_true_of_le h
  show (match Nat.ble ((⟨⟨a⟩⟩ : Str).length + (⟨⟨b⟩⟩ : Str).length) 100000 with | true => some (V.str ((⟨⟨a⟩⟩ : Str) ++ (⟨⟨b⟩⟩ : Str))) | false => none) = _
  rw [this]
  exact congrArg (fun s => some (V.str s)) (str_app a b)
section
variable (c i : Nat) (h l r t v w x y g wd p q : V) (μ : Mu) (lg : V)
theorem p_text (v : Val) (hv : v.good) (hp : v.plain = true) : Phi (c+2) 16 [v.P] μ = .ret (sv v.tx) μ := by
  cases v with
  | int i => show Phi (c+2) 16 [.int i] μ = _; rw [p_text_int, p_text_of _ _ (inB_abs hv)]; rfl
  | str l => exact p_text_str ..
  | _ => cases hp
theorem q_item (v : Val) (hv : v.good) (hp : v.plain = true) : ∃ m, Phi (c+4) 53 [v.L] μ = .ret m μ ∧ itemV μ m (.int 1) = some (sv v.tx) := by
  have e := q_node c μ v hv
  cases v with
  | int i => exact ⟨_, e, rfl⟩
  | str l => exact ⟨_, e, rfl⟩
  | _ => cases hp
theorem p_check0 (l : List Nat) : Phi (c+1) 29 [hkV i, sv l] μ = bltV "len" [sv l] μ fun w μ => iteR (cmpV .Gt w (.int 12) μ) (.exc 15 μ) (.ret (sv l) μ) := by kernel_rfl!
theorem len_sv (l : List Nat) (h : l.length ≤ 100000) (k : V → Mu → Res) : bltV "len" [sv l] μ k = k (toI l.length) μ := by
  show (match Nat.ble (⟨⟨l⟩⟩ : Str).length 100000 with | true => k (toI (⟨⟨l⟩⟩ : Str).length) μ | false => .stuck) = _
  rw [show Nat.ble (⟨⟨l⟩⟩ : Str).length 100000 = true from Nat.ble_eq_true_of_le h]
  rfl
noncomputable abbrev qA (p q : V) (μ : Mu) : Res := iteR (eqT μ p (str "")) (.ret (.tup [str "value", q]) μ) (.ret (.tup [str "value", p]) μ)
noncomputable abbrev qK1 (c : Nat) (p q : V) (μ : Mu) : Res := bindR (Phi c 53 [p] μ) fun m μ => orR (itemV μ m (.int 1)) fun s => bindR (Phi c 53 [q] μ) fun n μ => orR (itemV μ n (.int 1)) fun t => orR (binV .Add s t) fun z => bltV "len" [z] μ fun w μ => iteR (cmpV .LtE w (.int 12) μ) (.ret (.tup [str "value", z]) μ) (.ret (.tup [str "error", .int 15]) μ)
noncomputable abbrev qKn (tag : String) (c : Nat) (p q : V) (μ : Mu) : Res := bindR (Phi c 53 [p] μ) fun m μ => bindR (Phi c 53 [q] μ) fun n μ => iteR (cmpV .Is m .none μ) (.ret (.tup [str "error", .int 1]) μ) (iteR (cmpV .Is n .none μ) (.ret (.tup [str "error", .int 1]) μ) (.ret (.tup [str "value", .tup [str "pattern", .tup [str tag, m, n]]]) μ))
noncomputable abbrev iteN (o : Option Bool) (t e : Res) : Res := match o with | some b => (match !b with | true => t | false => e) | none => .stuck
theorem q_join_gen : Phi (c+1) 55 [p, q] μ = iteR (eqT μ p (str "")) (qA p q μ) (iteR (eqT μ q (str "")) (qA p q μ) (iteN (instV p (.typ "tuple")) (iteN (instV q (.typ "tuple")) (qK1 c p q μ) (qKn "cat" c p q μ)) (qKn "cat" c p q μ))) := by kernel_rfl!
theorem l_null (v : Val) : eqT μ v.L (str "") = some v.isNull := by
  cases v with
  | str l => cases l <;> rfl
  | _ => rfl
theorem l_tuple (v : Val) : instV v.L (.typ "tuple") = some (!v.plain) := by
  cases v <;> rfl
theorem qKn_is (tag : String) (a b : Val) (ha : a.good) (hb : b.good) : qKn tag (c+4) a.L b.L μ = (match a.nd, b.nd with | some m, some n => .ret (.tup [str "value", .tup [str "pattern", .tup [str tag, .tup m.l, .tup n.l]]]) μ | _, _ => .ret (.tup [str "error", .int 1]) μ) := by
  unfold qKn
  rw [q_node _ _ _ ha]
  cases ea : a.nd with
  | none =>
    show bindR (Phi (c+4) 53 [b.L] μ) _ = _
    rw [q_node _ _ _ hb]
    cases eb : b.nd <;> rfl
  | some m =>
    show bindR (Phi (c+4) 53 [b.L] μ) _ = _
    rw [q_node _ _ _ hb]
    cases eb : b.nd <;> rfl
end
noncomputable def Same2 (a b : Val) (f : Nat → Nat → Mu → Res) (g : Nat → Mu → Res) : Prop := ∃ o : Out, o.good ∧ o.n ≤ a.n + b.n + 1 ∧ ∀ c μ, (∀ i, f c i μ = o.P μ) ∧ g c μ = .ret o.L μ
theorem cat_same (c i : Nat) (μ : Mu) (a b : Val) (ha : a.good) (hb : b.good) (na : a.isNull = false) (nb : b.isNull = false) (np : (a.plain && b.plain) = false) :
    J2 (c+6) a.P b.P μ = (match a.nd, b.nd with | some m, some n => .ret (Val.pat (.cat m n)).P μ | _, _ => .exc 1 μ) := by
  rw [J2_is _ _ _ _ ha hb]
  cases ea : a.nd with
  | none => rfl
  | some m => cases eb : b.nd with
    | none => rfl
    | some n =>
      have ga := nd_good ha ea
      have gb := nd_good hb eb
      show bindR (Phi (c+6) 25 [.tup m.p, .tup n.p] μ) _ = _
      rw [p_joined _ _ _ _ (ga.2.2.1 na) (gb.2.2.1 nb)]
      · rfl
      · cases pa : a.plain with
        | false => rw [ga.2.2.2 pa]; rfl
        | true =>
          rw [pa] at np
          rw [gb.2.2.2 np, Bool.and_false]
noncomputable def nd2 (f : Nd → Nd → Nd) (a b : Val) : Out := match a.nd, b.nd with | some m, some n => .val (.pat (f m n)) | _, _ => .err 1
theorem join_same (a b : Val) (ha : a.good) (hb : b.good) : Same2 a b (fun c i μ => Phi (c+7) 35 [hkV i, a.P, b.P] μ) (fun c μ => Phi (c+7) 55 [a.L, b.L] μ) := by
  cases na : a.isNull with
  | true =>
    refine ⟨.val b, hb, by show b.n ≤ _; lia, fun c μ => ⟨fun i => ?_, ?_⟩⟩
    · show Phi (c+7) 35 [hkV i, a.P, b.P] μ = _
      rw [p_join_gen, p_isnull, na]; rfl
    · show Phi (c+7) 55 [a.L, b.L] μ = _
      rw [q_join_gen, l_null, na]
      show qA a.L b.L μ = _
      unfold qA
      rw [l_null, na]
      rfl
  | false => cases nb : b.isNull with
    | true =>
      refine ⟨.val a, ha, by show a.n ≤ _; lia, fun c μ => ⟨fun i => ?_, ?_⟩⟩
      · show Phi (c+7) 35 [hkV i, a.P, b.P] μ = _
        rw [p_join_gen, p_isnull, na]
        show bindR (Phi (c+6) 10 [b.P] μ) _ = _
        rw [p_isnull, nb]; rfl
      · show Phi (c+7) 55 [a.L, b.L] μ = _
        rw [q_join_gen, l_null, na, l_null, nb]
        show qA a.L b.L μ = _
        unfold qA
        rw [l_null, na]
        rfl
    | false =>
      have p0 : ∀ c i μ, Phi (c+7) 35 [hkV i, a.P, b.P] μ = tst (.bool a.plain) (tst (.bool b.plain) (J1 (c+6) i a.P b.P μ) (J2 (c+6) a.P b.P μ)) (J2 (c+6) a.P b.P μ) := fun c i μ => by
        rw [p_join_gen, p_isnull, na]
        show bindR (Phi (c+6) 10 [b.P] μ) _ = _
        rw [p_isnull, nb]
        show bindR (Phi (c+6) 11 [a.P] μ) _ = _
        rw [p_isplain, bR, p_isplain, bR]
      have q0 : ∀ c μ, Phi (c+7) 55 [a.L, b.L] μ = iteN (some !a.plain) (iteN (some !b.plain) (qK1 (c+6) a.L b.L μ) (qKn "cat" (c+6) a.L b.L μ)) (qKn "cat" (c+6) a.L b.L μ) := fun c μ => by
        rw [q_join_gen, l_null, na, l_null, nb, l_tuple, l_tuple]
      cases np : (a.plain && b.plain) with
      | true =>
        obtain ⟨pa, pb⟩ := Bool.and_eq_true_iff.1 np
        have la := tx_len ha
        have lb := tx_len hb
        have ll : (a.tx ++ b.tx).length ≤ 24 := by rw [List.length_append]; omega
        have p1 : ∀ c i μ, Phi (c+7) 35 [hkV i, a.P, b.P] μ = iteR (some (decide ((12 : Int) < (((a.tx ++ b.tx).length : Nat) : Int)))) (.exc 15 μ) (.ret (sv (a.tx ++ b.tx)) μ) := fun c i μ => by
          rw [p0, pa, pb]
          show bindR (Phi (c+6) 16 [a.P] μ) _ = _
          rw [p_text _ _ _ ha pa, bR, p_text _ _ _ hb pb, bR, bin_add _ _ (by omega)]
          show bindR (Phi (c+6) 29 [hkV i, sv (a.tx ++ b.tx)] μ) _ = _
          rw [p_check0, len_sv _ _ (by omega)]
          show bindR (iteR (some (decide ((12 : Int) < (((a.tx ++ b.tx).length : Nat) : Int)))) (.exc 15 μ) (.ret (sv (a.tx ++ b.tx)) μ)) _ = _
          cases decide ((12 : Int) < (((a.tx ++ b.tx).length : Nat) : Int)) <;> rfl
        have q1 : ∀ c μ, Phi (c+7) 55 [a.L, b.L] μ = iteR (some (decide ((((a.tx ++ b.tx).length : Nat) : Int) ≤ (12 : Int)))) (.ret (.tup [str "value", sv (a.tx ++ b.tx)]) μ) (.ret (.tup [str "error", .int 15]) μ) := fun c μ => by
          refine eEA (q_item (c+2) μ a ha pa) fun m m1 m2 => ?_
          refine eEA (q_item (c+2) μ b hb pb) fun n n1 n2 => ?_
          rw [q0, pa, pb]
          show bindR (Phi (c+6) 53 [a.L] μ) _ = _
          rw [m1, bR, m2]
          show bindR (Phi (c+6) 53 [b.L] μ) _ = _
          rw [n1, bR, n2]
          show orR (binV .Add (sv a.tx) (sv b.tx)) _ = _
          rw [bin_add _ _ (by omega)]
          show bltV "len" [sv (a.tx ++ b.tx)] μ _ = _
          rw [len_sv _ _ (by omega)]
          rfl
        by_cases h12 : (a.tx ++ b.tx).length ≤ 12
        · refine ⟨.val (.str (a.tx ++ b.tx)), ⟨h12, fun x hx => (List.mem_append.1 hx).elim ((tx_tok ha).2 x) ((tx_tok hb).2 x)⟩, by show 1 ≤ _; omega, fun c μ => ⟨fun i => ?_, ?_⟩⟩
          · show Phi (c+7) 35 [hkV i, a.P, b.P] μ = _
            rw [p1, decide_eq_false (show ¬((12 : Int) < ((a.tx ++ b.tx).length : Nat)) by omega)]; rfl
          · show Phi (c+7) 55 [a.L, b.L] μ = _
            rw [q1, decide_eq_true (show (((a.tx ++ b.tx).length : Nat) : Int) ≤ 12 by omega)]; rfl
        · refine ⟨.err 15, (by first | exact rfl | exact True.intro | assumption), by show 1 ≤ _; omega, fun c μ => ⟨fun i => ?_, ?_⟩⟩
          · show Phi (c+7) 35 [hkV i, a.P, b.P] μ = _
            rw [p1, decide_eq_true (show ((12 : Int) < ((a.tx ++ b.tx).length : Nat)) by omega)]; rfl
          · show Phi (c+7) 55 [a.L, b.L] μ = _
            rw [q1, decide_eq_false (show ¬((((a.tx ++ b.tx).length : Nat) : Int) ≤ 12) by omega)]; rfl
      | false =>
        have p1 : ∀ c i μ, Phi (c+7) 35 [hkV i, a.P, b.P] μ = J2 (c+6) a.P b.P μ := fun c i μ => by
          rw [p0]
          cases pa : a.plain with
          | false => rfl
          | true => rw [pa] at np; rw [show b.plain = false from np]
        have q1 : ∀ c μ, Phi (c+7) 55 [a.L, b.L] μ = qKn "cat" (c+6) a.L b.L μ := fun c μ => by
          rw [q0]
          cases pa : a.plain with
          | false => rfl
          | true => rw [pa] at np; rw [show b.plain = false from np]; rfl
        refine ⟨nd2 .cat a b, ?_, ?_, fun c μ => ⟨fun i => ?_, ?_⟩⟩
        · unfold nd2
          cases ea : a.nd with
          | none => exact rfl
          | some m => cases eb : b.nd with
            | none => exact rfl
            | some n => exact ⟨rfl, (nd_good ha ea).1, (nd_good hb eb).1⟩
        · unfold nd2
          cases ea : a.nd with
          | none => show 1 ≤ _; omega
          | some m => cases eb : b.nd with
            | none => show 1 ≤ _; omega
            | some n => show m.n + n.n + 1 ≤ _; rw [(nd_good ha ea).2.1, (nd_good hb eb).2.1]; omega
        · show Phi (c+7) 35 [hkV i, a.P, b.P] μ = _
          rw [p1, cat_same c i μ a b ha hb na nb np]
          unfold nd2
          cases ea : a.nd with
          | none => rfl
          | some m => cases eb : b.nd <;> rfl
        · show Phi (c+7) 55 [a.L, b.L] μ = _
          rw [q1, qKn_is _ _ _ _ _ ha hb]
          unfold nd2
          cases ea : a.nd with
          | none => rfl
          | some m => cases eb : b.nd <;> rfl
end Mine

end

section
namespace Mine
open PySem
theorem whole_val (v : Val) (hv : v.good) : ∃ o : Option Int, (∀ n, o = some n → inB n) ∧ ∀ c μ, Phi (c+5) 17 [v.P, .int 16] μ = (match o with | some n => .ret (.int n) μ | none => .exc 1 μ) ∧ Phi (c+5) 51 [v.L] μ = .ret (match o with | some n => .int n | none => .none) μ := by
  cases v with
  | int i => exact ⟨some i, fun n h => by cases h; exact hv, fun c μ => ⟨p_need_int .., q_whole_int ..⟩⟩
  | str l =>
    refine eEA (whole_same l hv.1) fun o ho h => ?_
    have hp : ∀ c μ, Phi (c+5) 17 [sv l, .int 16] μ = (match cmpV .Is o .none μ with | some true => .exc 1 μ | some false => .ret o μ | none => .stuck) := fun c μ => by
      rw [p_need_str, p_to_str, (h (c+1) μ).1]
      rfl
    cases o with
    | none => exact ⟨none, fun n h => (nomatch h), fun c μ => ⟨hp c μ, (h (c+3) μ).2⟩⟩
    | int n => exact ⟨some n, fun m h => by cases h; exact ho, fun c μ => ⟨hp c μ, (h (c+3) μ).2⟩⟩
    | _ => cases ho
  | pat n => exact ⟨none, fun n h => (nomatch h), fun c μ => ⟨p_need_pat .., by show Phi (c+5) 51 [.tup [str "pattern", .tup n.l]] μ = _; kernel_rfl!⟩⟩
  | del t => exact ⟨none, fun n h => (nomatch h), fun c μ => ⟨by show Phi (c+5) 17 [.inst 3 [.tup t], .int 16] μ = _; kernel_rfl!, by show Phi (c+5) 51 [.tup [str "delayed", .tup t]] μ = _; kernel_rfl!⟩⟩
  | ref k => exact ⟨none, fun n h => (nomatch h), fun c μ => ⟨by show Phi (c+5) 17 [refV k, .int 16] μ = _; kernel_rfl!, by show Phi (c+5) 51 [.tup [str "name", sv k]] μ = _; kernel_rfl!⟩⟩
noncomputable def bnd (n : Int) : Out := match decide (-32768 ≤ n ∧ n ≤ 32767) with | true => .val (.int n) | false => .err 2
theorem bnd_in {n : Int} (h : inB n) : bnd n = .val (.int n) := by unfold bnd; rw [decide_eq_true (show -32768 ≤ n ∧ n ≤ 32767 from h)]
theorem bnd_out {n : Int} (h : ¬inB n) : bnd n = .err 2 := by unfold bnd; rw [decide_eq_false (show ¬(-32768 ≤ n ∧ n ≤ 32767) from h)]
theorem bnd_good (n : Int) : (bnd n).good ∧ (bnd n).n = 1 := by
  by_cases h : inB n
  · rw [bnd_in h]; exact ⟨h, rfl⟩
  · rw [bnd_out h]; exact ⟨(by first | exact rfl | exact True.intro | assumption), rfl⟩
theorem p_checked0 (c : Nat) (n : Int) (μ : Mu) : Phi (c+1) 18 [.int n, .int 16] μ = bindR (Phi c 12 [.int n, .int 16] μ) fun b μ => tstN b (.exc 2 μ) (.ret (.int n) μ) := by kernel_rfl!
theorem p_checked (c : Nat) (n : Int) (μ : Mu) : Phi (c+2) 18 [.int n, .int 16] μ = (bnd n).P μ := by
  rw [p_checked0, p_fits]
  unfold bnd
  by_cases h1 : -32768 ≤ n
  · by_cases h2 : n < 32768
    · rw [decide_eq_true h1, decide_eq_true h2, decide_eq_true (show -32768 ≤ n ∧ n ≤ 32767 by lia)]; rfl
    · rw [decide_eq_true h1, decide_eq_false h2, decide_eq_false (show ¬(-32768 ≤ n ∧ n ≤ 32767) by lia)]; rfl
  · rw [decide_eq_false h1, decide_eq_false (show ¬(-32768 ≤ n ∧ n ≤ 32767) by lia)]; rfl
noncomputable abbrev qB (n : Int) (μ : Mu) : Res := iteR (cmpV .LtE (.int (-32768)) (.int n) μ) (iteR (cmpV .LtE (.int n) (.int 32767) μ) (.ret (.tup [str "value", .int n]) μ) (.ret (.tup [str "error", .int 2]) μ)) (.ret (.tup [str "error", .int 2]) μ)
theorem qB_is (n : Int) (μ : Mu) : qB n μ = .ret (bnd n).L μ := by
  show iteR (some (decide (-32768 ≤ n))) (iteR (some (decide (n ≤ 32767))) _ _) _ = _
  unfold bnd
  by_cases h1 : -32768 ≤ n
  · by_cases h2 : n ≤ 32767
    · rw [decide_eq_true h1, decide_eq_true h2, decide_eq_true (show -32768 ≤ n ∧ n ≤ 32767 by lia)]; rfl
    · rw [decide_eq_true h1, decide_eq_false h2, decide_eq_false (show ¬(-32768 ≤ n ∧ n ≤ 32767) by lia)]; rfl
  · rw [decide_eq_false h1, decide_eq_false (show ¬(-32768 ≤ n ∧ n ≤ 32767) by lia)]; rfl
section
variable (c : Nat) (m n : Int) (μ : Mu)
theorem r_plus : Phi (c+1) 33 [str "+", .int m, .int n, .int 16] μ = bindR (Phi c 18 [.int (m + n), .int 16] μ) Res.ret := by kernel_rfl!
theorem r_minus : Phi (c+1) 33 [str "-", .int m, .int n, .int 16] μ = bindR (Phi c 18 [.int (m - n), .int 16] μ) Res.ret := by kernel_rfl!
theorem r_times : Phi (c+1) 33 [str "*", .int m, .int n, .int 16] μ = orR (binV .Mult (.int m) (.int n)) fun z => bindR (Phi c 18 [z, .int 16] μ) Res.ret := by kernel_rfl!
theorem r_div : Phi (c+1) 33 [str "/", .int m, .int n, .int 16] μ = bindR (Phi c 31 [.int m, .int n] μ) fun z μ => bindR (Phi c 18 [z, .int 16] μ) Res.ret := by kernel_rfl!
theorem r_pow : Phi (c+1) 33 [str "**", .int m, .int n, .int 16] μ = bindR (Phi c 32 [.int m, .int n, .int 16] μ) Res.ret := by kernel_rfl!
theorem s_plus : Phi (c+1) 54 [str "+", .int m, .int n] μ = orR (binV .Mult (.int m) (.int n)) fun u9 => qB (m + n) μ := by kernel_rfl!
theorem s_minus : Phi (c+1) 54 [str "-", .int m, .int n] μ = orR (binV .Mult (.int m) (.int n)) fun u9 => qB (m - n) μ := by kernel_rfl!
noncomputable abbrev qBV (w : V) (μ : Mu) : Res := iteR (cmpV .LtE (.int (-32768)) w μ) (iteR (cmpV .LtE w (.int 32767) μ) (.ret (.tup [str "value", w]) μ) (.ret (.tup [str "error", .int 2]) μ)) (.ret (.tup [str "error", .int 2]) μ)
theorem s_times : Phi (c+1) 54 [str "*", .int m, .int n] μ = orR (binV .Mult (.int m) (.int n)) fun z => qBV z μ := by kernel_rfl!
theorem d_div : Phi (c+1) 31 [.int m, .int n] μ = iteR (eqT μ (.int n) (.int 0)) (.exc 2 μ) (orR (binV .FloorDiv (.int (Int.ofNat m.natAbs)) (.int (Int.ofNat n.natAbs))) fun q => iteR (eqT μ (.bool (decide (m < 0))) (.bool (decide (n < 0)))) (.ret q μ) (match q with | .int i => .ret (.int (-i)) μ | _ => .stuck)) := by kernel_rfl!
theorem s_div : Phi (c+1) 54 [str "/", .int m, .int n] μ = iteR (eqT μ (.int n) (.int 0)) (.ret (.tup [str "error", .int 2]) μ) (orR (binV .FloorDiv (.int (Int.ofNat m.natAbs)) (.int (Int.ofNat n.natAbs))) fun q => iteR (eqT μ (.bool (decide (m < 0))) (.bool (decide (n < 0)))) (orR (binV .Mult q (.int 1)) fun z => qBV z μ) (orR (binV .Mult q (.int (-1))) fun z => qBV z μ)) := by kernel_rfl!
noncomputable def f32 : Fn := (fnInfo 32).getD ⟨[], [], []⟩
noncomputable abbrev r32 (m n : Int) (f : V) : Rho := [(Str.ofString "one", .val (.int m)), (Str.ofString "other", .val (.int n)), (Str.ofString "width", .val (.int 16)), (Str.ofString "found", .val f)]
noncomputable abbrev tr (v : V) : Rho := [(Str.ofString "turn", .val v)]
noncomputable def lp32 (c : Nat) (L : List V) (ρ : Rho) (μ : Mu) : Res := loopL (fun v ρ => some (put (Str.ofString "turn") (.val v) ρ)) (fun ρ μ k => evS 54 (topCx f32.kinds (Phi c)) ρ (forB (stAt f32.body 5)) μ k) L ρ μ
  fun ρ μ => evS 54 (topCx f32.kinds (Phi c)) (frozen ρ) (f32.body.drop 6) μ fun u9 μ => .ret .none μ
noncomputable abbrev aPow (m n : Int) (μ : Mu) : Res := iteR (eqT μ (.int n) (.int 0)) (.ret (.int 1) μ) (.ret (.int m) μ)
theorem r_raised : Phi (c+1) 32 [.int m, .int n, .int 16] μ = iteR (cmpV .Lt (.int n) (.int 0) μ) (.exc 2 μ) (iteR (cmpV .In (.int m) (.tup [.int 0, .int 1]) μ) (aPow m n μ) (iteR (eqT μ (.int n) (.int 0)) (aPow m n μ)
  (iteR (eqT μ (.int m) (.int (-1))) (orR (binV .Mod (.int n) (.int 2)) fun r => iteR (eqT μ r (.int 0)) (.ret (.int 1) μ) (.ret (.int (-1)) μ)) (iteR (cmpV .Gt (.int n) (.int 16) μ) (.exc 2 μ)
   (typV "range" [.int n] μ fun v μ => match items v with | some L => lp32 c L (r32 m n (.int 1)) μ | none => .stuck))))) := by kernel_rfl!
theorem lp_first (v : V) (L : List V) (f : Int) : lp32 c (v :: L) (r32 m n (.int f)) μ = orR (binV .Mult (.int f) (.int m)) fun z => bindR (Phi c 18 [z, .int 16] μ) fun g μ => lp32 c L (r32 m n g ++ tr v) μ := by kernel_rfl!
theorem lp_next (v w : V) (L : List V) (f : Int) : lp32 c (v :: L) (r32 m n (.int f) ++ tr w) μ = orR (binV .Mult (.int f) (.int m)) fun z => bindR (Phi c 18 [z, .int 16] μ) fun g μ => lp32 c L (r32 m n g ++ tr v) μ := by kernel_rfl!
theorem lp_end (w : V) (f : Int) : lp32 c [] (r32 m n (.int f) ++ tr w) μ = .ret (.int f) μ := by kernel_rfl!
theorem s_pow : Phi (c+1) 54 [str "**", .int m, .int n] μ = iteR (cmpV .Lt (.int n) (.int 0) μ) (.ret (.tup [str "error", .int 2]) μ)
  (iteR (cmpV .Lt (.int (Int.ofNat m.natAbs)) (.int 2) μ) (orR (binV .Pow (.int m) (.int n)) fun z => qBV z μ) (iteR (cmpV .Lt (.int n) (.int 17) μ) (orR (binV .Pow (.int m) (.int n)) fun z => qBV z μ) (.ret (.tup [str "error", .int 2]) μ))) := by kernel_rfl!
end
theorem qBV_int (n : Int) (μ : Mu) : qBV (.int n) μ = .ret (bnd n).L μ := qB_is n μ
theorem mulV (m n : Int) (hm : m.natAbs < 10 ^ 12) (hn : n.natAbs < 10 ^ 12) : binV .Mult (.int m) (.int n) = some (.int (m * n)) := by
  have a : small m = true := decide_eq_true (Nat.lt_trans hm (by decide))
  have b : small n = true := decide_eq_true (Nat.lt_trans hn (by decide))
  show (match small m, small n with | true, true => some (V.int (m * n)) | _, _ => none) = _
  rw [a, b]
theorem bndR (n : Int) (μ : Mu) : bindR ((bnd n).P μ) Res.ret = (bnd n).P μ := by
  by_cases h : inB n
  · rw [bnd_in h]; rfl
  · rw [bnd_out h]; rfl
noncomputable def divI (m n : Int) : Int := match decide (m < 0) == decide (n < 0) with | true => ((m.natAbs / n.natAbs : Nat) : Int) | false => -((m.natAbs / n.natAbs : Nat) : Int)
theorem iteR_t (t e : Res) : iteR (some true) t e = t := rfl
theorem iteR_f (t e : Res) : iteR (some false) t e = e := rfl
theorem orR_s (v : V) (k : V → Res) : orR (some v) k = k v := rfl
theorem eq_bb (μ : Mu) (a b : Bool) : eqT μ (.bool a) (.bool b) = some (a == b) := rfl
theorem div_same (m n : Int) (hm : inB m) (hn : inB n) (h0 : n ≠ 0) : ∀ c μ, Phi (c+3) 33 [str "/", .int m, .int n, .int 16] μ = (bnd (divI m n)).P μ ∧ Phi (c+1) 54 [str "/", .int m, .int n] μ = .ret (bnd (divI m n)).L μ := fun c μ => by
  have e0 : eqT μ (.int n) (.int 0) = some false := congrArg some (decide_eq_false h0)
  have e1 : binV .FloorDiv (.int (Int.ofNat m.natAbs)) (.int (Int.ofNat n.natAbs)) = some (.int ((m.natAbs / n.natAbs : Nat) : Int)) := by
    have a : small (Int.ofNat n.natAbs) = true := decide_eq_true (show n.natAbs < 2 ^ 40 from Nat.lt_trans (inB_abs hn) (by decide))
    have b : decide ((Int.ofNat n.natAbs) = 0) = false := decide_eq_false (by show ¬((n.natAbs : Int) = 0); lia)
    show (match small (Int.ofNat n.natAbs), decide ((Int.ofNat n.natAbs) = 0) with | true, false => some (V.int ((Int.ofNat m.natAbs).fdiv (Int.ofNat n.natAbs))) | _, _ => none) = _
    rw [a, b]
    exact congrArg (fun i => some (V.int i)) (Int.ofNat_fdiv m.natAbs n.natAbs).symm
  have hq : (((m.natAbs / n.natAbs : Nat) : Int)).natAbs < 10 ^ 12 := Nat.lt_of_le_of_lt (Nat.div_le_self ..) (inB_abs hm)
  constructor
  · rw [r_div, d_div, e0, iteR_f, e1, orR_s, eq_bb]
    unfold divI
    cases decide (m < 0) == decide (n < 0) with
    | true => rw [iteR_t, bR, p_checked, bndR]
    | false => rw [iteR_f, bR, p_checked, bndR]
  · rw [s_div, e0, iteR_f, e1, orR_s, eq_bb, mulV _ _ hq (by decide), mulV _ _ hq (by decide), orR_s, orR_s, qBV_int, qBV_int, Int.mul_neg, Int.mul_one]
    unfold divI
    cases decide (m < 0) == decide (n < 0) with
    | true => rw [iteR_t]
    | false => rw [iteR_f]
noncomputable def pwo (m : Int) : Nat → Int → Out
  | 0, f => .val (.int f)
  | k + 1, f => match decide (-32768 ≤ f * m ∧ f * m ≤ 32767) with | true => pwo m k (f * m) | false => .err 2
theorem abs_grow (m f : Int) (hm : 2 ≤ m.natAbs) : 2 * f.natAbs ≤ (f * m).natAbs := by
  rw [Int.natAbs_mul, Nat.mul_comm]
  exact Nat.mul_le_mul_left _ hm
theorem abs_pow (m f : Int) (hm : 2 ≤ m.natAbs) (k : Nat) : f.natAbs ≤ (f * m ^ k).natAbs := by
  induction k with
  | zero => simp
  | succ k ih =>
    have := abs_grow m (f * m ^ k) hm
    rw [Int.pow_succ, ← Int.mul_assoc]
    lia
theorem pwo_is (m : Int) (hm : 2 ≤ m.natAbs) : ∀ (k : Nat) (f : Int), inB f → pwo m k f = bnd (f * m ^ k)
  | 0, f, hf => by rw [Int.pow_zero, Int.mul_one, bnd_in hf]; rfl
  | k + 1, f, hf => by
    unfold pwo
    by_cases h : inB (f * m)
    · rw [decide_eq_true (show -32768 ≤ f * m ∧ f * m ≤ 32767 from h)]
      show pwo m k (f * m) = _
      rw [pwo_is m hm k (f * m) h, Int.pow_succ, Int.mul_assoc, Int.mul_comm m]
    · rw [decide_eq_false (show ¬(-32768 ≤ f * m ∧ f * m ≤ 32767) from h), bnd_out]
      rw [Int.pow_succ, Int.mul_comm (m ^ k), ← Int.mul_assoc]
      cases k with
      | zero => rw [Int.pow_zero, Int.mul_one]; exact h
      | succ k =>
        have a := abs_pow m (f * m) hm k
        have b := abs_grow m (f * m * m ^ k) hm
        rw [Int.pow_succ, ← Int.mul_assoc]
        unfold inB at h ⊢
        omega
theorem pwo_good (m : Int) : ∀ (k : Nat) (f : Int), inB f → (pwo m k f).good ∧ (pwo m k f).n = 1
  | 0, f, hf => ⟨hf, rfl⟩
  | k + 1, f, hf => by
    unfold pwo
    by_cases h : inB (f * m)
    · rw [decide_eq_true (show -32768 ≤ f * m ∧ f * m ≤ 32767 from h)]; exact pwo_good m k _ h
    · rw [decide_eq_false (show ¬(-32768 ≤ f * m ∧ f * m ≤ 32767) from h)]; exact ⟨(by first | exact rfl | exact True.intro | assumption), rfl⟩
theorem pwo_in {m f : Int} (h : inB (f * m)) (k : Nat) : pwo m (k+1) f = pwo m k (f * m) := by
  rw [pwo, decide_eq_true (show -32768 ≤ f * m ∧ f * m ≤ 32767 from h)]
theorem pwo_out {m f : Int} (h : ¬inB (f * m)) (k : Nat) : pwo m (k+1) f = .err 2 := by
  rw [pwo, decide_eq_false (show ¬(-32768 ≤ f * m ∧ f * m ≤ 32767) from h)]
theorem lp_run (c : Nat) (m n : Int) (hm : inB m) (μ : Mu) : ∀ (L : List V) (f : Int) (w : V), inB f → lp32 (c+2) L (r32 m n (.int f) ++ tr w) μ = (pwo m L.length f).P μ
  | [], f, w, _ => lp_end ..
  | v :: L, f, w, hf => by
    rw [lp_next, mulV _ _ (inB_abs hf) (inB_abs hm), orR_s, p_checked, List.length_cons]
    by_cases h : inB (f * m)
    · rw [pwo_in h, bnd_in h]
      exact lp_run c m n hm μ L _ _ h
    · rw [pwo_out h, bnd_out h]
      rfl
theorem powV0 (m n : Int) : binV .Pow (.int m) (.int n) = (match decide (0 ≤ n ∧ n < 65536 ∧ m.natAbs < 65536) with | true => some (V.int (m ^ n.toNat)) | false => none) := by kernel_rfl!
theorem powV (m : Int) (k : Nat) (hm : inB m) (hk : inB k) : binV .Pow (.int m) (.int k) = some (.int (m ^ k)) := by
  have : decide (0 ≤ (k : Int) ∧ (k : Int) < 65536 ∧ m.natAbs < 65536) = true := decide_eq_true (by unfold inB at hm hk; lia)
  rw [powV0, this, Int.toNat_natCast]
theorem neg_pow_even (k : Nat) : (-1 : Int) ^ k = (match decide (k % 2 = 0) with | true => 1 | false => -1) := by
  induction k with
  | zero => rfl
  | succ k ih =>
    rw [Int.pow_succ, ih]
    by_cases h : k % 2 = 0
    · rw [decide_eq_true h, decide_eq_false (show ¬((k + 1) % 2 = 0) by lia)]; rfl
    · rw [decide_eq_false h, decide_eq_true (show (k + 1) % 2 = 0 by lia)]; rfl
theorem pow_same (m : Int) (k : Nat) (hm : inB m) (hk : inB k) : ∃ o : Out, o.good ∧ o.n = 1 ∧ ∀ c μ, Phi (c+4) 32 [.int m, .int k, .int 16] μ = o.P μ ∧ Phi (c+1) 54 [str "**", .int m, .int k] μ = .ret o.L μ := by
  have e0 : ∀ μ, cmpV .Lt (.int k) (.int 0) μ = some false := fun μ => congrArg some (decide_eq_false (by lia))
  have small2 : m.natAbs < 2 → ∀ c μ, Phi (c+1) 54 [str "**", .int m, .int k] μ = .ret (bnd (m ^ k)).L μ := fun h c μ => by
    have e1 : cmpV .Lt (.int (Int.ofNat m.natAbs)) (.int 2) μ = some true := congrArg some (decide_eq_true (by show (m.natAbs : Int) < 2; lia))
    rw [s_pow, e0, e1, powV m k hm hk]
    exact qBV_int ..
  by_cases h0 : k = 0
  · subst h0
    refine iEAA (.val (.int 1)) (by show inB 1; unfold inB; lia) rfl (fun c μ => ⟨?_, ?_⟩)
    · rw [r_raised, e0]
      show iteR (inL (.int m) [.int 0, .int 1]) (aPow m 0 μ) (aPow m 0 μ) = _
      have : inL (.int m) [.int 0, .int 1] = some (decide (0 = m) || decide (1 = m)) := by
        show (match decide (0 = m) with | true => (match decide (1 = m) with | true => some true | false => some false).map fun u9 => true | false => (match decide (1 = m) with | true => some true | false => some false)) = _
        cases decide (0 = m) <;> cases decide (1 = m) <;> rfl
      rw [this]
      cases (decide (0 = m) || decide (1 = m)) <;> rfl
    · by_cases h2 : m.natAbs < 2
      · rw [small2 h2, Int.pow_zero]; rfl
      · have e1 : cmpV .Lt (.int (Int.ofNat m.natAbs)) (.int 2) μ = some false := congrArg some (decide_eq_false (by show ¬((m.natAbs : Int) < 2); lia))
        rw [s_pow, e0, e1, powV m 0 hm hk]
        show qBV (.int (m ^ 0)) μ = _
        rw [Int.pow_zero]
        rfl
  · have en : ∀ μ, eqT μ (.int k) (.int 0) = some false := fun μ => congrArg some (decide_eq_false (by lia))
    by_cases h1 : m = 0
    · subst h1
      refine iEAA (.val (.int 0)) hm rfl (fun c μ => ⟨?_, ?_⟩)
      · rw [r_raised, e0]
        show aPow 0 k μ = _
        unfold aPow
        rw [en]
        rfl
      · rw [small2 (by decide), Int.zero_pow (by omega)]; rfl
    · by_cases h2 : m = 1
      · subst h2
        refine iEAA (.val (.int 1)) hm rfl (fun c μ => ⟨?_, ?_⟩)
        · rw [r_raised, e0]
          show aPow 1 k μ = _
          unfold aPow
          rw [en]
          rfl
        · rw [small2 (by decide), Int.one_pow]; rfl
      · have ei : ∀ μ, cmpV .In (.int m) (.tup [.int 0, .int 1]) μ = some false := fun μ => by
          show inL (.int m) [.int 0, .int 1] = _
          show (match decide (0 = m) with | true => (match decide (1 = m) with | true => some true | false => some false).map fun u9 => true | false => (match decide (1 = m) with | true => some true | false => some false)) = _
          rw [decide_eq_false (show ¬(0 = m) by lia), decide_eq_false (show ¬(1 = m) by lia)]
        by_cases h3 : m = -1
        · subst h3
          refine iEAA (.val (.int ((-1) ^ k))) ?_ rfl (fun c μ => ⟨?_, ?_⟩)
          · show inB ((-1) ^ k)
            rw [neg_pow_even]
            unfold inB
            cases decide (k % 2 = 0) <;> simp
          · rw [r_raised, e0, ei, en]
            have : binV .Mod (.int k) (.int 2) = some (.int ((k % 2 : Nat) : Int)) := congrArg (fun i => some (V.int i)) (Int.ofNat_fmod k 2).symm
            rw [this, neg_pow_even]
            show iteR (some (decide (((k % 2 : Nat) : Int) = 0))) (.ret (.int 1) μ) (.ret (.int (-1)) μ) = _
            by_cases h : k % 2 = 0
            · rw [decide_eq_true h, decide_eq_true (show ((k % 2 : Nat) : Int) = 0 by lia)]; rfl
            · rw [decide_eq_false h, decide_eq_false (show ¬(((k % 2 : Nat) : Int) = 0) by lia)]; rfl
          · rw [small2 (by decide), bnd_in]
            rw [neg_pow_even]
            unfold inB
            cases decide (k % 2 = 0) <;> simp
        · have hm2 : 2 ≤ m.natAbs := by lia
          have em : ∀ μ, eqT μ (.int m) (.int (-1)) = some false := fun μ => congrArg some (decide_eq_false h3)
          have e1 : ∀ μ, cmpV .Lt (.int (Int.ofNat m.natAbs)) (.int 2) μ = some false := fun μ => congrArg some (decide_eq_false (by show ¬((m.natAbs : Int) < 2); lia))
          by_cases h4 : k ≤ 16
          · refine iEAA (pwo m k 1) ((pwo_good m k 1 (by unfold inB; lia)).1) ((pwo_good m k 1 (by unfold inB; lia)).2) (fun c μ => ⟨?_, ?_⟩)
            · have e4 : cmpV .Gt (.int k) (.int 16) μ = some false := congrArg some (decide_eq_false (by lia))
              rw [r_raised, e0, ei, en, em, e4]
              show typV "range" [.int (Int.ofNat k)] μ _ = _
              show (match Nat.blt k 65536 with | true => (match items (.rng k) with | some L => lp32 (c+3) L (r32 m k (.int 1)) μ | none => .stuck) | false => .stuck) = _
              rw [show Nat.blt k 65536 = true from Nat.ble_eq_true_of_le (by lia)]
              show (match (match Nat.blt k 65536 with | true => some ((List.range k).map toI) | false => none) with | some L => lp32 (c+3) L (r32 m k (.int 1)) μ | none => .stuck) = _
              rw [show Nat.blt k 65536 = true from Nat.ble_eq_true_of_le (by lia)]
              show lp32 (c+3) ((List.range k).map toI) (r32 m k (.int 1)) μ = _
              obtain ⟨q, rfl⟩ : ∃ q, k = q + 1 := ⟨k - 1, by lia⟩
              cases hL : (List.range (q + 1)).map toI with
              | nil => simp at hL
              | cons v L =>
                have hl : L.length = q := by
                  have := congrArg List.length hL
                  simp at this
                  lia
                have i1 : inB (1 : Int) := by unfold inB; lia
                have h : inB (1 * m) := by rw [Int.one_mul]; exact hm
                rw [lp_first, mulV _ _ (inB_abs i1) (inB_abs hm), orR_s, p_checked, pwo_in h, bnd_in h]
                show lp32 (c+3) L (r32 m (q+1 : Nat) (.int (1 * m)) ++ tr v) μ = (pwo m q (1 * m)).P μ
                rw [← hl]
                exact lp_run (c+1) m _ hm μ L _ _ h
            · have e5 : cmpV .Lt (.int k) (.int 17) μ = some true := congrArg some (decide_eq_true (by lia))
              rw [s_pow, e0, e1, e5, powV m k hm hk, pwo_is m hm2 k 1 (by unfold inB; lia), Int.one_mul]
              exact qBV_int ..
          · refine iEAA (.err 2) ((by first | exact rfl | exact True.intro | assumption)) rfl (fun c μ => ⟨?_, ?_⟩)
            · have e4 : cmpV .Gt (.int k) (.int 16) μ = some true := congrArg some (decide_eq_true (by lia))
              rw [r_raised, e0, ei, en, em, e4]
              rfl
            · have e5 : cmpV .Lt (.int k) (.int 17) μ = some false := congrArg some (decide_eq_false (by lia))
              rw [s_pow, e0, e1, e5]
              rfl
noncomputable def Reck (op : String) (m n : Int) : Prop := ∃ o : Out, o.good ∧ o.n = 1 ∧ ∀ c μ, Phi (c+5) 33 [str op, .int m, .int n, .int 16] μ = o.P μ ∧ Phi (c+1) 54 [str op, .int m, .int n] μ = .ret o.L μ
theorem reck_plus (m n : Int) (hm : inB m) (hn : inB n) : Reck "+" m n := ⟨bnd (m + n), (bnd_good _).1, (bnd_good _).2, fun c μ => ⟨by rw [r_plus, p_checked, bndR], by rw [s_plus, mulV _ _ (inB_abs hm) (inB_abs hn)]; exact qB_is ..⟩⟩
theorem reck_minus (m n : Int) (hm : inB m) (hn : inB n) : Reck "-" m n := ⟨bnd (m - n), (bnd_good _).1, (bnd_good _).2, fun c μ => ⟨by rw [r_minus, p_checked, bndR], by rw [s_minus, mulV _ _ (inB_abs hm) (inB_abs hn)]; exact qB_is ..⟩⟩
theorem reck_times (m n : Int) (hm : inB m) (hn : inB n) : Reck "*" m n := ⟨bnd (m * n), (bnd_good _).1, (bnd_good _).2, fun c μ => ⟨by
    rw [r_times, mulV _ _ (inB_abs hm) (inB_abs hn)]
    show bindR (Phi (c+4) 18 [.int (m * n), .int 16] μ) _ = _
    rw [p_checked, bndR], by rw [s_times, mulV _ _ (inB_abs hm) (inB_abs hn)]; exact qB_is ..⟩⟩
theorem reck_div (m n : Int) (hm : inB m) (hn : inB n) : Reck "/" m n := by
  by_cases h0 : n = 0
  · subst h0
    exact ⟨.err 2, (by first | exact rfl | exact True.intro | assumption), rfl, fun c μ => ⟨by rw [r_div, d_div]; rfl, by rw [s_div]; rfl⟩⟩
  · exact ⟨bnd (divI m n), (bnd_good _).1, (bnd_good _).2, fun c μ => ⟨(div_same m n hm hn h0 (c+2) μ).1, (div_same m n hm hn h0 c μ).2⟩⟩
theorem outRet (o : Out) (μ : Mu) : bindR (o.P μ) Res.ret = o.P μ := by cases o <;> rfl
theorem reck_pow (m n : Int) (hm : inB m) (hn : inB n) : Reck "**" m n := by
  by_cases h0 : n < 0
  · exact ⟨.err 2, (by first | exact rfl | exact True.intro | assumption), rfl, fun c μ => by
      have e : cmpV .Lt (.int n) (.int 0) μ = some true := congrArg some (decide_eq_true h0)
      exact ⟨by rw [r_pow, r_raised, e]; rfl, by rw [s_pow, e]; rfl⟩⟩
  · obtain ⟨k, rfl⟩ : ∃ k : Nat, n = k := ⟨n.toNat, by lia⟩
    refine eEAA (pow_same m k hm hn) fun o o1 o2 o3 => ?_
    exact ⟨o, o1, o2, fun c μ => ⟨by rw [r_pow, (o3 c μ).1, outRet], (o3 c μ).2⟩⟩
end Mine

end

section
namespace Mine
open PySem
noncomputable def fB (i : Nat) : Fn := (fnInfo i).getD ⟨[], [], []⟩
noncomputable def cut (c i j : Nat) (ρ : Rho) (μ : Mu) : Res := evS (60 - j) (topCx (fB i).kinds (Phi c)) ρ ((fB i).body.drop j) μ fun u9 μ => .ret .none μ
noncomputable abbrev un (t : V) : V := .tup [str "unary", str "$", t]
noncomputable abbrev vS (s : String) (v : V) : Str × Slot := (Str.ofString s, .val v)
section
variable (c i : Nat) (h l r t v w x y g wd p q : V) (μ : Mu) (lg : V) (k : List Nat)
theorem b_minus (a b : V) : Phi (c+1) 37 [hkV i, str "-", a, b] μ = bindR (Phi c 17 [a, .int 16] μ) fun x μ => bindR (Phi c 17 [b, .int 16] μ) fun y μ => bindR (Phi c 33 [str "-", x, y, .int 16] μ) Res.ret := by kernel_rfl!
theorem b_times (a b : V) : Phi (c+1) 37 [hkV i, str "*", a, b] μ = bindR (Phi c 17 [a, .int 16] μ) fun x μ => bindR (Phi c 17 [b, .int 16] μ) fun y μ => bindR (Phi c 33 [str "*", x, y, .int 16] μ) Res.ret := by kernel_rfl!
theorem b_div (a b : V) : Phi (c+1) 37 [hkV i, str "/", a, b] μ = bindR (Phi c 17 [a, .int 16] μ) fun x μ => bindR (Phi c 17 [b, .int 16] μ) fun y μ => bindR (Phi c 33 [str "/", x, y, .int 16] μ) Res.ret := by kernel_rfl!
theorem b_pow (a b : V) : Phi (c+1) 37 [hkV i, str "**", a, b] μ = bindR (Phi c 17 [a, .int 16] μ) fun x μ => bindR (Phi c 17 [b, .int 16] μ) fun y μ => bindR (Phi c 33 [str "**", x, y, .int 16] μ) Res.ret := by kernel_rfl!
theorem b_or (a b : V) : Phi (c+1) 37 [hkV i, str "|", a, b] μ = bindR (Phi c 36 [a, b] μ) Res.ret := by kernel_rfl!
theorem b_either (p q : V) : Phi (c+1) 36 [p, q] μ = bindR (Phi c 34 [p] μ) fun b μ => tstN b (.exc 1 μ) (bindR (Phi c 34 [q] μ) fun b μ => tstN b (.exc 1 μ)
  (bindR (Phi c 27 [p] μ) fun m μ => bindR (Phi c 27 [q] μ) fun n μ => bindR (Phi c 26 [m, n] μ) fun z μ => mkInst 2 [z] μ Res.ret)) := by kernel_rfl!
noncomputable abbrev lArith (op : String) (c : Nat) (p q : V) (μ : Mu) : Res := bindR (Phi c 51 [p] μ) fun x μ => iteR (cmpV .Is x .none μ) (.ret (.tup [str "error", .int 1]) μ) (bindR (Phi c 51 [q] μ) fun y μ => iteR (cmpV .Is y .none μ) (.ret (.tup [str "error", .int 1]) μ)
  (bindR (Phi c 51 [p] μ) fun x μ => bindR (Phi c 51 [q] μ) fun y μ => bindR (Phi c 54 [str op, x, y] μ) Res.ret))
theorem l_plus : Phi (c+1) 56 [str "+", p, q] μ = lArith "+" c p q μ := by kernel_rfl!
theorem l_minus : Phi (c+1) 56 [str "-", p, q] μ = lArith "-" c p q μ := by kernel_rfl!
theorem l_times : Phi (c+1) 56 [str "*", p, q] μ = lArith "*" c p q μ := by kernel_rfl!
theorem l_div : Phi (c+1) 56 [str "/", p, q] μ = lArith "/" c p q μ := by kernel_rfl!
theorem l_pow : Phi (c+1) 56 [str "**", p, q] μ = lArith "**" c p q μ := by kernel_rfl!
theorem l_or : Phi (c+1) 56 [str "|", p, q] μ = qKn "alt" c p q μ := by kernel_rfl!
theorem l_hash : Phi (c+1) 56 [str "#", p, q] μ = .ret (.tup [str "error", .int 5]) μ := by kernel_rfl!
/-! one operand -/
theorem u_plus : Phi (c+1) 38 [hkV i, str "+", v] μ = bindR (Phi c 17 [v, .int 16] μ) fun x μ => .ret x μ := by kernel_rfl!
theorem u_minus : Phi (c+1) 38 [hkV i, str "-", v] μ = bindR (Phi c 17 [v, .int 16] μ) fun x μ => (match x with | .int n => bindR (Phi c 18 [.int (-n), .int 16] μ) Res.ret | _ => .stuck) := by kernel_rfl!
theorem p_one_minus : Phi (c+1) 44 [str "-", t, h] μ = bindR (Phi c 41 [t, h] μ) fun v μ => bindR (Phi c 8 [v] μ) fun b μ => tst b (.ret v μ) (bindR (Phi c 38 [h, str "-", v] μ) Res.ret) := by kernel_rfl!
theorem l_one_plus : Phi (c+1) 58 [str "+", t, lawW, lg] μ = bindR (Phi c 60 [t, lawW, lg] μ) fun u μ => cut c 58 3 [vS "op" (str "+"), vS "tree" t, vS "world" lawW, vS "log" lg, vS "told" u] μ := by kernel_rfl!
theorem l_one_minus : Phi (c+1) 58 [str "-", t, lawW, lg] μ = bindR (Phi c 60 [t, lawW, lg] μ) fun u μ => cut c 58 3 [vS "op" (str "-"), vS "tree" t, vS "world" lawW, vS "log" lg, vS "told" u] μ := by kernel_rfl!
theorem l_one_q : Phi (c+1) 58 [str "?", t, lawW, lg] μ = bindR (Phi c 60 [t, lawW, lg] μ) fun u μ => cut c 58 3 [vS "op" (str "?"), vS "tree" t, vS "world" lawW, vS "log" lg, vS "told" u] μ := by kernel_rfl!
theorem p_one_dollar : Phi (c+1) 44 [str "$", t, hkV i] μ = bindR (Phi c 43 [un t, hkV i] μ) fun u μ => bindR (Phi c 8 [u] μ) fun b μ => tst b (.ret u μ) (orR (fieldV u (Str.ofString "key")) fun k => bindR (Phi c 101 [hkV i, k] μ) Res.ret) := by kernel_rfl!
theorem l_one_dollar : Phi (c+1) 58 [str "$", t, lawW, lg] μ = bindR (Phi c 57 [un t, lawW, lg] μ) fun u μ => orR (itemV μ u (.int 0)) fun hw => iteR (neT μ hw (str "value")) (.ret u μ) (orR (itemV μ u (.int 1)) fun w => orR (itemV μ w (.int 1)) fun k => getV lawW [k, str ""] μ fun x μ => .ret (.tup [str "value", x]) μ) := by kernel_rfl!
theorem p_name_un : Phi (c+1) 43 [un t, hkV i] μ = bindR (Phi c 41 [t, hkV i] μ) fun u μ => cut c 43 3 [vS "tree" (un t), vS "hooks" (hkV i), vS "value" u] μ := by kernel_rfl!
theorem l_name_un : Phi (c+1) 57 [un t, lawW, lg] μ = bindR (Phi c 60 [t, lawW, lg] μ) fun u μ => cut c 57 3 [vS "tree" (un t), vS "world" lawW, vS "log" lg, vS "told" u] μ := by kernel_rfl!
theorem p_get : Phi (c+1) 101 [hkV i, sv k] μ = (match look ⟨⟨k⟩⟩ (lawNs.zip [.int 5, str "12", .inst 2 [.tup [str "len", .int 2]], .inst 5 [str "var", .none, str "N"]]) with | some v => .ret v μ | none => .ret (str "") μ) := by kernel_rfl!
/-! calls -/
noncomputable abbrev pushR (μ : Mu) (i : Nat) (v : V) (k : Mu → Res) : Res := match pushCell μ i v with | some μ => k μ | none => .stuck
theorem c_F0 : Phi (c+2) 102 [hkV i, str "F", .list []] μ = pushR μ i (.tup [str "F", .int 0]) fun μ => .ret failV μ := by kernel_rfl!
theorem c_F1 : Phi (c+2) 102 [hkV i, str "F", .list [x]] μ = pushR μ i (.tup [str "F", .int 1]) fun μ => .ret x μ := by kernel_rfl!
theorem c_F2 : Phi (c+2) 102 [hkV i, str "F", .list [x, y]] μ = pushR μ i (.tup [str "F", .int 2]) fun μ => .ret failV μ := by kernel_rfl!
theorem c_G0 : Phi (c+2) 102 [hkV i, str "G", .list []] μ = pushR μ i (.tup [str "G", .int 0]) fun μ => .ret (.int 0) μ := by kernel_rfl!
theorem c_G1 : Phi (c+2) 102 [hkV i, str "G", .list [x]] μ = pushR μ i (.tup [str "G", .int 1]) fun μ => .ret (.int 1) μ := by kernel_rfl!
theorem c_G2 : Phi (c+2) 102 [hkV i, str "G", .list [x, y]] μ = pushR μ i (.tup [str "G", .int 2]) fun μ => .ret (.int 2) μ := by kernel_rfl!
theorem c_H0 : Phi (c+2) 102 [hkV i, str "H", .list []] μ = pushR μ i (.tup [str "H", .int 0]) fun μ => .ret (str "ab") μ := by kernel_rfl!
theorem c_H1 : Phi (c+2) 102 [hkV i, str "H", .list [x]] μ = pushR μ i (.tup [str "H", .int 1]) fun μ => .ret (str "ab") μ := by kernel_rfl!
theorem c_H2 : Phi (c+2) 102 [hkV i, str "H", .list [x, y]] μ = pushR μ i (.tup [str "H", .int 2]) fun μ => .ret (str "ab") μ := by kernel_rfl!
theorem d_NOPE (a : V) : Phi (c+1) 59 [str "NOPE", a, lg] μ = .ret (.tup [str "error", .int 5]) μ := by kernel_rfl!
theorem d_F0 : Phi (c+1) 59 [str "F", .list [], .cell i] μ = pushR μ i (.tup [str "F", .int 0]) fun μ => .ret (.tup [str "fail", .none]) μ := by kernel_rfl!
theorem d_F1 : Phi (c+1) 59 [str "F", .list [x], .cell i] μ = pushR μ i (.tup [str "F", .int 1]) fun μ => .ret (.tup [str "value", x]) μ := by kernel_rfl!
theorem d_F2 : Phi (c+1) 59 [str "F", .list [x, y], .cell i] μ = pushR μ i (.tup [str "F", .int 2]) fun μ => .ret (.tup [str "fail", .none]) μ := by kernel_rfl!
theorem d_G0 : Phi (c+1) 59 [str "G", .list [], .cell i] μ = pushR μ i (.tup [str "G", .int 0]) fun μ => .ret (.tup [str "value", .int 0]) μ := by kernel_rfl!
theorem d_G1 : Phi (c+1) 59 [str "G", .list [x], .cell i] μ = pushR μ i (.tup [str "G", .int 1]) fun μ => .ret (.tup [str "value", .int 1]) μ := by kernel_rfl!
theorem d_G2 : Phi (c+1) 59 [str "G", .list [x, y], .cell i] μ = pushR μ i (.tup [str "G", .int 2]) fun μ => .ret (.tup [str "value", .int 2]) μ := by kernel_rfl!
theorem d_H0 : Phi (c+1) 59 [str "H", .list [], .cell i] μ = pushR μ i (.tup [str "H", .int 0]) fun μ => .ret (.tup [str "value", str "ab"]) μ := by kernel_rfl!
theorem d_H1 : Phi (c+1) 59 [str "H", .list [x], .cell i] μ = pushR μ i (.tup [str "H", .int 1]) fun μ => .ret (.tup [str "value", str "ab"]) μ := by kernel_rfl!
theorem d_H2 : Phi (c+1) 59 [str "H", .list [x, y], .cell i] μ = pushR μ i (.tup [str "H", .int 2]) fun μ => .ret (.tup [str "value", str "ab"]) μ := by kernel_rfl!
end
end Mine

end

section
namespace Mine
open PySem
theorem bA (r : Res) (f g : V → Mu → Res) : bindR (bindR r f) g = bindR r fun v μ => bindR (f v μ) g := by cases r <;> rfl
theorem oP_n (o : Out) : 1 ≤ o.n := by
  cases o with
  | val v =>
    cases v with
    | pat n => show 1 ≤ n.n; cases n <;> first | exact Nat.le_refl 1 | exact Nat.le_add_left 1 _
    | _ => exact Nat.le_refl 1
  | _ => exact Nat.le_refl 1
theorem arith_same (op : String) (hr : ∀ m n, inB m → inB n → Reck op m n)
    (hp : ∀ c i μ (a b : V), Phi (c+1) 37 [hkV i, str op, a, b] μ = bindR (Phi c 17 [a, .int 16] μ) fun x μ => bindR (Phi c 17 [b, .int 16] μ) fun y μ => bindR (Phi c 33 [str op, x, y, .int 16] μ) Res.ret)
    (hl : ∀ c (p q : V) μ, Phi (c+1) 56 [str op, p, q] μ = lArith op c p q μ)
    (a b : Val) (ha : a.good) (hb : b.good) : Same2 a b (fun c i μ => Phi (c+6) 37 [hkV i, str op, a.P, b.P] μ) (fun c μ => Phi (c+6) 56 [str op, a.L, b.L] μ) := by
  refine eEA (whole_val a ha) fun x hx ex => ?_
  refine eEA (whole_val b hb) fun y hy ey => ?_
  cases x with
  | none =>
    refine ⟨.err 1, (by first | exact rfl | exact True.intro | assumption), by show 1 ≤ _; lia, fun c μ => ⟨fun i => ?_, ?_⟩⟩
    · show Phi (c+6) 37 [hkV i, str op, a.P, b.P] μ = _
      rw [hp, (ex c μ).1]; rfl
    · show Phi (c+6) 56 [str op, a.L, b.L] μ = _
      rw [hl]; unfold lArith; rw [(ex c μ).2]; rfl
  | some m => cases y with
    | none =>
      refine ⟨.err 1, (by first | exact rfl | exact True.intro | assumption), by show 1 ≤ _; lia, fun c μ => ⟨fun i => ?_, ?_⟩⟩
      · show Phi (c+6) 37 [hkV i, str op, a.P, b.P] μ = _
        rw [hp, (ex c μ).1]
        show bindR (Phi (c+5) 17 [b.P, .int 16] μ) _ = _
        rw [(ey c μ).1]; rfl
      · show Phi (c+6) 56 [str op, a.L, b.L] μ = _
        rw [hl]; unfold lArith; rw [(ex c μ).2]
        show bindR (Phi (c+5) 51 [b.L] μ) _ = _
        rw [(ey c μ).2]; rfl
    | some n =>
      refine eEAA (hr m n (hx m rfl) (hy n rfl)) fun o o1 o2 o3 => ?_
      refine ⟨o, o1, by lia, fun c μ => ⟨fun i => ?_, ?_⟩⟩
      · show Phi (c+6) 37 [hkV i, str op, a.P, b.P] μ = _
        rw [hp, (ex c μ).1]
        show bindR (Phi (c+5) 17 [b.P, .int 16] μ) _ = _
        rw [(ey c μ).1]
        show bindR (Phi (c+5) 33 [str op, .int m, .int n, .int 16] μ) _ = _
        rw [(o3 c μ).1, outRet]
      · show Phi (c+6) 56 [str op, a.L, b.L] μ = _
        rw [hl]; unfold lArith; rw [(ex c μ).2]
        show bindR (Phi (c+5) 51 [b.L] μ) _ = _
        rw [(ey c μ).2]
        show bindR (Phi (c+5) 51 [a.L] μ) _ = _
        rw [(ex c μ).2]
        show bindR (Phi (c+5) 51 [b.L] μ) _ = _
        rw [(ey c μ).2]
        show bindR (Phi (c+5) 54 [str op, .int m, .int n] μ) _ = _
        rw [(o3 (c+4) μ).2]
        rfl
theorem nd2_good (f : Nd → Nd → Nd) (hf : ∀ m n, m.ok → n.ok → (f m n).isC = false ∧ (f m n).ok ∧ (f m n).n = m.n + n.n + 1) (a b : Val) (ha : a.good) (hb : b.good) : (nd2 f a b).good ∧ (nd2 f a b).n ≤ a.n + b.n + 1 := by
  unfold nd2
  cases ea : a.nd with
  | none => exact ⟨(by first | exact rfl | exact True.intro | assumption), by show 1 ≤ _; lia⟩
  | some m => cases eb : b.nd with
    | none => exact ⟨(by first | exact rfl | exact True.intro | assumption), by show 1 ≤ _; lia⟩
    | some n =>
      have ga := nd_good ha ea
      have gb := nd_good hb eb
      have h := hf m n ga.1 gb.1
      exact ⟨⟨h.1, h.2.1⟩, by show (f m n).n ≤ _; rw [h.2.2, ga.2.1, gb.2.1]; lia⟩
theorem or_same (a b : Val) (ha : a.good) (hb : b.good) : Same2 a b (fun c i μ => Phi (c+6) 37 [hkV i, str "|", a.P, b.P] μ) (fun c μ => Phi (c+6) 56 [str "|", a.L, b.L] μ) := by
  have g := nd2_good .alt (fun m n hm hn => ⟨rfl, ⟨hm, hn⟩, rfl⟩) a b ha hb
  refine ⟨nd2 .alt a b, g.1, g.2, fun c μ => ⟨fun i => ?_, ?_⟩⟩
  · show Phi (c+6) 37 [hkV i, str "|", a.P, b.P] μ = _
    rw [b_or, b_either, p_ispart, bR, p_ispart, bR, p_pattern _ _ _ ha]
    unfold nd2
    cases ea : a.nd with
    | none => rfl
    | some m =>
      rw [bR, p_pattern _ _ _ hb]
      cases eb : b.nd with
      | none => rfl
      | some n =>
        show bindR (bindR (Phi (c+4) 26 [.tup m.p, .tup n.p] μ) fun z μ => mkInst 2 [z] μ Res.ret) Res.ret = _
        rw [p_either]
        rfl
  · show Phi (c+6) 56 [str "|", a.L, b.L] μ = _
    rw [l_or, qKn_is _ _ _ _ _ ha hb]
    unfold nd2
    cases ea : a.nd with
    | none => rfl
    | some m => cases eb : b.nd <;> rfl
theorem hash_same (a b : Val) : Same2 a b (fun c i μ => Phi (c+6) 37 [hkV i, str "#", a.P, b.P] μ) (fun c μ => Phi (c+6) 56 [str "#", a.L, b.L] μ) :=
  ⟨.err 5, (by first | exact rfl | exact True.intro | assumption), by show 1 ≤ _; lia, fun c μ => ⟨fun i => p_bin_hash .., l_hash ..⟩⟩
inductive Op2 : String → Prop where
  | plus : Op2 "+" | minus : Op2 "-" | times : Op2 "*" | div : Op2 "/" | pow : Op2 "**" | or : Op2 "|" | hash : Op2 "#"
theorem two_same {op : String} (h : Op2 op) (a b : Val) (ha : a.good) (hb : b.good) : Same2 a b (fun c i μ => Phi (c+6) 37 [hkV i, str op, a.P, b.P] μ) (fun c μ => Phi (c+6) 56 [str op, a.L, b.L] μ) := by
  cases h with
  | plus => exact arith_same "+" reck_plus (fun c i μ a b => p_bin_plus c i μ a b) (fun c p q μ => l_plus c p q μ) a b ha hb
  | minus => exact arith_same "-" reck_minus (fun c i μ a b => b_minus c i μ a b) (fun c p q μ => l_minus c p q μ) a b ha hb
  | times => exact arith_same "*" reck_times (fun c i μ a b => b_times c i μ a b) (fun c p q μ => l_times c p q μ) a b ha hb
  | div => exact arith_same "/" reck_div (fun c i μ a b => b_div c i μ a b) (fun c p q μ => l_div c p q μ) a b ha hb
  | pow => exact arith_same "**" reck_pow (fun c i μ a b => b_pow c i μ a b) (fun c p q μ => l_pow c p q μ) a b ha hb
  | or => exact or_same a b ha hb
  | hash => exact hash_same a b
/-! ### evaluation -/
noncomputable def on2 (o1 o2 : Out) (f : Val → Val → Res) (g2 g1 : Out → Res) : Res := match o1 with
  | .val v => (match o2 with | .val w => f v w | o => g2 o)
  | o => g1 o
noncomputable def LogOk (E : List V) : Prop := ∀ e ∈ E, eqV 90 e e = some true
theorem LogOk.nil : LogOk [] := fun e h => nomatch h
theorem LogOk.app {A B : List V} (a : LogOk A) (b : LogOk B) : LogOk (A ++ B) := fun e h => (List.mem_append.1 h).elim (a e) (b e)
noncomputable def Sim (d : Nat) (t : V) : Prop := ∃ (o : Out) (E : List V), o.good ∧ o.n + 1 ≤ 2 ^ (d + 1) ∧ (E.length + 1 ≤ 2 ^ d ∧ LogOk E) ∧ ∀ c, 10 * d + 10 ≤ c → ∀ b l h, l.length + 2 ^ d ≤ 1000 → h.length + 2 ^ d ≤ 1000 →
  Phi c 41 [t, hkV 2] [b, l, h] = o.P [b, l, h ++ E] ∧ Phi c 60 [t, lawW, .cell 1] [b, l, h] = .ret o.L [b, l ++ E, h]
theorem Sim.up {d : Nat} {t : V} (h : Sim d t) : Sim (d + 1) t := by
  refine eEEAAA (h) fun o E g n yy4 s => ?_
  try clear h
  obtain ⟨e, lo⟩ := yy4
  refine ⟨o, E, g, ?_, ⟨?_, lo⟩, fun c hc b l h hl hh => s c (by lia) b l h ?_ ?_⟩
  · rw [Nat.pow_succ]; lia
  · rw [Nat.pow_succ]; lia
  · rw [Nat.pow_succ] at hl; lia
  · rw [Nat.pow_succ] at hh; lia
theorem f_fail (c : Nat) (μ : Mu) (v : Val) : Phi (c+1) 8 [v.P] μ = .ret (.bool false) μ := by
  cases v with
  | int i => exact p_fail_int ..
  | str l => exact p_fail_str ..
  | pat n => exact p_fail_pat ..
  | del t => exact p_fail_del ..
  | ref k => exact p_fail_ref ..
theorem tst_t (t e : Res) : tst (.bool true) t e = t := rfl
theorem tst_f (t e : Res) : tst (.bool false) t e = e := rfl
theorem oPv (v : Val) (μ : Mu) : (Out.val v).P μ = .ret v.P μ := rfl
theorem oPf (μ : Mu) : Out.fail.P μ = .ret failV μ := rfl
theorem oPe (n : Int) (μ : Mu) : (Out.err n).P μ = .exc n μ := rfl
theorem two_P (c : Nat) (l r : V) (o1 o2 : Out) (μ μ1 μ2 : Mu) (K : V → Mu → Res) (h1 : Phi (c+1) 41 [l, hkV 2] μ = o1.P μ1) (h2 : Phi (c+1) 41 [r, hkV 2] μ1 = o2.P μ2) (a : V) (ha : a = .list [l, r] ∨ a = .tup [l, r]) :
    bindR (Phi (c+2) 42 [a, hkV 2] μ) (fun a μ => bindR (Phi (c+2) 8 [a] μ) fun b μ => tst b (.ret a μ) (K a μ)) = on2 o1 o2 (fun v w => K (.list [v.P, w.P]) μ2) (fun o => o.P μ2) (fun o => o.P μ1) := by
  have e : Phi (c+2) 42 [a, hkV 2] μ = bindR (Phi (c+1) 41 [l, hkV 2] μ) (kTwo c r (hkV 2)) := by
    cases ha with
    | inl h => rw [h]; exact p_worths_l2 ..
    | inr h => rw [h]; exact p_worths_t2 ..
  rw [e, h1]
  cases o1 with
  | val v =>
    unfold kTwo
    rw [oPv, bR, f_fail, bR, tst_f, h2]
    cases o2 with
    | val w => rw [oPv, bR, f_fail, bR, tst_f, bR, p_fail_list, bR, tst_f]; rfl
    | fail => rw [oPf, bR, p_fail_inst, bR, tst_t, bR, p_fail_inst, bR, tst_t]; rfl
    | err n => rfl
  | fail =>
    unfold kTwo
    rw [oPf, bR, p_fail_inst, bR, tst_t, bR, p_fail_inst, bR, tst_t]; rfl
  | err n => rfl
theorem two_L (c : Nat) (l r : V) (o1 o2 : Out) (μ μ1 μ2 : Mu) (K : V → V → Mu → Res) (h1 : Phi c 60 [l, lawW, .cell 1] μ = .ret o1.L μ1) (h2 : Phi c 60 [r, lawW, .cell 1] μ1 = .ret o2.L μ2) :
    (bindR (Phi c 60 [l, lawW, .cell 1] μ) fun t μ => tv t μ fun a => bindR (Phi c 60 [r, lawW, .cell 1] μ) fun t μ => tv t μ fun b => K a b μ) = on2 o1 o2 (fun v w => K v.L w.L μ2) (fun o => .ret o.L μ2) (fun o => .ret o.L μ1) := by
  rw [h1]
  cases o1 with
  | val v =>
    show bindR (Phi c 60 [r, lawW, .cell 1] μ1) _ = _
    rw [h2]
    cases o2 <;> rfl
  | fail => rfl
  | err n => rfl
theorem sim_two {d : Nat} {l r T : V} (hl : Sim d l) (hr : Sim d r) (W : Res → Res) (hW : ∀ o μ, W (Out.P o μ) = o.P μ) (KP : Nat → V → Mu → Res) (KL : Nat → V → V → Mu → Res) (j : Nat) (hj : j ≤ 2)
    (a : V) (ha : a = .list [l, r] ∨ a = .tup [l, r])
    (hP : ∀ c μ, Phi (c+2+j) 41 [T, hkV 2] μ = W (bindR (Phi (c+2) 42 [a, hkV 2] μ) fun a μ => bindR (Phi (c+2) 8 [a] μ) fun b μ => tst b (.ret a μ) (KP (c+2) a μ)))
    (hL : ∀ c μ, Phi (c+1) 60 [T, lawW, .cell 1] μ = bindR (Phi c 60 [l, lawW, .cell 1] μ) fun t μ => tv t μ fun a => bindR (Phi c 60 [r, lawW, .cell 1] μ) fun t μ => tv t μ fun b => KL c a b μ)
    (hK : ∀ v w : Val, v.good → w.good → ∃ (o : Out) (E : List V), o.good ∧ o.n ≤ v.n + w.n + 1 ∧ (E.length ≤ 1 ∧ LogOk E) ∧ ∀ c b l h, 8 ≤ c → l.length ≤ 1000 → h.length ≤ 1000 → KP c (.list [v.P, w.P]) [b, l, h] = o.P [b, l, h ++ E] ∧ KL c v.L w.L [b, l, h] = .ret o.L [b, l ++ E, h]) :
    Sim (d + 1) T := by
  refine eEEAAA (hl) fun o1 E1 g1 n1 yy4 s1 => ?_
  try clear hl
  obtain ⟨e1, lo1⟩ := yy4
  refine eEEAAA (hr) fun o2 E2 g2 n2 yy4 s2 => ?_
  try clear hr
  obtain ⟨e2, lo2⟩ := yy4
  have hp : 2 ^ (d + 1) = 2 * 2 ^ d := by rw [Nat.pow_succ]; lia
  have hp2 : 2 ^ (d + 1 + 1) = 2 * 2 ^ (d + 1) := by rw [Nat.pow_succ]; lia
  -- what both sides come to
  have P : ∀ c b x h, 10 * (d + 1) + 10 ≤ c → x.length + 2 ^ (d + 1) ≤ 1000 → h.length + 2 ^ (d + 1) ≤ 1000 → ∃ e, 8 ≤ e ∧ Phi c 41 [T, hkV 2] [b, x, h] = W (on2 o1 o2 (fun v w => KP e (.list [v.P, w.P]) [b, x, h ++ E1 ++ E2]) (fun o => o.P [b, x, h ++ E1 ++ E2]) (fun o => o.P [b, x, h ++ E1])) := fun c b x h hc hx hh => by
    obtain ⟨e, rfl⟩ : ∃ e, c = e + 2 + j := ⟨c - 2 - j, by lia⟩
    refine iEA (e + 2) (by lia) ?_
    rw [hP, two_P e l r o1 o2 _ _ _ _ (s1 (e+1) (by lia) b x h (by lia) (by lia)).1 (s2 (e+1) (by lia) b x (h ++ E1) (by lia) (by rw [List.length_append]; lia)).1 a ha]
  have L : ∀ c b x h, 10 * (d + 1) + 10 ≤ c → x.length + 2 ^ (d + 1) ≤ 1000 → h.length + 2 ^ (d + 1) ≤ 1000 → ∃ e, 8 ≤ e ∧ Phi c 60 [T, lawW, .cell 1] [b, x, h] = on2 o1 o2 (fun v w => KL e v.L w.L [b, x ++ E1 ++ E2, h]) (fun o => .ret o.L [b, x ++ E1 ++ E2, h]) (fun o => .ret o.L [b, x ++ E1, h]) := fun c b x h hc hx hh => by
    obtain ⟨e, rfl⟩ : ∃ e, c = e + 1 := ⟨c - 1, by lia⟩
    refine iEA e (by lia) ?_
    rw [hL, two_L e l r o1 o2 _ _ _ _ (s1 e (by lia) b x h (by lia) (by lia)).2 (s2 e (by lia) b (x ++ E1) h (by rw [List.length_append]; lia) (by lia)).2]
  have q1 := oP_n o1
  have q2 := oP_n o2
  cases o1 with
  | val v => cases o2 with
    | val w =>
      refine eEEAAA (hK v w g1 g2) fun o E g n yy4 s => ?_
      obtain ⟨e, lo⟩ := yy4
      have n' : o.n ≤ v.n + w.n + 1 := n
      have nv : v.n + 1 ≤ 2 ^ (d + 1) := n1
      have nw : w.n + 1 ≤ 2 ^ (d + 1) := n2
      refine ⟨o, E1 ++ E2 ++ E, g, by lia, ⟨by rw [List.length_append, List.length_append]; lia, (lo1.app lo2).app lo⟩, fun c hc b x h hx hh => ?_⟩
      refine eEA (P c b x h hc hx hh) fun e' he' p => ?_
      refine eEA (L c b x h hc hx hh) fun e'' he'' q => ?_
      constructor
      · rw [p]
        show W (KP e' (.list [v.P, w.P]) [b, x, h ++ E1 ++ E2]) = _
        rw [(s e' b x (h ++ E1 ++ E2) he' (by lia) (by rw [List.length_append, List.length_append]; lia)).1, hW, List.append_assoc, List.append_assoc, List.append_assoc]
      · rw [q]
        show KL e'' v.L w.L [b, x ++ E1 ++ E2, h] = _
        rw [(s e'' b (x ++ E1 ++ E2) h he'' (by rw [List.length_append, List.length_append]; lia) (by lia)).2, List.append_assoc, List.append_assoc, List.append_assoc]
    | fail =>
      refine ⟨.fail, E1 ++ E2, (by first | exact rfl | exact True.intro | assumption), by show 1 + 1 ≤ _; lia, ⟨by rw [List.length_append]; lia, lo1.app lo2⟩, fun c hc b x h hx hh => ?_⟩
      refine eEA (P c b x h hc hx hh) fun e' he' p => ?_
      refine eEA (L c b x h hc hx hh) fun e'' he'' q => ?_
      rw [← List.append_assoc, ← List.append_assoc]
      exact ⟨p.trans (hW .fail _), q⟩
    | err m =>
      refine ⟨.err m, E1 ++ E2, (by first | exact rfl | exact True.intro | assumption), by show 1 + 1 ≤ _; lia, ⟨by rw [List.length_append]; lia, lo1.app lo2⟩, fun c hc b x h hx hh => ?_⟩
      refine eEA (P c b x h hc hx hh) fun e' he' p => ?_
      refine eEA (L c b x h hc hx hh) fun e'' he'' q => ?_
      rw [← List.append_assoc, ← List.append_assoc]
      exact ⟨p.trans (hW (.err m) _), q⟩
  | fail =>
    refine ⟨.fail, E1, (by first | exact rfl | exact True.intro | assumption), by show 1 + 1 ≤ _; lia, ⟨by lia, lo1⟩, fun c hc b x h hx hh => ?_⟩
    refine eEA (P c b x h hc hx hh) fun e' he' p => ?_
    refine eEA (L c b x h hc hx hh) fun e'' he'' q => ?_
    exact ⟨p.trans (hW .fail _), q⟩
  | err m =>
    refine ⟨.err m, E1, (by first | exact rfl | exact True.intro | assumption), by show 1 + 1 ≤ _; lia, ⟨by lia, lo1⟩, fun c hc b x h hx hh => ?_⟩
    refine eEA (P c b x h hc hx hh) fun e' he' p => ?_
    refine eEA (L c b x h hc hx hh) fun e'' he'' q => ?_
    exact ⟨p.trans (hW (.err m) _), q⟩
theorem sim_one {d : Nat} {t T : V} (ht : Sim d t) (KP KL : Nat → V → Mu → Res) (j k : Nat) (hj : j ≤ 4) (hk : k ≤ 4)
    (hP : ∀ c μ, Phi (c+1+j) 41 [T, hkV 2] μ = bindR (Phi (c+1) 41 [t, hkV 2] μ) (KP (c+1)))
    (hL : ∀ c μ, Phi (c+1+k) 60 [T, lawW, .cell 1] μ = bindR (Phi (c+1) 60 [t, lawW, .cell 1] μ) (KL (c+1)))
    (hK : ∀ o : Out, o.good → ∃ (o' : Out) (E : List V), o'.good ∧ o'.n ≤ o.n + 1 ∧ (E.length ≤ 1 ∧ LogOk E) ∧ ∀ c b l h, 8 ≤ c → l.length ≤ 1000 → h.length ≤ 1000 → bindR (o.P [b, l, h]) (KP c) = o'.P [b, l, h ++ E] ∧ KL c o.L [b, l, h] = .ret o'.L [b, l ++ E, h]) :
    Sim (d + 1) T := by
  refine eEEAAA (ht) fun o1 E1 g1 n1 yy4 s1 => ?_
  try clear ht
  obtain ⟨e1, lo1⟩ := yy4
  refine eEEAAA (hK o1 g1) fun o E g n yy4 s => ?_
  obtain ⟨e, lo⟩ := yy4
  have hp : 2 ^ (d + 1) = 2 * 2 ^ d := by rw [Nat.pow_succ]; lia
  have hp2 : 2 ^ (d + 1 + 1) = 2 * 2 ^ (d + 1) := by rw [Nat.pow_succ]; lia
  have q1 := oP_n o1
  refine ⟨o, E1 ++ E, g, by lia, ⟨by rw [List.length_append]; lia, lo1.app lo⟩, fun c hc b x h hx hh => ?_⟩
  constructor
  · obtain ⟨e', rfl⟩ : ∃ e, c = e + 1 + j := ⟨c - 1 - j, by lia⟩
    rw [hP, (s1 (e'+1) (by lia) b x h (by lia) (by lia)).1, (s (e'+1) b x (h ++ E1) (by lia) (by lia) (by rw [List.length_append]; lia)).1, List.append_assoc]
  · obtain ⟨e', rfl⟩ : ∃ e, c = e + 1 + k := ⟨c - 1 - k, by lia⟩
    rw [hL, (s1 (e'+1) (by lia) b x h (by lia) (by lia)).2]
    show KL (e'+1) o1.L [b, x ++ E1, h] = _
    rw [(s (e'+1) b (x ++ E1) h (by lia) (by rw [List.length_append]; lia) (by lia)).2, List.append_assoc]
end Mine

end

section
namespace Mine
open PySem
section
variable (c i : Nat) (h l r t v w x y g wd p q : V) (μ : Mu) (lg : V) (k : List Nat)
noncomputable abbrev a58 (op : String) (t lg u : V) : Rho := [vS "op" (str op), vS "tree" t, vS "world" lawW, vS "log" lg, vS "told" u]
noncomputable abbrev told (v : V) : V := .tup [str "value", v]
noncomputable abbrev tFail : V := .tup [str "fail", .none]
noncomputable abbrev tErrV (n : Int) : V := .tup [str "error", .int n]
theorem k_plus : cut c 58 3 (a58 "+" t lg (told w)) μ = bindR (Phi c 51 [w] μ) fun n μ => iteR (cmpV .Is n .none μ) (.ret (tErrV 1) μ) (.ret (told n) μ) := by kernel_rfl!
theorem k_minus : cut c 58 3 (a58 "-" t lg (told w)) μ = bindR (Phi c 51 [w] μ) fun n μ => iteR (cmpV .Is n .none μ) (.ret (tErrV 1) μ) (bindR (Phi c 54 [str "-", .int 0, n] μ) Res.ret) := by kernel_rfl!
theorem k_q : cut c 58 3 (a58 "?" t lg (told w)) μ = .ret (told (str "")) μ := by kernel_rfl!
theorem k_plus_f : cut c 58 3 (a58 "+" t lg tFail) μ = .ret tFail μ := by kernel_rfl!
theorem k_minus_f : cut c 58 3 (a58 "-" t lg tFail) μ = .ret tFail μ := by kernel_rfl!
theorem k_q_f : cut c 58 3 (a58 "?" t lg tFail) μ = .ret tFail μ := by kernel_rfl!
theorem k_plus_e (n : Int) : cut c 58 3 (a58 "+" t lg (tErrV n)) μ = .ret (tErrV n) μ := by kernel_rfl!
theorem k_minus_e (n : Int) : cut c 58 3 (a58 "-" t lg (tErrV n)) μ = .ret (tErrV n) μ := by kernel_rfl!
theorem k_q_e (n : Int) : cut c 58 3 (a58 "?" t lg (tErrV n)) μ = .ret (tErrV n) μ := by kernel_rfl!
noncomputable abbrev a43 (t : V) (i : Nat) (u : V) : Rho := [vS "tree" (un t), vS "hooks" (hkV i), vS "value" u]
noncomputable abbrev a57 (t lg u : V) : Rho := [vS "tree" (un t), vS "world" lawW, vS "log" lg, vS "told" u]
theorem n_fail : cut (c+3) 43 3 (a43 t i failV) μ = .ret failV μ := by kernel_rfl!
theorem n_ref : cut (c+3) 43 3 (a43 t i (refV k)) μ = .ret (refV k) μ := by kernel_rfl!
theorem n_nil : cut (c+3) 43 3 (a43 t i (sv [])) μ = .exc 4 μ := by kernel_rfl!
theorem n_cons (x : Nat) : cut (c+3) 43 3 (a43 t i (sv (x :: k))) μ = .ret (refV (x :: k)) μ := by kernel_rfl!
theorem n_pat (v : V) : cut (c+3) 43 3 (a43 t i (.inst 2 [v])) μ = .exc 1 μ := by kernel_rfl!
theorem n_del (v : V) : cut (c+3) 43 3 (a43 t i (.inst 3 [v])) μ = .exc 1 μ := by kernel_rfl!
theorem n_int (j : Int) : cut (c+3) 43 3 (a43 t i (.int j)) μ = bindR (Phi (c+3) 16 [.int j] μ) fun s μ => cut (c+3) 43 5 (a43 t i (.int j) ++ [vS "text" s]) μ := by kernel_rfl!
theorem n_int2 (u : V) (x : Nat) : cut (c+3) 43 5 (a43 t i u ++ [vS "text" (sv (x :: k))]) μ = .ret (refV (x :: k)) μ := by kernel_rfl!
theorem m_fail : cut c 57 3 (a57 t lg tFail) μ = .ret tFail μ := by kernel_rfl!
theorem m_err (n : Int) : cut c 57 3 (a57 t lg (tErrV n)) μ = .ret (tErrV n) μ := by kernel_rfl!
theorem m_ref : cut c 57 3 (a57 t lg (told (.tup [str "name", sv k]))) μ = .ret (told (.tup [str "name", sv k])) μ := by kernel_rfl!
theorem m_nil : cut c 57 3 (a57 t lg (told (sv []))) μ = .ret (tErrV 4) μ := by kernel_rfl!
theorem m_cons (x : Nat) : cut c 57 3 (a57 t lg (told (sv (x :: k)))) μ = .ret (told (.tup [str "name", sv (x :: k)])) μ := by kernel_rfl!
theorem m_pat (v : V) : cut c 57 3 (a57 t lg (told (.tup [str "pattern", v]))) μ = .ret (tErrV 1) μ := by kernel_rfl!
theorem m_del (v : V) : cut c 57 3 (a57 t lg (told (.tup [str "delayed", v]))) μ = .ret (tErrV 1) μ := by kernel_rfl!
theorem m_int (j : Int) : cut c 57 3 (a57 t lg (told (.int j))) μ = bindR (Phi c 52 [.int j] μ) fun s μ => .ret (told (.tup [str "name", s])) μ := by kernel_rfl!
noncomputable def nameO : Val → Out
  | .int i => .val (.ref (sg i))
  | .str [] => .err 4
  | .str (x :: l) => .val (.ref (x :: l))
  | .ref k => .val (.ref k)
  | _ => .err 1
theorem nameO_good (v : Val) (hv : v.good) : (nameO v).good ∧ (nameO v).n = 1 := by
  cases v with
  | int i => exact ⟨sg_tok hv, rfl⟩
  | str l => cases l with
    | nil => exact ⟨(by first | exact rfl | exact True.intro | assumption), rfl⟩
    | cons x l => exact ⟨hv, rfl⟩
  | pat n => exact ⟨(by first | exact rfl | exact True.intro | assumption), rfl⟩
  | del t => exact ⟨(by first | exact rfl | exact True.intro | assumption), rfl⟩
  | ref k => exact ⟨hv, rfl⟩
theorem n_val (v : Val) (hv : v.good) : cut (c+3) 43 3 (a43 t i v.P) μ = (nameO v).P μ := by
  cases v with
  | int j =>
    show cut (c+3) 43 3 (a43 t i (.int j)) μ = .ret (refV (sg j)) μ
    rw [n_int, p_text_int, p_text_of _ _ (inB_abs hv), bR, bR]
    refine eEE (sg_cons j) fun x l e => ?_
    rw [e]
    exact n_int2 ..
  | str l => cases l with
    | nil => exact n_nil ..
    | cons x l => exact n_cons ..
  | pat n => exact n_pat ..
  | del t => exact n_del ..
  | ref k => exact n_ref ..
theorem m_val (v : Val) (hv : v.good) : cut (c+1) 57 3 (a57 t lg (told v.L)) μ = .ret (nameO v).L μ := by
  cases v with
  | int j =>
    show cut (c+1) 57 3 (a57 t lg (told (.int j))) μ = _
    rw [m_int, q_shown _ _ (inB_abs hv), bR]
    rfl
  | str l => cases l with
    | nil => exact m_nil ..
    | cons x l => exact m_cons ..
  | pat n => exact m_pat ..
  | del t => exact m_del ..
  | ref k => exact m_ref ..
theorem g_val (k : List Nat) : ∃ v : Val, v.good ∧ v.n = 1 ∧ ∀ c i μ, Phi (c+1) 101 [hkV i, sv k] μ = .ret v.P μ ∧ ∀ K, getV lawW [sv k, str ""] μ K = K v.L μ := by
  have e : ∀ μ K, getV lawW [sv k, str ""] μ K = (match look ⟨⟨k⟩⟩ (lawNs.zip lawVals) with | some v => K v μ | none => K (str "") μ) := fun μ K => rfl
  have e1 : ∀ (a b c d : V), look ⟨⟨k⟩⟩ (lawNs.zip [a, b, c, d]) = (match seq ⟨⟨k⟩⟩ (Str.ofString "N") with | true => some a | false => match seq ⟨⟨k⟩⟩ (Str.ofString "S") with | true => some b | false => match seq ⟨⟨k⟩⟩ (Str.ofString "P") with | true => some c | false => match seq ⟨⟨k⟩⟩ (Str.ofString "R") with | true => some d | false => none) := fun a b c d => rfl
  cases h1 : seq ⟨⟨k⟩⟩ (Str.ofString "N") with
  | true => exact ⟨.int 5, by show inB 5; unfold inB; omega, rfl, fun c i μ => ⟨by rw [p_get, e1, h1]; rfl, fun K => by rw [e, e1, h1]; rfl⟩⟩
  | false => cases h2 : seq ⟨⟨k⟩⟩ (Str.ofString "S") with
    | true => exact ⟨.str [49, 50], ⟨by decide, by decide⟩, rfl, fun c i μ => ⟨by rw [p_get, e1, h1, h2]; rfl, fun K => by rw [e, e1, h1, h2]; rfl⟩⟩
    | false => cases h3 : seq ⟨⟨k⟩⟩ (Str.ofString "P") with
      | true => exact ⟨.pat .len2, ⟨rfl, trivial⟩, rfl, fun c i μ => ⟨by rw [p_get, e1, h1, h2, h3]; rfl, fun K => by rw [e, e1, h1, h2, h3]; rfl⟩⟩
      | false => cases h4 : seq ⟨⟨k⟩⟩ (Str.ofString "R") with
        | true => exact ⟨.ref [78], ⟨by decide, by decide⟩, rfl, fun c i μ => ⟨by rw [p_get, e1, h1, h2, h3, h4]; rfl, fun K => by rw [e, e1, h1, h2, h3, h4]; rfl⟩⟩
        | false => exact ⟨.str [], ⟨by decide, by decide⟩, rfl, fun c i μ => ⟨by rw [p_get, e1, h1, h2, h3, h4]; rfl, fun K => by rw [e, e1, h1, h2, h3, h4]; rfl⟩⟩
/-! binary operators' forms -/
noncomputable abbrev F45 (op : String) (c : Nat) (h : V) (a : V) (μ : Mu) : Res := orR (itemV μ a (.int 0)) fun p => orR (itemV μ a (.int 1)) fun q => bindR (Phi c 37 [h, str op, p, q] μ) Res.ret
noncomputable abbrev F60 (op : String) (c : Nat) (a b : V) (μ : Mu) : Res := bindR (Phi c 56 [str op, a, b] μ) Res.ret
theorem f_op {op : String} (ho : Op2 op) : Phi (c+1) 45 [.tup [str "binary", str op, l, r], h] μ = bindR (Phi c 42 [.list [l, r], h] μ) fun a μ => bindR (Phi c 8 [a] μ) fun b μ => tst b (.ret a μ) (F45 op c h a μ) := by
  cases ho <;> kernel_rfl!
theorem g_op {op : String} (ho : Op2 op) : Phi (c+1) 60 [.tup [str "binary", str op, l, r], lawW, lg] μ = bindR (Phi c 60 [l, lawW, lg] μ) fun t μ => tv t μ fun a => bindR (Phi c 60 [r, lawW, lg] μ) fun t μ => tv t μ fun b => F60 op c a b μ := by
  cases ho <;> kernel_rfl!
/-! `.` and `$` between two -/
noncomputable abbrev kNow (c : Nat) (v : V) (ref : V) (μ : Mu) : Res := bindR (Phi c 8 [ref] μ) fun b μ => tst b (.ret ref μ) (bindR (Phi c 27 [v] μ) fun n μ => bindR (Phi c 23 [n, ref] μ) fun n μ => mkInst 2 [n] μ Res.ret)
theorem f_now : Phi (c+1) 45 [.tup [str "binary", str "$", l, r], h] μ = bindR (Phi c 41 [l, h] μ) fun v μ => bindR (Phi c 8 [v] μ) fun b μ => tst b (kNow c v v μ) (bindR (Phi c 43 [r, h] μ) (kNow c v)) := by kernel_rfl!
noncomputable abbrev lDot (tag : String) (c : Nat) (r lg : V) (t : V) (μ : Mu) : Res := tv t μ fun a => bindR (Phi c 57 [r, lawW, lg] μ) fun t μ => tv t μ fun b => bindR (Phi c 53 [a] μ) fun n μ => match cmpV .Is n .none μ with
    | some true => .ret (.tup [str "error", .int 1]) μ
    | some false => (match itemV μ b (.int 1) with | some q => .ret (.tup [str "value", .tup [str "pattern", .tup [str tag, n, q]]]) μ | none => .stuck)
    | none => .stuck
theorem g_now : Phi (c+1) 60 [.tup [str "binary", str "$", l, r], lawW, lg] μ = bindR (Phi c 60 [l, lawW, lg] μ) (lDot "now" c r lg) := by kernel_rfl!
/-! calls -/
theorem p_call (a : List V) : Phi (c+1) 41 [.tup [str "call", x, .tup a], hkV i] μ = bindR (Phi c 42 [.tup a, hkV i] μ) fun a μ => bindR (Phi c 8 [a] μ) fun b μ => tst b (.ret a μ) (bindR (Phi c 102 [hkV i, x, a] μ) Res.ret) := by kernel_rfl!
end
end Mine

end

section
namespace Mine
open PySem
theorem sim_now (T : V) (o : Out) (g : o.good) (n : o.n = 1) (hP : ∀ c μ, Phi (c+9) 41 [T, hkV 2] μ = o.P μ) (hL : ∀ c μ, Phi (c+9) 60 [T, lawW, .cell 1] μ = .ret o.L μ) : Sim 0 T := by
  refine ⟨o, [], g, by lia, ⟨Nat.le_refl 1, LogOk.nil⟩, fun c hc b l h u9 u9 => ?_⟩
  obtain ⟨e, rfl⟩ : ∃ e, c = e + 9 := ⟨c - 9, by lia⟩
  rw [List.append_nil, List.append_nil]
  exact ⟨hP .., hL ..⟩
noncomputable abbrev lvs : List V := [
  .tup [str "text", str "ab"],
  .tup [str "text", str ""],
  .tup [str "text", str "12"],
  .tup [str "whole", .int 7],
  .tup [str "whole", .int 0],
  .tup [str "name", str "N"],
  .tup [str "name", str "S"],
  .tup [str "name", str "P"],
  .tup [str "name", str "R"],
  .tup [str "name", str "NONE"],
  .tup [str "null"],
  .tup [str "text", str "-3"]]
theorem leaf0 : Sim 0 (.tup [str "text", str "ab"]) := sim_now _ (.val (.str [97, 98])) (by show tok _; exact ⟨by decide, by decide⟩) rfl (fun c μ => by show _ = Res.ret _ μ; kernel_rfl!) (fun c μ => by kernel_rfl!)
theorem leaf1 : Sim 0 (.tup [str "text", str ""]) := sim_now _ (.val (.str [])) (by show tok _; exact ⟨by decide, by decide⟩) rfl (fun c μ => by show _ = Res.ret _ μ; kernel_rfl!) (fun c μ => by kernel_rfl!)
theorem leaf2 : Sim 0 (.tup [str "text", str "12"]) := sim_now _ (.val (.str [49, 50])) (by show tok _; exact ⟨by decide, by decide⟩) rfl (fun c μ => by show _ = Res.ret _ μ; kernel_rfl!) (fun c μ => by kernel_rfl!)
theorem leaf3 : Sim 0 (.tup [str "whole", .int 7]) := sim_now _ (.val (.int 7)) (by show inB _; unfold inB; lia) rfl (fun c μ => by show _ = Res.ret _ μ; kernel_rfl!) (fun c μ => by kernel_rfl!)
theorem leaf4 : Sim 0 (.tup [str "whole", .int 0]) := sim_now _ (.val (.int 0)) (by show inB _; unfold inB; lia) rfl (fun c μ => by show _ = Res.ret _ μ; kernel_rfl!) (fun c μ => by kernel_rfl!)
theorem leaf5 : Sim 0 (.tup [str "name", str "N"]) := sim_now _ (.val (.int 5)) (by show inB _; unfold inB; lia) rfl (fun c μ => by show _ = Res.ret _ μ; kernel_rfl!) (fun c μ => by kernel_rfl!)
theorem leaf6 : Sim 0 (.tup [str "name", str "S"]) := sim_now _ (.val (.str [49, 50])) (by show tok _; exact ⟨by decide, by decide⟩) rfl (fun c μ => by show _ = Res.ret _ μ; kernel_rfl!) (fun c μ => by kernel_rfl!)
theorem leaf7 : Sim 0 (.tup [str "name", str "P"]) := sim_now _ (.val (.pat .len2)) (⟨rfl, trivial⟩) rfl (fun c μ => by show _ = Res.ret _ μ; kernel_rfl!) (fun c μ => by kernel_rfl!)
theorem leaf8 : Sim 0 (.tup [str "name", str "R"]) := sim_now _ (.val (.ref [78])) (by show tok _; exact ⟨by decide, by decide⟩) rfl (fun c μ => by show _ = Res.ret _ μ; kernel_rfl!) (fun c μ => by kernel_rfl!)
theorem leaf9 : Sim 0 (.tup [str "name", str "NONE"]) := sim_now _ (.val (.str [])) (by show tok _; exact ⟨by decide, by decide⟩) rfl (fun c μ => by show _ = Res.ret _ μ; kernel_rfl!) (fun c μ => by kernel_rfl!)
theorem leaf10 : Sim 0 (.tup [str "null"]) := sim_now _ (.val (.str [])) (by show tok _; exact ⟨by decide, by decide⟩) rfl (fun c μ => by show _ = Res.ret _ μ; kernel_rfl!) (fun c μ => by kernel_rfl!)
theorem leaf11 : Sim 0 (.tup [str "text", str "-3"]) := sim_now _ (.val (.str [45, 51])) (by show tok _; exact ⟨by decide, by decide⟩) rfl (fun c μ => by show _ = Res.ret _ μ; kernel_rfl!) (fun c μ => by kernel_rfl!)
theorem sim_leaf {t : V} (h : t ∈ lvs) : Sim 0 t := by
  unfold lvs at h
  simp only [List.mem_cons, List.not_mem_nil, or_false] at h
  rcases h with rfl | rfl | rfl | rfl | rfl | rfl | rfl | rfl | rfl | rfl | rfl | rfl
  · exact leaf0
  · exact leaf1
  · exact leaf2
  · exact leaf3
  · exact leaf4
  · exact leaf5
  · exact leaf6
  · exact leaf7
  · exact leaf8
  · exact leaf9
  · exact leaf10
  · exact leaf11
noncomputable abbrev goals : List V := [.tup [str "name", str "S"], un (.tup [str "name", str "S"]), un (.tup [str "text", str ""]), .tup [str "whole", .int 3]]
noncomputable def GoalO (g : V) : Prop := ∃ o : Out, (o = .err 4 ∨ o = .err 8 ∨ ∃ k, o = .val (.ref k) ∧ tok k) ∧ ∀ c i μ lg, Phi (c+8) 43 [g, hkV i] μ = o.P μ ∧ Phi (c+8) 57 [g, lawW, lg] μ = .ret o.L μ
theorem goal0 : GoalO (.tup [str "name", str "S"]) := ⟨.val (.ref [83]), Or.inr (Or.inr ⟨_, rfl, by decide, by decide⟩), fun c i μ lg => ⟨by show _ = Res.ret _ μ; kernel_rfl!, by kernel_rfl!⟩⟩
theorem goal1 : GoalO (un (.tup [str "name", str "S"])) := ⟨.val (.ref [49, 50]), Or.inr (Or.inr ⟨_, rfl, by decide, by decide⟩), fun c i μ lg => ⟨by show _ = Res.ret _ μ; kernel_rfl!, by kernel_rfl!⟩⟩
theorem goal2 : GoalO (un (.tup [str "text", str ""])) := ⟨.err 4, Or.inl rfl, fun c i μ lg => ⟨by show _ = Res.exc _ μ; kernel_rfl!, by kernel_rfl!⟩⟩
theorem goal3 : GoalO (.tup [str "whole", .int 3]) := ⟨.err 8, Or.inr (Or.inl rfl), fun c i μ lg => ⟨by show _ = Res.exc _ μ; kernel_rfl!, by kernel_rfl!⟩⟩
theorem goal_of {t : V} (h : t ∈ goals) : GoalO t := by
  unfold goals at h
  simp only [List.mem_cons, List.not_mem_nil, or_false] at h
  rcases h with rfl | rfl | rfl | rfl
  · exact goal0
  · exact goal1
  · exact goal2
  · exact goal3
noncomputable abbrev refs : List V := [.tup [str "name", str "S"], un (.tup [str "name", str "R"]), .tup [str "text", str "x"]]
theorem ref_dot0 : Sim 0 (.tup [str "unary", str ".", .tup [str "name", str "S"]]) := sim_now _ (.val (.ref [83])) (by show tok _; exact ⟨by decide, by decide⟩) rfl (fun c μ => by show _ = Res.ret _ μ; kernel_rfl!) (fun c μ => by kernel_rfl!)
theorem ref_dot1 : Sim 0 (.tup [str "unary", str ".", un (.tup [str "name", str "R"])]) := sim_now _ (.val (.ref [78])) (by show tok _; exact ⟨by decide, by decide⟩) rfl (fun c μ => by show _ = Res.ret _ μ; kernel_rfl!) (fun c μ => by kernel_rfl!)
theorem ref_dot2 : Sim 0 (.tup [str "unary", str ".", .tup [str "text", str "x"]]) := sim_now _ (.err 8) ((by first | exact rfl | exact True.intro | assumption)) rfl (fun c μ => by show _ = Res.exc _ μ; kernel_rfl!) (fun c μ => by kernel_rfl!)
theorem ref_at0 : Sim 0 (.tup [str "unary", str "@", .tup [str "name", str "S"]]) := sim_now _ (.val (.pat (.cursor [83]))) (⟨rfl, ⟨by decide, by decide⟩⟩) rfl (fun c μ => by show _ = Res.ret _ μ; kernel_rfl!) (fun c μ => by kernel_rfl!)
theorem ref_at1 : Sim 0 (.tup [str "unary", str "@", un (.tup [str "name", str "R"])]) := sim_now _ (.val (.pat (.cursor [78]))) (⟨rfl, ⟨by decide, by decide⟩⟩) rfl (fun c μ => by show _ = Res.ret _ μ; kernel_rfl!) (fun c μ => by kernel_rfl!)
theorem ref_at2 : Sim 0 (.tup [str "unary", str "@", .tup [str "text", str "x"]]) := sim_now _ (.err 8) ((by first | exact rfl | exact True.intro | assumption)) rfl (fun c μ => by show _ = Res.exc _ μ; kernel_rfl!) (fun c μ => by kernel_rfl!)
theorem sim_ref_dot {t : V} (h : t ∈ refs) : Sim 0 (.tup [str "unary", str ".", t]) := by
  unfold refs at h
  simp only [List.mem_cons, List.not_mem_nil, or_false] at h
  rcases h with rfl | rfl | rfl
  · exact ref_dot0
  · exact ref_dot1
  · exact ref_dot2
theorem sim_ref_at {t : V} (h : t ∈ refs) : Sim 0 (.tup [str "unary", str "@", t]) := by
  unfold refs at h
  simp only [List.mem_cons, List.not_mem_nil, or_false] at h
  rcases h with rfl | rfl | rfl
  · exact ref_at0
  · exact ref_at1
  · exact ref_at2
theorem same_hK {f : Nat → Nat → Mu → Res} {g : Nat → Mu → Res} {v w : Val} (s : Same2 v w f g) (j : Nat) (hj : j ≤ 8) (KP : Nat → V → Mu → Res) (KL : Nat → V → V → Mu → Res)
    (hp : ∀ c μ, KP (c+j) (.list [v.P, w.P]) μ = bindR (f c 2 μ) Res.ret) (hl : ∀ c μ, KL (c+j) v.L w.L μ = bindR (g c μ) Res.ret) :
    ∃ (o : Out) (E : List V), o.good ∧ o.n ≤ v.n + w.n + 1 ∧ (E.length ≤ 1 ∧ LogOk E) ∧ ∀ c b l h, 8 ≤ c → l.length ≤ 1000 → h.length ≤ 1000 → KP c (.list [v.P, w.P]) [b, l, h] = o.P [b, l, h ++ E] ∧ KL c v.L w.L [b, l, h] = .ret o.L [b, l ++ E, h] := by
  obtain ⟨o, g1, n, s⟩ := s
  refine iEEAAA o ([]) g1 n ⟨Nat.zero_le _, LogOk.nil⟩ (fun c b l h hc u9 u9 => ?_)
  obtain ⟨e, rfl⟩ : ∃ e, c = e + j := ⟨c - j, by lia⟩
  rw [List.append_nil, List.append_nil]
  exact ⟨by rw [hp, (s e _).1, outRet], by rw [hl, (s e _).2]; rfl⟩
theorem sim_join {d : Nat} {l r : V} (hl : Sim d l) (hr : Sim d r) : Sim (d+1) (.tup [str "join", l, r]) :=
  sim_two hl hr (fun r => bindR r Res.ret) outRet (fun c a μ => orR (itemV μ a (.int 0)) fun p => orR (itemV μ a (.int 1)) fun q => bindR (Phi c 35 [hkV 2, p, q] μ) Res.ret) (fun c a b μ => bindR (Phi c 55 [a, b] μ) Res.ret) 2 (Nat.le_refl 2) (.list [l, r]) (.inl rfl)
    (fun c μ => by rw [p_worth_join, p_two_join]; first | done | rfl) (fun c μ => q_join ..)
    (fun v w gv gw => same_hK (join_same v w gv gw) 7 (by decide) (fun c a μ => orR (itemV μ a (.int 0)) fun p => orR (itemV μ a (.int 1)) fun q => bindR (Phi c 35 [hkV 2, p, q] μ) Res.ret) (fun c a b μ => bindR (Phi c 55 [a, b] μ) Res.ret) (fun c μ => rfl) (fun c μ => rfl))
theorem sim_bin {d : Nat} {op : String} (ho : Op2 op) {l r : V} (hl : Sim d l) (hr : Sim d r) : Sim (d+1) (.tup [str "binary", str op, l, r]) :=
  sim_two hl hr (fun r => bindR r Res.ret) outRet (fun c a μ => F45 op c (hkV 2) a μ) (fun c a b μ => F60 op c a b μ) 2 (Nat.le_refl 2) (.list [l, r]) (.inl rfl)
    (fun c μ => by rw [p_worth_binary, f_op _ _ _ _ _ ho]) (fun c μ => g_op _ _ _ _ _ ho)
    (fun v w gv gw => same_hK (two_same ho v w gv gw) 6 (by decide) (fun c a μ => F45 op c (hkV 2) a μ) (fun c a b μ => F60 op c a b μ) (fun c μ => rfl) (fun c μ => rfl))
/-! one operand -/
noncomputable abbrev Ans1 (o : Out) (KP KL : Nat → V → Mu → Res) : Prop := ∃ (o' : Out) (E : List V), o'.good ∧ o'.n ≤ o.n + 1 ∧ (E.length ≤ 1 ∧ LogOk E) ∧ ∀ c b l h, 8 ≤ c → l.length ≤ 1000 → h.length ≤ 1000 → bindR (o.P [b, l, h]) (KP c) = o'.P [b, l, h ++ E] ∧ KL c o.L [b, l, h] = .ret o'.L [b, l ++ E, h]
theorem ans1 (o o' : Out) (KP KL : Nat → V → Mu → Res) (g : o'.good) (n : o'.n ≤ o.n + 1) (s : ∀ c μ, bindR (o.P μ) (KP (c+8)) = o'.P μ ∧ KL (c+8) o.L μ = .ret o'.L μ) : Ans1 o KP KL := by
  refine iEEAAA o' ([]) g n ⟨Nat.zero_le _, LogOk.nil⟩ (fun c b l h hc u9 u9 => ?_)
  obtain ⟨e, rfl⟩ : ∃ e, c = e + 8 := ⟨c - 8, by lia⟩
  rw [List.append_nil, List.append_nil]
  exact s e _
theorem sim_plus {d : Nat} {t : V} (ht : Sim d t) : Sim (d+1) (.tup [str "unary", str "+", t]) := by
  refine sim_one ht (fun c v μ => bindR (bindR (Phi c 8 [v] μ) fun b μ => tst b (.ret v μ) (bindR (Phi c 38 [hkV 2, str "+", v] μ) Res.ret)) Res.ret) (fun c u μ => bindR (cut c 58 3 (a58 "+" t (.cell 1) u) μ) Res.ret) 2 2 (by decide) (by decide)
    (fun c μ => by rw [p_worth_unary, p_one_plus, bA]) (fun c μ => by rw [p_law_unary, l_one_plus, bA]) (fun o g => ?_)
  cases o with
  | fail => exact ans1 .fail .fail (fun c v μ => bindR (bindR (Phi c 8 [v] μ) fun b μ => tst b (.ret v μ) (bindR (Phi c 38 [hkV 2, str "+", v] μ) Res.ret)) Res.ret) (fun c u μ => bindR (cut c 58 3 (a58 "+" t (.cell 1) u) μ) Res.ret) (by first | exact rfl | exact True.intro | assumption) (Nat.le_add_left 1 _) fun c μ => ⟨by rw [oPf, bR, p_fail_inst]; rfl, by show bindR (cut _ 58 3 (a58 "+" t (.cell 1) tFail) μ) Res.ret = _; rw [k_plus_f]; rfl⟩
  | err n => exact ans1 (.err n) (.err n) (fun c v μ => bindR (bindR (Phi c 8 [v] μ) fun b μ => tst b (.ret v μ) (bindR (Phi c 38 [hkV 2, str "+", v] μ) Res.ret)) Res.ret) (fun c u μ => bindR (cut c 58 3 (a58 "+" t (.cell 1) u) μ) Res.ret) (by first | exact rfl | exact True.intro | assumption) (Nat.le_add_left 1 _) fun c μ => ⟨rfl, by show bindR (cut _ 58 3 (a58 "+" t (.cell 1) (tErrV n)) μ) Res.ret = _; rw [k_plus_e]; rfl⟩
  | val v =>
    refine eEA (whole_val v g) fun x hx ex => ?_
    cases x with
    | none => exact ans1 (.val v) (.err 1) (fun c v μ => bindR (bindR (Phi c 8 [v] μ) fun b μ => tst b (.ret v μ) (bindR (Phi c 38 [hkV 2, str "+", v] μ) Res.ret)) Res.ret) (fun c u μ => bindR (cut c 58 3 (a58 "+" t (.cell 1) u) μ) Res.ret) (by first | exact rfl | exact True.intro | assumption) (Nat.le_add_left 1 _) fun c μ => ⟨by rw [oPv, bR, f_fail, bR, tst_f, u_plus, (ex _ μ).1]; rfl, by show bindR (cut _ 58 3 (a58 "+" t (.cell 1) (told v.L)) μ) Res.ret = _; rw [k_plus, (ex _ μ).2]; rfl⟩
    | some n => exact ans1 (.val v) (.val (.int n)) (fun c v μ => bindR (bindR (Phi c 8 [v] μ) fun b μ => tst b (.ret v μ) (bindR (Phi c 38 [hkV 2, str "+", v] μ) Res.ret)) Res.ret) (fun c u μ => bindR (cut c 58 3 (a58 "+" t (.cell 1) u) μ) Res.ret) (hx n rfl) (Nat.le_add_left 1 _) fun c μ => ⟨by rw [oPv, bR, f_fail, bR, tst_f, u_plus, (ex _ μ).1]; rfl, by show bindR (cut _ 58 3 (a58 "+" t (.cell 1) (told v.L)) μ) Res.ret = _; rw [k_plus, (ex _ μ).2]; rfl⟩
theorem inB0 : inB 0 := by unfold inB; lia
theorem sim_minus {d : Nat} {t : V} (ht : Sim d t) : Sim (d+1) (.tup [str "unary", str "-", t]) := by
  refine sim_one ht (fun c v μ => bindR (bindR (Phi c 8 [v] μ) fun b μ => tst b (.ret v μ) (bindR (Phi c 38 [hkV 2, str "-", v] μ) Res.ret)) Res.ret) (fun c u μ => bindR (cut c 58 3 (a58 "-" t (.cell 1) u) μ) Res.ret) 2 2 (by decide) (by decide)
    (fun c μ => by rw [p_worth_unary, p_one_minus, bA]) (fun c μ => by rw [p_law_unary, l_one_minus, bA]) (fun o g => ?_)
  cases o with
  | fail => exact ans1 .fail .fail (fun c v μ => bindR (bindR (Phi c 8 [v] μ) fun b μ => tst b (.ret v μ) (bindR (Phi c 38 [hkV 2, str "-", v] μ) Res.ret)) Res.ret) (fun c u μ => bindR (cut c 58 3 (a58 "-" t (.cell 1) u) μ) Res.ret) (by first | exact rfl | exact True.intro | assumption) (Nat.le_add_left 1 _) fun c μ => ⟨by rw [oPf, bR, p_fail_inst]; rfl, by show bindR (cut _ 58 3 (a58 "-" t (.cell 1) tFail) μ) Res.ret = _; rw [k_minus_f]; rfl⟩
  | err n => exact ans1 (.err n) (.err n) (fun c v μ => bindR (bindR (Phi c 8 [v] μ) fun b μ => tst b (.ret v μ) (bindR (Phi c 38 [hkV 2, str "-", v] μ) Res.ret)) Res.ret) (fun c u μ => bindR (cut c 58 3 (a58 "-" t (.cell 1) u) μ) Res.ret) (by first | exact rfl | exact True.intro | assumption) (Nat.le_add_left 1 _) fun c μ => ⟨rfl, by show bindR (cut _ 58 3 (a58 "-" t (.cell 1) (tErrV n)) μ) Res.ret = _; rw [k_minus_e]; rfl⟩
  | val v =>
    refine eEA (whole_val v g) fun x hx ex => ?_
    cases x with
    | none => exact ans1 (.val v) (.err 1) (fun c v μ => bindR (bindR (Phi c 8 [v] μ) fun b μ => tst b (.ret v μ) (bindR (Phi c 38 [hkV 2, str "-", v] μ) Res.ret)) Res.ret) (fun c u μ => bindR (cut c 58 3 (a58 "-" t (.cell 1) u) μ) Res.ret) (by first | exact rfl | exact True.intro | assumption) (Nat.le_add_left 1 _) fun c μ => ⟨by rw [oPv, bR, f_fail, bR, tst_f, u_minus, (ex _ μ).1]; rfl, by show bindR (cut _ 58 3 (a58 "-" t (.cell 1) (told v.L)) μ) Res.ret = _; rw [k_minus, (ex _ μ).2]; rfl⟩
    | some n =>
      refine ans1 (.val v) (bnd (0 - n)) (fun c v μ => bindR (bindR (Phi c 8 [v] μ) fun b μ => tst b (.ret v μ) (bindR (Phi c 38 [hkV 2, str "-", v] μ) Res.ret)) Res.ret) (fun c u μ => bindR (cut c 58 3 (a58 "-" t (.cell 1) u) μ) Res.ret) (bnd_good _).1 (by rw [(bnd_good _).2]; exact Nat.le_add_left 1 _) fun c μ => ⟨?_, ?_⟩
      · rw [oPv, bR, f_fail, bR, tst_f, u_minus, (ex _ μ).1]
        show bindR (bindR (bindR (Phi (c+7) 18 [.int (-n), .int 16] μ) Res.ret) Res.ret) Res.ret = _
        rw [p_checked, bndR, bndR, bndR, Int.zero_sub]
      · show bindR (cut _ 58 3 (a58 "-" t (.cell 1) (told v.L)) μ) Res.ret = _
        rw [k_minus, (ex _ μ).2]
        show bindR (bindR (Phi (c+8) 54 [str "-", .int 0, .int n] μ) Res.ret) Res.ret = _
        rw [s_minus, mulV _ _ (inB_abs inB0) (inB_abs (hx n rfl)), orR_s, qB_is]
        rfl
theorem sim_q {d : Nat} {t : V} (ht : Sim d t) : Sim (d+1) (.tup [str "unary", str "?", t]) := by
  refine sim_one ht (fun c v μ => bindR (bindR (Phi c 8 [v] μ) fun b μ => tst b (.ret v μ) (.ret (str "") μ)) Res.ret) (fun c u μ => bindR (cut c 58 3 (a58 "?" t (.cell 1) u) μ) Res.ret) 2 2 (by decide) (by decide)
    (fun c μ => by rw [p_worth_unary, p_one_q, bA]) (fun c μ => by rw [p_law_unary, l_one_q, bA]) (fun o g => ?_)
  cases o with
  | fail => exact ans1 .fail .fail (fun c v μ => bindR (bindR (Phi c 8 [v] μ) fun b μ => tst b (.ret v μ) (.ret (str "") μ)) Res.ret) (fun c u μ => bindR (cut c 58 3 (a58 "?" t (.cell 1) u) μ) Res.ret) (by first | exact rfl | exact True.intro | assumption) (Nat.le_add_left 1 _) fun c μ => ⟨by rw [oPf, bR, p_fail_inst]; rfl, by show bindR (cut _ 58 3 (a58 "?" t (.cell 1) tFail) μ) Res.ret = _; rw [k_q_f]; rfl⟩
  | err n => exact ans1 (.err n) (.err n) (fun c v μ => bindR (bindR (Phi c 8 [v] μ) fun b μ => tst b (.ret v μ) (.ret (str "") μ)) Res.ret) (fun c u μ => bindR (cut c 58 3 (a58 "?" t (.cell 1) u) μ) Res.ret) (by first | exact rfl | exact True.intro | assumption) (Nat.le_add_left 1 _) fun c μ => ⟨rfl, by show bindR (cut _ 58 3 (a58 "?" t (.cell 1) (tErrV n)) μ) Res.ret = _; rw [k_q_e]; rfl⟩
  | val v => exact ans1 (.val v) (.val (.str [])) (fun c v μ => bindR (bindR (Phi c 8 [v] μ) fun b μ => tst b (.ret v μ) (.ret (str "") μ)) Res.ret) (fun c u μ => bindR (cut c 58 3 (a58 "?" t (.cell 1) u) μ) Res.ret) ⟨Nat.zero_le _, fun x h => nomatch h⟩ (Nat.le_add_left 1 _) fun c μ => ⟨by rw [oPv, bR, f_fail, bR, tst_f]; rfl, by show bindR (cut _ 58 3 (a58 "?" t (.cell 1) (told v.L)) μ) Res.ret = _; rw [k_q]; rfl⟩
noncomputable abbrev lTilde (u : V) (μ : Mu) : Res := match itemV μ u (.int 0) with
    | some hw => (match eqT μ hw (str "error") with
      | some true => .ret u μ
      | some false => (match itemV μ u (.int 0) with
        | some hw => (match eqT μ hw (str "fail") with | some true => .ret (.tup [str "value", str ""]) μ | some false => .ret (.tup [str "fail", .none]) μ | none => .stuck)
        | none => .stuck)
      | none => .stuck)
    | none => .stuck
theorem sim_tilde {d : Nat} {t : V} (ht : Sim d t) : Sim (d+1) (.tup [str "unary", str "~", t]) := by
  refine sim_one ht (fun c v μ => bindR (bindR (Phi c 8 [v] μ) fun b μ => tst b (.ret (str "") μ) (.ret (.inst 1 []) μ)) Res.ret) (fun c u μ => bindR (lTilde u μ) Res.ret) 2 2 (by decide) (by decide)
    (fun c μ => by rw [p_worth_unary, p_one_tilde, bA]) (fun c μ => by rw [p_law_unary, q_one_tilde, bA]; first | done | rfl) (fun o g => ?_)
  cases o with
  | fail => exact ans1 .fail (.val (.str [])) (fun c v μ => bindR (bindR (Phi c 8 [v] μ) fun b μ => tst b (.ret (str "") μ) (.ret (.inst 1 []) μ)) Res.ret) (fun c u μ => bindR (lTilde u μ) Res.ret) ⟨Nat.zero_le _, fun x h => nomatch h⟩ (Nat.le_add_left 1 _) fun c μ => ⟨by rw [oPf, bR, p_fail_inst]; rfl, rfl⟩
  | err n => exact ans1 (.err n) (.err n) (fun c v μ => bindR (bindR (Phi c 8 [v] μ) fun b μ => tst b (.ret (str "") μ) (.ret (.inst 1 []) μ)) Res.ret) (fun c u μ => bindR (lTilde u μ) Res.ret) (by first | exact rfl | exact True.intro | assumption) (Nat.le_add_left 1 _) fun c μ => ⟨rfl, rfl⟩
  | val v => exact ans1 (.val v) .fail (fun c v μ => bindR (bindR (Phi c 8 [v] μ) fun b μ => tst b (.ret (str "") μ) (.ret (.inst 1 []) μ)) Res.ret) (fun c u μ => bindR (lTilde u μ) Res.ret) (by first | exact rfl | exact True.intro | assumption) (Nat.le_add_left 1 _) fun c μ => ⟨by rw [oPv, bR, f_fail, bR, tst_f]; rfl, rfl⟩
theorem sim_star {d : Nat} {t : List V} (ht : ShT t) : Sim d (.tup [str "unary", str "*", .tup t]) := by
  have h0 : Sim 0 (.tup [str "unary", str "*", .tup t]) := sim_now _ (.val (.del t)) ht rfl (fun c μ => by rw [p_worth_unary, p_one_star]; rfl) (fun c μ => by rw [p_law_unary, p_law_one_star]; rfl)
  induction d with
  | zero => exact h0
  | succ d ih => exact ih.up
set_option tactic.hygienic true in
theorem sim_dollar {d : Nat} {t : V} (ht : Sim d t) : Sim (d+1) (.tup [str "unary", str "$", t]) := by
  refine sim_one ht (fun c u μ => bindR (cut c 43 3 (a43 t 2 u) μ) fun u μ => bindR (bindR (Phi (c+1) 8 [u] μ) fun b μ => tst b (.ret u μ) (orR (fieldV u (Str.ofString "key")) fun k => bindR (Phi (c+1) 101 [hkV 2, k] μ) Res.ret)) Res.ret)
    (fun c u μ => bindR (cut c 57 3 (a57 t (.cell 1) u) μ) fun u μ => bindR (orR (itemV μ u (.int 0)) fun hw => iteR (neT μ hw (str "value")) (.ret u μ) (orR (itemV μ u (.int 1)) fun w => orR (itemV μ w (.int 1)) fun k => getV lawW [k, str ""] μ fun x μ => .ret (.tup [str "value", x]) μ)) Res.ret) 3 3 (by decide) (by decide)
    (fun c μ => by rw [p_worth_unary, p_one_dollar, p_name_un, bA, bA]; first | done | rfl) (fun c μ => by rw [p_law_unary, l_one_dollar, l_name_un, bA, bA]; first | done | rfl) (fun o g => ?_)
  cases o with
  | fail => exact ans1 .fail .fail (fun c u μ => bindR (cut c 43 3 (a43 t 2 u) μ) fun u μ => bindR (bindR (Phi (c+1) 8 [u] μ) fun b μ => tst b (.ret u μ) (orR (fieldV u (Str.ofString "key")) fun k => bindR (Phi (c+1) 101 [hkV 2, k] μ) Res.ret)) Res.ret) (fun c u μ => bindR (cut c 57 3 (a57 t (.cell 1) u) μ) fun u μ => bindR (orR (itemV μ u (.int 0)) fun hw => iteR (neT μ hw (str "value")) (.ret u μ) (orR (itemV μ u (.int 1)) fun w => orR (itemV μ w (.int 1)) fun k => getV lawW [k, str ""] μ fun x μ => .ret (.tup [str "value", x]) μ)) Res.ret) (by first | exact rfl | exact True.intro | assumption) (Nat.le_add_left 1 _) fun c μ => ⟨by rw [oPf, bR, n_fail, bR, p_fail_inst]; rfl, by show bindR (cut _ 57 3 (a57 t (.cell 1) tFail) μ) _ = _; rw [m_fail]; rfl⟩
  | err n => exact ans1 (.err n) (.err n) (fun c u μ => bindR (cut c 43 3 (a43 t 2 u) μ) fun u μ => bindR (bindR (Phi (c+1) 8 [u] μ) fun b μ => tst b (.ret u μ) (orR (fieldV u (Str.ofString "key")) fun k => bindR (Phi (c+1) 101 [hkV 2, k] μ) Res.ret)) Res.ret) (fun c u μ => bindR (cut c 57 3 (a57 t (.cell 1) u) μ) fun u μ => bindR (orR (itemV μ u (.int 0)) fun hw => iteR (neT μ hw (str "value")) (.ret u μ) (orR (itemV μ u (.int 1)) fun w => orR (itemV μ w (.int 1)) fun k => getV lawW [k, str ""] μ fun x μ => .ret (.tup [str "value", x]) μ)) Res.ret) (by first | exact rfl | exact True.intro | assumption) (Nat.le_add_left 1 _) fun c μ => ⟨rfl, by show bindR (cut _ 57 3 (a57 t (.cell 1) (tErrV n)) μ) _ = _; rw [m_err]; rfl⟩
  | val v =>
    have hn := nameO_good v g
    have hp := fun c μ => n_val c 2 t μ v g
    have hm := fun c μ => m_val c t μ (.cell 1) v g
    cases e : nameO v with
    | fail => cases v <;> first | (cases e; done) | (rename_i l; cases l <;> cases e)
    | err n => rw [e] at hp hm hn; have hn1 := hn.1; exact ans1 (.val v) (.err n) (fun c u μ => bindR (cut c 43 3 (a43 t 2 u) μ) fun u μ => bindR (bindR (Phi (c+1) 8 [u] μ) fun b μ => tst b (.ret u μ) (orR (fieldV u (Str.ofString "key")) fun k => bindR (Phi (c+1) 101 [hkV 2, k] μ) Res.ret)) Res.ret) (fun c u μ => bindR (cut c 57 3 (a57 t (.cell 1) u) μ) fun u μ => bindR (orR (itemV μ u (.int 0)) fun hw => iteR (neT μ hw (str "value")) (.ret u μ) (orR (itemV μ u (.int 1)) fun w => orR (itemV μ w (.int 1)) fun k => getV lawW [k, str ""] μ fun x μ => .ret (.tup [str "value", x]) μ)) Res.ret) (by first | exact rfl | exact True.intro | assumption) (Nat.le_add_left 1 _) fun c μ => ⟨by rw [oPv, bR, hp]; rfl, by show bindR (cut _ 57 3 (a57 t (.cell 1) (told v.L)) μ) _ = _; rw [hm]; rfl⟩
    | val w => cases w with
      | ref k =>
        rw [e] at hp hm
        refine eEAA (g_val k) fun x gx nx sx => ?_
        refine ans1 (.val v) (.val x) (fun c u μ => bindR (cut c 43 3 (a43 t 2 u) μ) fun u μ => bindR (bindR (Phi (c+1) 8 [u] μ) fun b μ => tst b (.ret u μ) (orR (fieldV u (Str.ofString "key")) fun k => bindR (Phi (c+1) 101 [hkV 2, k] μ) Res.ret)) Res.ret) (fun c u μ => bindR (cut c 57 3 (a57 t (.cell 1) u) μ) fun u μ => bindR (orR (itemV μ u (.int 0)) fun hw => iteR (neT μ hw (str "value")) (.ret u μ) (orR (itemV μ u (.int 1)) fun w => orR (itemV μ w (.int 1)) fun k => getV lawW [k, str ""] μ fun x μ => .ret (.tup [str "value", x]) μ)) Res.ret) gx (by show x.n ≤ _; rw [nx]; exact Nat.le_add_left 1 _) fun c μ => ⟨?_, ?_⟩
        · rw [oPv, bR, hp, oPv, bR]
          show bindR (bindR (Phi (c+9) 8 [refV k] μ) _) Res.ret = _
          rw [p_fail_ref]
          show bindR (bindR (Phi (c+9) 101 [hkV 2, sv k] μ) Res.ret) Res.ret = _
          rw [(sx _ _ _).1]
          rfl
        · show bindR (cut _ 57 3 (a57 t (.cell 1) (told v.L)) μ) _ = _
          rw [hm]
          show bindR (getV lawW [sv k, str ""] μ fun x μ => .ret (.tup [str "value", x]) μ) Res.ret = _
          rw [(sx 0 0 μ).2]
          rfl
      | _ => cases v <;> first | (cases e; done) | (rename_i l; cases l <;> cases e)
end Mine

end

section
namespace Mine
open PySem
theorem sim_gdot {d : Nat} {l g : V} (hl : Sim d l) (hg : g ∈ goals) : Sim (d+1) (.tup [str "binary", str ".", l, g]) := by
  refine eEA (goal_of hg) fun og hog sg => ?_
  refine sim_one hl (fun c v μ => bindR (bindR (Phi c 8 [v] μ) fun b μ => tst b (kDot c v v μ) (bindR (Phi c 43 [g, hkV 2] μ) (kDot c v))) Res.ret) (fun c u μ => lDot "later" c g (.cell 1) u μ) 2 1 (by decide) (by decide)
    (fun c μ => by rw [p_worth_binary, p_two_dot, bA]) (fun c μ => by rw [q_dot]; first | done | rfl) (fun o gd => ?_)
  cases o with
  | fail => exact ans1 .fail .fail (fun c v μ => bindR (bindR (Phi c 8 [v] μ) fun b μ => tst b (kDot c v v μ) (bindR (Phi c 43 [g, hkV 2] μ) (kDot c v))) Res.ret) (fun c u μ => lDot "later" c g (.cell 1) u μ) (by first | exact rfl | exact True.intro | assumption) (Nat.le_add_left 1 _) fun c μ => ⟨by rw [oPf, bR, p_fail_inst, bR, tst_t]; unfold kDot; rw [p_fail_inst]; rfl, rfl⟩
  | err n => exact ans1 (.err n) (.err n) (fun c v μ => bindR (bindR (Phi c 8 [v] μ) fun b μ => tst b (kDot c v v μ) (bindR (Phi c 43 [g, hkV 2] μ) (kDot c v))) Res.ret) (fun c u μ => lDot "later" c g (.cell 1) u μ) (by first | exact rfl | exact True.intro | assumption) (Nat.le_add_left 1 _) fun c μ => ⟨rfl, rfl⟩
  | val v =>
    have e9 : ∀ n, (Out.err n).good → og = .err n → Ans1 (.val v) (fun c v μ => bindR (bindR (Phi c 8 [v] μ) fun b μ => tst b (kDot c v v μ) (bindR (Phi c 43 [g, hkV 2] μ) (kDot c v))) Res.ret) (fun c u μ => lDot "later" c g (.cell 1) u μ) := fun n hn e => by
      subst e
      exact ans1 (.val v) (.err n) (fun c v μ => bindR (bindR (Phi c 8 [v] μ) fun b μ => tst b (kDot c v v μ) (bindR (Phi c 43 [g, hkV 2] μ) (kDot c v))) Res.ret) (fun c u μ => lDot "later" c g (.cell 1) u μ) (by first | exact rfl | exact True.intro | assumption) (Nat.le_add_left 1 _) fun c μ => ⟨by
        rw [oPv, bR, f_fail, bR, tst_f]
        rw [(sg c 2 μ .none).1]; rfl, by
        show bindR (Phi (c+8) 57 [g, lawW, .cell 1] μ) _ = _
        rw [(sg c 2 μ (.cell 1)).2]; rfl⟩
    rcases hog with e | e | ⟨k, e, hk⟩
    · exact e9 4 rfl e
    · exact e9 8 rfl e
    · subst e
      cases en : v.nd with
      | none => exact ans1 (.val v) (.err 1) (fun c v μ => bindR (bindR (Phi c 8 [v] μ) fun b μ => tst b (kDot c v v μ) (bindR (Phi c 43 [g, hkV 2] μ) (kDot c v))) Res.ret) (fun c u μ => lDot "later" c g (.cell 1) u μ) (by first | exact rfl | exact True.intro | assumption) (Nat.le_add_left 1 _) fun c μ => ⟨by
          rw [oPv, bR, f_fail, bR, tst_f, (sg c 2 μ .none).1, oPv, bR]
          unfold kDot
          show bindR (bindR (Phi (c+8) 8 [refV k] μ) _) _ = _
          rw [p_fail_ref, bR, tst_f, p_pattern _ _ _ gd, en]; rfl, by
          show bindR (Phi (c+8) 57 [g, lawW, .cell 1] μ) _ = _
          rw [(sg c 2 μ (.cell 1)).2]
          show bindR (Phi (c+8) 53 [v.L] μ) _ = _
          rw [q_node _ _ _ gd, en]; rfl⟩
      | some n =>
        have gn := nd_good gd en
        exact ans1 (.val v) (.val (.pat (.later n k))) (fun c v μ => bindR (bindR (Phi c 8 [v] μ) fun b μ => tst b (kDot c v v μ) (bindR (Phi c 43 [g, hkV 2] μ) (kDot c v))) Res.ret) (fun c u μ => lDot "later" c g (.cell 1) u μ) ⟨rfl, gn.1, hk⟩ (by show n.n + 1 ≤ v.n + 1; rw [gn.2.1]; exact Nat.le_refl _) fun c μ => ⟨by
          rw [oPv, bR, f_fail, bR, tst_f, (sg c 2 μ .none).1, oPv, bR]
          unfold kDot
          show bindR (bindR (Phi (c+8) 8 [refV k] μ) _) _ = _
          rw [p_fail_ref, bR, tst_f, p_pattern _ _ _ gd, en]
          show bindR (bindR (Phi (c+8) 22 [.tup n.p, refV k] μ) fun n μ => mkInst 2 [n] μ Res.ret) Res.ret = _
          rw [p_later]; rfl, by
          show bindR (Phi (c+8) 57 [g, lawW, .cell 1] μ) _ = _
          rw [(sg c 2 μ (.cell 1)).2]
          show bindR (Phi (c+8) 53 [v.L] μ) _ = _
          rw [q_node _ _ _ gd, en]; rfl⟩
theorem sim_gnow {d : Nat} {l g : V} (hl : Sim d l) (hg : g ∈ goals) : Sim (d+1) (.tup [str "binary", str "$", l, g]) := by
  refine eEA (goal_of hg) fun og hog sg => ?_
  refine sim_one hl (fun c v μ => bindR (bindR (Phi c 8 [v] μ) fun b μ => tst b (kNow c v v μ) (bindR (Phi c 43 [g, hkV 2] μ) (kNow c v))) Res.ret) (fun c u μ => lDot "now" c g (.cell 1) u μ) 2 1 (by decide) (by decide)
    (fun c μ => by rw [p_worth_binary, f_now, bA]) (fun c μ => by rw [g_now]; first | done | rfl) (fun o gd => ?_)
  cases o with
  | fail => exact ans1 .fail .fail (fun c v μ => bindR (bindR (Phi c 8 [v] μ) fun b μ => tst b (kNow c v v μ) (bindR (Phi c 43 [g, hkV 2] μ) (kNow c v))) Res.ret) (fun c u μ => lDot "now" c g (.cell 1) u μ) (by first | exact rfl | exact True.intro | assumption) (Nat.le_add_left 1 _) fun c μ => ⟨by rw [oPf, bR, p_fail_inst, bR, tst_t]; unfold kNow; rw [p_fail_inst]; rfl, rfl⟩
  | err n => exact ans1 (.err n) (.err n) (fun c v μ => bindR (bindR (Phi c 8 [v] μ) fun b μ => tst b (kNow c v v μ) (bindR (Phi c 43 [g, hkV 2] μ) (kNow c v))) Res.ret) (fun c u μ => lDot "now" c g (.cell 1) u μ) (by first | exact rfl | exact True.intro | assumption) (Nat.le_add_left 1 _) fun c μ => ⟨rfl, rfl⟩
  | val v =>
    have e9 : ∀ n, (Out.err n).good → og = .err n → Ans1 (.val v) (fun c v μ => bindR (bindR (Phi c 8 [v] μ) fun b μ => tst b (kNow c v v μ) (bindR (Phi c 43 [g, hkV 2] μ) (kNow c v))) Res.ret) (fun c u μ => lDot "now" c g (.cell 1) u μ) := fun n hn e => by
      subst e
      exact ans1 (.val v) (.err n) (fun c v μ => bindR (bindR (Phi c 8 [v] μ) fun b μ => tst b (kNow c v v μ) (bindR (Phi c 43 [g, hkV 2] μ) (kNow c v))) Res.ret) (fun c u μ => lDot "now" c g (.cell 1) u μ) (by first | exact rfl | exact True.intro | assumption) (Nat.le_add_left 1 _) fun c μ => ⟨by
        rw [oPv, bR, f_fail, bR, tst_f]
        rw [(sg c 2 μ .none).1]; rfl, by
        show bindR (Phi (c+8) 57 [g, lawW, .cell 1] μ) _ = _
        rw [(sg c 2 μ (.cell 1)).2]; rfl⟩
    rcases hog with e | e | ⟨k, e, hk⟩
    · exact e9 4 rfl e
    · exact e9 8 rfl e
    · subst e
      cases en : v.nd with
      | none => exact ans1 (.val v) (.err 1) (fun c v μ => bindR (bindR (Phi c 8 [v] μ) fun b μ => tst b (kNow c v v μ) (bindR (Phi c 43 [g, hkV 2] μ) (kNow c v))) Res.ret) (fun c u μ => lDot "now" c g (.cell 1) u μ) (by first | exact rfl | exact True.intro | assumption) (Nat.le_add_left 1 _) fun c μ => ⟨by
          rw [oPv, bR, f_fail, bR, tst_f, (sg c 2 μ .none).1, oPv, bR]
          unfold kNow
          show bindR (bindR (Phi (c+8) 8 [refV k] μ) _) _ = _
          rw [p_fail_ref, bR, tst_f, p_pattern _ _ _ gd, en]; rfl, by
          show bindR (Phi (c+8) 57 [g, lawW, .cell 1] μ) _ = _
          rw [(sg c 2 μ (.cell 1)).2]
          show bindR (Phi (c+8) 53 [v.L] μ) _ = _
          rw [q_node _ _ _ gd, en]; rfl⟩
      | some n =>
        have gn := nd_good gd en
        exact ans1 (.val v) (.val (.pat (.now n k))) (fun c v μ => bindR (bindR (Phi c 8 [v] μ) fun b μ => tst b (kNow c v v μ) (bindR (Phi c 43 [g, hkV 2] μ) (kNow c v))) Res.ret) (fun c u μ => lDot "now" c g (.cell 1) u μ) ⟨rfl, gn.1, hk⟩ (by show n.n + 1 ≤ v.n + 1; rw [gn.2.1]; exact Nat.le_refl _) fun c μ => ⟨by
          rw [oPv, bR, f_fail, bR, tst_f, (sg c 2 μ .none).1, oPv, bR]
          unfold kNow
          show bindR (bindR (Phi (c+8) 8 [refV k] μ) _) _ = _
          rw [p_fail_ref, bR, tst_f, p_pattern _ _ _ gd, en]
          show bindR (bindR (Phi (c+8) 23 [.tup n.p, refV k] μ) fun n μ => mkInst 2 [n] μ Res.ret) Res.ret = _
          rw [p_now]; rfl, by
          show bindR (Phi (c+8) 57 [g, lawW, .cell 1] μ) _ = _
          rw [(sg c 2 μ (.cell 1)).2]
          show bindR (Phi (c+8) 53 [v.L] μ) _ = _
          rw [q_node _ _ _ gd, en]; rfl⟩
theorem push2 (b x h : List V) (v : V) (k : Mu → Res) (hh : h.length ≤ 1000) : pushR [b, x, h] 2 v k = k [b, x, h ++ [v]] := by
  have : Nat.blt h.length 100000 = true := Nat.ble_eq_true_of_le (by lia)
  show (match (match Nat.blt h.length 100000 with | true => some [b, x, h ++ [v]] | false => none) with | some μ => k μ | none => .stuck) = _
  rw [this]
theorem push1 (b x h : List V) (v : V) (k : Mu → Res) (hx : x.length ≤ 1000) : pushR [b, x, h] 1 v k = k [b, x ++ [v], h] := by
  have : Nat.blt x.length 100000 = true := Nat.ble_eq_true_of_le (by lia)
  show (match (match Nat.blt x.length 100000 with | true => some [b, x ++ [v], h] | false => none) with | some μ => k μ | none => .stuck) = _
  rw [this]
inductive Fn4 : String → Prop where
  | F : Fn4 "F" | G : Fn4 "G" | H : Fn4 "H" | NOPE : Fn4 "NOPE"
noncomputable def CallO (f : String) (vs : List Val) (n : Nat) : Prop := ∃ (o : Out) (E : List V), ((∀ v ∈ vs, v.good) → o.good) ∧ o.n ≤ n + 1 ∧ (E.length ≤ 1 ∧ LogOk E) ∧ ∀ c b x h, x.length ≤ 1000 → h.length ≤ 1000 →
  Phi (c+2) 102 [hkV 2, str f, .list (vs.map Val.P)] [b, x, h] = o.P [b, x, h ++ E] ∧ Phi (c+1) 59 [str f, .list (vs.map Val.L), .cell 1] [b, x, h] = .ret o.L [b, x ++ E, h]
theorem call_0 {f : String} (hf : Fn4 f) : CallO f [] (0) := by
  cases hf with
  | F => exact ⟨.fail, [.tup [str "F", .int 0]], fun u9 => (by first | exact rfl | exact True.intro | assumption), Nat.le_add_left 1 _, ⟨Nat.le_refl 1, fun e h => by rw [List.mem_singleton.1 h]; rfl⟩, fun c b x h hx hh => ⟨(c_F0 ..).trans (push2 b x h _ _ hh), (d_F0 ..).trans (push1 b x h _ _ hx)⟩⟩
  | G => exact ⟨.val (.int 0), [.tup [str "G", .int 0]], fun u9 => by show inB _; unfold inB; lia, Nat.le_add_left 1 _, ⟨Nat.le_refl 1, fun e h => by rw [List.mem_singleton.1 h]; rfl⟩, fun c b x h hx hh => ⟨(c_G0 ..).trans (push2 b x h _ _ hh), (d_G0 ..).trans (push1 b x h _ _ hx)⟩⟩
  | H => exact ⟨.val (.str [97, 98]), [.tup [str "H", .int 0]], fun u9 => by show tok _; exact ⟨by decide, by decide⟩, Nat.le_add_left 1 _, ⟨Nat.le_refl 1, fun e h => by rw [List.mem_singleton.1 h]; rfl⟩, fun c b x h hx hh => ⟨(c_H0 ..).trans (push2 b x h _ _ hh), (d_H0 ..).trans (push1 b x h _ _ hx)⟩⟩
  | NOPE => exact ⟨.err 5, [], fun u9 => (by first | exact rfl | exact True.intro | assumption), Nat.le_add_left 1 _, ⟨Nat.zero_le _, LogOk.nil⟩, fun c b x h hx hh => ⟨by rw [List.append_nil]; exact p_call_nope .., by rw [List.append_nil]; exact d_NOPE ..⟩⟩
theorem call_1 {f : String} (hf : Fn4 f) (v : Val) : CallO f [v] (v.n) := by
  cases hf with
  | F => exact ⟨.val v, [.tup [str "F", .int 1]], fun h => h v (List.mem_cons_self ..), Nat.le_add_right _ _, ⟨Nat.le_refl 1, fun e h => by rw [List.mem_singleton.1 h]; rfl⟩, fun c b x h hx hh => ⟨(c_F1 ..).trans (push2 b x h _ _ hh), (d_F1 ..).trans (push1 b x h _ _ hx)⟩⟩
  | G => exact ⟨.val (.int 1), [.tup [str "G", .int 1]], fun u9 => by show inB _; unfold inB; lia, Nat.le_add_left 1 _, ⟨Nat.le_refl 1, fun e h => by rw [List.mem_singleton.1 h]; rfl⟩, fun c b x h hx hh => ⟨(c_G1 ..).trans (push2 b x h _ _ hh), (d_G1 ..).trans (push1 b x h _ _ hx)⟩⟩
  | H => exact ⟨.val (.str [97, 98]), [.tup [str "H", .int 1]], fun u9 => by show tok _; exact ⟨by decide, by decide⟩, Nat.le_add_left 1 _, ⟨Nat.le_refl 1, fun e h => by rw [List.mem_singleton.1 h]; rfl⟩, fun c b x h hx hh => ⟨(c_H1 ..).trans (push2 b x h _ _ hh), (d_H1 ..).trans (push1 b x h _ _ hx)⟩⟩
  | NOPE => exact ⟨.err 5, [], fun u9 => (by first | exact rfl | exact True.intro | assumption), Nat.le_add_left 1 _, ⟨Nat.zero_le _, LogOk.nil⟩, fun c b x h hx hh => ⟨by rw [List.append_nil]; exact p_call_nope .., by rw [List.append_nil]; exact d_NOPE ..⟩⟩
theorem call_2 {f : String} (hf : Fn4 f) (v : Val) (w : Val) : CallO f [v, w] (v.n + w.n) := by
  cases hf with
  | F => exact ⟨.fail, [.tup [str "F", .int 2]], fun u9 => (by first | exact rfl | exact True.intro | assumption), Nat.le_add_left 1 _, ⟨Nat.le_refl 1, fun e h => by rw [List.mem_singleton.1 h]; rfl⟩, fun c b x h hx hh => ⟨(c_F2 ..).trans (push2 b x h _ _ hh), (d_F2 ..).trans (push1 b x h _ _ hx)⟩⟩
  | G => exact ⟨.val (.int 2), [.tup [str "G", .int 2]], fun u9 => by show inB _; unfold inB; lia, Nat.le_add_left 1 _, ⟨Nat.le_refl 1, fun e h => by rw [List.mem_singleton.1 h]; rfl⟩, fun c b x h hx hh => ⟨(c_G2 ..).trans (push2 b x h _ _ hh), (d_G2 ..).trans (push1 b x h _ _ hx)⟩⟩
  | H => exact ⟨.val (.str [97, 98]), [.tup [str "H", .int 2]], fun u9 => by show tok _; exact ⟨by decide, by decide⟩, Nat.le_add_left 1 _, ⟨Nat.le_refl 1, fun e h => by rw [List.mem_singleton.1 h]; rfl⟩, fun c b x h hx hh => ⟨(c_H2 ..).trans (push2 b x h _ _ hh), (d_H2 ..).trans (push1 b x h _ _ hx)⟩⟩
  | NOPE => exact ⟨.err 5, [], fun u9 => (by first | exact rfl | exact True.intro | assumption), Nat.le_add_left 1 _, ⟨Nat.zero_le _, LogOk.nil⟩, fun c b x h hx hh => ⟨by rw [List.append_nil]; exact p_call_nope .., by rw [List.append_nil]; exact d_NOPE ..⟩⟩
theorem sim_call2 {d : Nat} {f : String} (hf : Fn4 f) {l r : V} (hl : Sim d l) (hr : Sim d r) : Sim (d+1) (.tup [str "call", str f, .tup [l, r]]) := by
  refine sim_two hl hr id (fun u9 u9 => rfl) (fun c a μ => bindR (Phi c 102 [hkV 2, str f, a] μ) Res.ret) (fun c a b μ => bindR (Phi c 59 [str f, .list [a, b], .cell 1] μ) Res.ret) 1 (by decide) (.tup [l, r]) (.inr rfl)
    (fun c μ => p_call ..) (fun c μ => q_call2 ..) (fun v w gv gw => ?_)
  refine eEEAAA (call_2 hf v w) fun o E g n e s => ?_
  refine iEEAAA o E (g (by intro u hu; simp only [List.mem_cons, List.not_mem_nil, or_false] at hu; rcases hu with rfl | rfl <;> assumption)) n e (fun c b x h hc hx hh => ?_)
  obtain ⟨e', rfl⟩ : ∃ e, c = e + 2 := ⟨c - 2, by lia⟩
  have a := s e' b x h hx hh
  have a' := s (e'+1) b x h hx hh
  exact ⟨by show bindR (Phi (e'+2) 102 [hkV 2, str f, .list [v.P, w.P]] [b, x, h]) Res.ret = _; rw [show Phi (e'+2) 102 [hkV 2, str f, .list [v.P, w.P]] [b, x, h] = _ from a.1, outRet],
    by show bindR (Phi (e'+2) 59 [str f, .list [v.L, w.L], .cell 1] [b, x, h]) Res.ret = _; rw [show Phi (e'+2) 59 [str f, .list [v.L, w.L], .cell 1] [b, x, h] = _ from a'.2]; rfl⟩
theorem sim_call1 {d : Nat} {f : String} (hf : Fn4 f) {l : V} (hl : Sim d l) : Sim (d+1) (.tup [str "call", str f, .tup [l]]) := by
  refine sim_one hl (fun c v μ => bindR (bindR (Phi c 8 [v] μ) fun b μ => tst b (.ret v μ) (.ret (.list [v]) μ)) fun a μ => bindR (Phi (c+1) 8 [a] μ) fun b μ => tst b (.ret a μ) (bindR (Phi (c+1) 102 [hkV 2, str f, a] μ) Res.ret)) (fun c t μ => tv t μ fun a => bindR (Phi c 59 [str f, .list [a], .cell 1] μ) Res.ret) 2 1 (by decide) (by decide)
    (fun c μ => by rw [p_call, p_worths_t1, bA]) (fun c μ => q_call1 ..) (fun o gd => ?_)
  cases o with
  | fail => exact ans1 .fail .fail (fun c v μ => bindR (bindR (Phi c 8 [v] μ) fun b μ => tst b (.ret v μ) (.ret (.list [v]) μ)) fun a μ => bindR (Phi (c+1) 8 [a] μ) fun b μ => tst b (.ret a μ) (bindR (Phi (c+1) 102 [hkV 2, str f, a] μ) Res.ret)) (fun c t μ => tv t μ fun a => bindR (Phi c 59 [str f, .list [a], .cell 1] μ) Res.ret) (by first | exact rfl | exact True.intro | assumption) (Nat.le_add_left 1 _) fun c μ => ⟨by rw [oPf, bR, p_fail_inst, bR, tst_t, bR, p_fail_inst]; rfl, rfl⟩
  | err n => exact ans1 (.err n) (.err n) (fun c v μ => bindR (bindR (Phi c 8 [v] μ) fun b μ => tst b (.ret v μ) (.ret (.list [v]) μ)) fun a μ => bindR (Phi (c+1) 8 [a] μ) fun b μ => tst b (.ret a μ) (bindR (Phi (c+1) 102 [hkV 2, str f, a] μ) Res.ret)) (fun c t μ => tv t μ fun a => bindR (Phi c 59 [str f, .list [a], .cell 1] μ) Res.ret) (by first | exact rfl | exact True.intro | assumption) (Nat.le_add_left 1 _) fun c μ => ⟨rfl, rfl⟩
  | val v =>
    refine eEEAAA (call_1 hf v) fun o E g n e s => ?_
    refine iEEAAA o E (g (by intro u hu; simp only [List.mem_cons, List.not_mem_nil, or_false] at hu; rcases hu with rfl; exact gd)) n e (fun c b x h hc hx hh => ?_)
    obtain ⟨e', rfl⟩ : ∃ e, c = e + 2 := ⟨c - 2, by lia⟩
    have a := s (e'+1) b x h hx hh
    constructor
    · rw [oPv, bR, f_fail, bR, tst_f, bR, p_fail_list, bR, tst_f, show Phi (e'+2+1) 102 [hkV 2, str f, .list [v.P]] [b, x, h] = _ from a.1, outRet]
    · show bindR (Phi (e'+2) 59 [str f, .list [v.L], .cell 1] [b, x, h]) Res.ret = _
      rw [show Phi (e'+2) 59 [str f, .list [v.L], .cell 1] [b, x, h] = _ from a.2]; rfl
theorem sim_call0 {d : Nat} {f : String} (hf : Fn4 f) : Sim (d+1) (.tup [str "call", str f, .tup []]) := by
  refine eEEAAA (call_0 hf) fun o E g n yy4 s => ?_
  obtain ⟨e, lo⟩ := yy4
  have hp := Nat.one_le_two_pow (n := d)
  have hp1 : 2 ^ (d + 1) = 2 * 2 ^ d := by rw [Nat.pow_succ]; lia
  have hp2 : 2 ^ (d + 1 + 1) = 2 * 2 ^ (d + 1) := by rw [Nat.pow_succ]; lia
  refine ⟨o, E, g (by intro u hu; cases hu), by lia, ⟨by lia, lo⟩, fun c hc b x h hx hh => ?_⟩
  obtain ⟨e', rfl⟩ : ∃ e, c = e + 3 := ⟨c - 3, by lia⟩
  have a := s e' b x h (by lia) (by lia)
  have a' := s (e'+1) b x h (by lia) (by lia)
  constructor
  · rw [p_call, p_worths_t0, bR, p_fail_list, bR, tst_f, show Phi (e'+2) 102 [hkV 2, str f, .list []] [b, x, h] = _ from a.1, outRet]
  · rw [q_call0, show Phi (e'+2) 59 [str f, .list [], .cell 1] [b, x, h] = _ from a'.2]; rfl
/-! ### the trees -/
inductive Tree : Nat → V → Prop where
  | leaf {d : Nat} {t : V} : t ∈ lvs → Tree d t
  | join {d : Nat} {l r : V} : Tree d l → Tree d r → Tree (d+1) (.tup [str "join", l, r])
  | bin {d : Nat} {op : String} {l r : V} : Op2 op → Tree d l → Tree d r → Tree (d+1) (.tup [str "binary", str op, l, r])
  | dot {d : Nat} {l g : V} : Tree d l → g ∈ goals → Tree (d+1) (.tup [str "binary", str ".", l, g])
  | now {d : Nat} {l g : V} : Tree d l → g ∈ goals → Tree (d+1) (.tup [str "binary", str "$", l, g])
  | plus {d : Nat} {t : V} : Tree d t → Tree (d+1) (.tup [str "unary", str "+", t])
  | minus {d : Nat} {t : V} : Tree d t → Tree (d+1) (.tup [str "unary", str "-", t])
  | q {d : Nat} {t : V} : Tree d t → Tree (d+1) (.tup [str "unary", str "?", t])
  | tilde {d : Nat} {t : V} : Tree d t → Tree (d+1) (.tup [str "unary", str "~", t])
  | star {d : Nat} {t : V} : Tree d t → Tree (d+1) (.tup [str "unary", str "*", t])
  | dollar {d : Nat} {t : V} : Tree d t → Tree (d+1) (.tup [str "unary", str "$", t])
  | rdot {d : Nat} {t : V} : t ∈ refs → Tree (d+1) (.tup [str "unary", str ".", t])
  | rat {d : Nat} {t : V} : t ∈ refs → Tree (d+1) (.tup [str "unary", str "@", t])
  | call0 {d : Nat} {f : String} : Fn4 f → Tree (d+1) (.tup [str "call", str f, .tup []])
  | call1 {d : Nat} {f : String} {l : V} : Fn4 f → Tree d l → Tree (d+1) (.tup [str "call", str f, .tup [l]])
  | call2 {d : Nat} {f : String} {l r : V} : Fn4 f → Tree d l → Tree d r → Tree (d+1) (.tup [str "call", str f, .tup [l, r]])
theorem Sim.at {d : Nat} {t : V} (h : Sim 0 t) : Sim d t := by
  induction d with
  | zero => exact h
  | succ d ih => exact ih.up
end Mine

end

section
namespace Mine
open PySem
/-! ### what repr shows -/
noncomputable def Shw (v : V) (D S : Nat) : Prop := ∃ d, dataOf v = some d ∧ d.showable = true ∧ d.depth ≤ D ∧ d.shown.length ≤ S
noncomputable def ShwL (vs : List V) (D S : Nat) : Prop := ∃ ds, dataOfs vs = some ds ∧ PyData.showableAll ds = true ∧ PyData.depthAll ds ≤ D ∧ piled (PyData.shownAll ds) ≤ S
theorem Shw.mono {v : V} {D S D' S' : Nat} (h : Shw v D S) (hD : D ≤ D') (hS : S ≤ S') : Shw v D' S' := by
  refine eEAAA (h) fun d a b c e => ?_
  try clear h
  exact ⟨d, a, b, Nat.le_trans c hD, Nat.le_trans e hS⟩
theorem ShwL.nil (D : Nat) : ShwL [] D 0 := ⟨[], rfl, rfl, Nat.zero_le _, Nat.le_refl 0⟩
theorem ShwL.cons {v : V} {vs : List V} {D s S : Nat} (h : Shw v D s) (hs : ShwL vs D S) : ShwL (v :: vs) D (s + 2 + S) := by
  refine eEAAA (h) fun d a b c e => ?_
  try clear h
  refine eEAAA (hs) fun ds a' b' c' e' => ?_
  try clear hs
  refine ⟨d :: ds, ?_, ?_, ?_, ?_⟩
  · show optCons (dataOf v) (dataOfs vs) = _
    rw [a, a']; rfl
  · show (d.showable && PyData.showableAll ds) = true
    rw [b, b']; rfl
  · show max d.depth (PyData.depthAll ds) ≤ D
    exact Nat.max_le.2 ⟨c, c'⟩
  · show piled (d.shown :: PyData.shownAll ds) ≤ _
    rw [piled_cons]
    lia
theorem ShwL.tup {vs : List V} {D S : Nat} (h : ShwL vs D S) : Shw (.tup vs) (D + 1) (S + 3) := by
  refine eEAAA (h) fun ds a b c e => ?_
  try clear h
  refine ⟨.tuple ds, ?_, b, Nat.succ_le_succ c, ?_⟩
  · show (dataOfs vs).map PyData.tuple = _
    rw [a]; rfl
  · show (tupleText (PyData.shownAll ds)).length ≤ _
    unfold tupleText
    rw [strLen_append, strLen_append]
    have e1 : ((("(" : String) : Str)).length = 1 := rfl
    have e3 : (((if (PyData.shownAll ds).length == 1 then ",)" else ")" : String) : Str)).length ≤ 2 := by split <;> decide
    rw [e1]
    by_cases h : PyData.shownAll ds = []
    · rw [h] at e3 ⊢
      have : (Str.join ", " []).length = 0 := rfl
      lia
    · have := join_length_add _ h
      lia
open Builtin.Str in
theorem hex_le {c k : Nat} (hk : 0 < k) (h : c < 16 ^ k) : (let d := (Nat.toDigits 16 c).map Char.toNat; List.replicate (k - d.length) 48 ++ d).length ≤ k := by
  have : (Nat.toDigits 16 c).length ≤ k := (Nat.length_toDigits_le_iff (by lia) hk).2 h
  show (List.replicate (k - ((Nat.toDigits 16 c).map Char.toNat).length) 48 ++ (Nat.toDigits 16 c).map Char.toNat).length ≤ k
  rw [List.length_append, List.length_replicate, List.length_map]
  lia
open Builtin.Str in
theorem sign_le (q c : Nat) (h : c < 256) : (reprChar q c).length ≤ 10 := by
  unfold reprChar
  have := hex_le (c := c) (k := 2) (by lia) h
  split
  · show 2 ≤ 10; lia
  · split
    · show 2 ≤ 10; lia
    · split
      · show 2 ≤ 10; lia
      · split
        · show 2 ≤ 10; lia
        · split
          · show 1 ≤ 10; lia
          · show ([92, 120] ++ (List.replicate (2 - ((Nat.toDigits 16 c).map Char.toNat).length) 48 ++ (Nat.toDigits 16 c).map Char.toNat)).length ≤ 10
            rw [List.length_append]
            exact Nat.le_trans (Nat.add_le_add_left this 2) (by decide)
open Builtin.Str in
theorem fold_le (q : Nat) : ∀ (l : List Nat) (n : Nat), (∀ x ∈ l, x < 256) → l.foldl (fun n c => n + (reprChar q c).length) n ≤ n + 10 * l.length
  | [], n, _ => Nat.le_refl _
  | c :: l, n, h => by
    have a := sign_le q c (h c (List.mem_cons_self ..))
    have b := fold_le q l (n + (reprChar q c).length) (fun x hx => h x (List.mem_cons_of_mem _ hx))
    rw [List.foldl_cons, List.length_cons]
    lia
theorem shw_sv (l : List Nat) (h : ∀ x ∈ l, x < 256) (D : Nat) : Shw (sv l) D (2 + 10 * l.length) := by
  refine ⟨.str ⟨⟨l⟩⟩, rfl, rfl, Nat.zero_le _, ?_⟩
  show (reprText ⟨⟨l⟩⟩).length ≤ _
  rw [← reprLen_eq, ← Array.foldl_toList]
  exact fold_le _ l 2 h
theorem shw_tok {l : List Nat} (h : tok l) (D : Nat) : Shw (sv l) D 122 := (shw_sv l h.2 D).mono (Nat.le_refl _) (by have := h.1; lia)
theorem shw_lit (s : String) (D : Nat) (h : ((Str.ofString s).cps.toList.all fun x => Nat.blt x 256) = true) (hl : Nat.ble (Str.ofString s).cps.toList.length 9 = true) : Shw (str s) D 92 :=
  (shw_sv (Str.ofString s).cps.toList (fun x hx => Nat.le_of_ble_eq_true (List.all_eq_true.1 h x hx)) D).mono (Nat.le_refl _) (by have := Nat.le_of_ble_eq_true hl; lia)
theorem shw_int {i : Int} (h : inB i) (D : Nat) : Shw (.int i) D 40 := by
  have a : i.natAbs < 2 ^ 20 := by unfold inB at h; lia
  have b : i.natAbs.log2 < 30 := by
    by_cases h0 : i.natAbs = 0
    · rw [h0]; decide
    · exact (Nat.log2_lt h0).2 (Nat.lt_of_lt_of_le a (by decide))
  refine ⟨.int i, rfl, decide_eq_true (by lia), Nat.zero_le _, ?_⟩
  show (Str.ofString (toString i)).length ≤ _
  rw [ofString_length]
  have := int_text_length_le (k := 30) (by decide) b
  lia
theorem shw_none (D : Nat) : Shw .none D 4 := ⟨.none, rfl, rfl, Nat.zero_le _, by decide⟩
theorem shw1 {a : V} {D A : Nat} (ha : Shw a D A) : Shw (.tup [a]) (D + 1) (A + 5) := ((ShwL.nil D).cons ha).tup.mono (Nat.le_refl _) (by lia)
theorem shw2 {a b : V} {D A B : Nat} (ha : Shw a D A) (hb : Shw b D B) : Shw (.tup [a, b]) (D + 1) (A + B + 7) := (((ShwL.nil D).cons hb).cons ha).tup.mono (Nat.le_refl _) (by lia)
theorem shw3 {a b c : V} {D A B C : Nat} (ha : Shw a D A) (hb : Shw b D B) (hc : Shw c D C) : Shw (.tup [a, b, c]) (D + 1) (A + B + C + 9) := ((((ShwL.nil D).cons hc).cons hb).cons ha).tup.mono (Nat.le_refl _) (by lia)
theorem shw4 {a b c e : V} {D A B C E : Nat} (ha : Shw a D A) (hb : Shw b D B) (hc : Shw c D C) (he : Shw e D E) : Shw (.tup [a, b, c, e]) (D + 1) (A + B + C + E + 11) := (((((ShwL.nil D).cons he).cons hc).cons hb).cons ha).tup.mono (Nat.le_refl _) (by lia)
theorem shw_leaf {t : V} (h : t ∈ lvs) (D : Nat) : Shw t (D + 1) 200 := by
  unfold lvs at h
  simp only [List.mem_cons, List.not_mem_nil, or_false] at h
  have i7 : inB 7 := by unfold inB; lia
  rcases h with rfl | rfl | rfl | rfl | rfl | rfl | rfl | rfl | rfl | rfl | rfl | rfl
  · exact (shw2 (shw_lit "text" D rfl rfl) (shw_lit "ab" D rfl rfl)).mono (Nat.le_refl _) (by decide)
  · exact (shw2 (shw_lit "text" D rfl rfl) (shw_lit "" D rfl rfl)).mono (Nat.le_refl _) (by decide)
  · exact (shw2 (shw_lit "text" D rfl rfl) (shw_lit "12" D rfl rfl)).mono (Nat.le_refl _) (by decide)
  · exact (shw2 (shw_lit "whole" D rfl rfl) (shw_int i7 D)).mono (Nat.le_refl _) (by decide)
  · exact (shw2 (shw_lit "whole" D rfl rfl) (shw_int inB0 D)).mono (Nat.le_refl _) (by decide)
  · exact (shw2 (shw_lit "name" D rfl rfl) (shw_lit "N" D rfl rfl)).mono (Nat.le_refl _) (by decide)
  · exact (shw2 (shw_lit "name" D rfl rfl) (shw_lit "S" D rfl rfl)).mono (Nat.le_refl _) (by decide)
  · exact (shw2 (shw_lit "name" D rfl rfl) (shw_lit "P" D rfl rfl)).mono (Nat.le_refl _) (by decide)
  · exact (shw2 (shw_lit "name" D rfl rfl) (shw_lit "R" D rfl rfl)).mono (Nat.le_refl _) (by decide)
  · exact (shw2 (shw_lit "name" D rfl rfl) (shw_lit "NONE" D rfl rfl)).mono (Nat.le_refl _) (by decide)
  · exact (shw1 (shw_lit "null" D rfl rfl)).mono (Nat.le_refl _) (by decide)
  · exact (shw2 (shw_lit "text" D rfl rfl) (shw_lit "-3" D rfl rfl)).mono (Nat.le_refl _) (by decide)
theorem shw_un {t : V} {D A : Nat} (h : Shw t D A) : Shw (un t) (D + 1) (A + 193) := (shw3 (shw_lit "unary" D rfl rfl) (shw_lit "$" D rfl rfl) h).mono (Nat.le_refl _) (by lia)
theorem shw_goal {t : V} (h : t ∈ goals) (D : Nat) : Shw t (D + 2) 400 := by
  unfold goals at h
  simp only [List.mem_cons, List.not_mem_nil, or_false] at h
  have i3 : inB 3 := by unfold inB; lia
  rcases h with rfl | rfl | rfl | rfl
  · exact (shw2 (shw_lit "name" (D + 1) rfl rfl) (shw_lit "S" _ rfl rfl)).mono (Nat.le_refl _) (by decide)
  · exact (shw_un (shw2 (shw_lit "name" D rfl rfl) (shw_lit "S" D rfl rfl))).mono (Nat.le_refl _) (by decide)
  · exact (shw_un (shw2 (shw_lit "text" D rfl rfl) (shw_lit "" D rfl rfl))).mono (Nat.le_refl _) (by decide)
  · exact (shw2 (shw_lit "whole" (D + 1) rfl rfl) (shw_int i3 _)).mono (Nat.le_refl _) (by decide)
theorem shw_ref {t : V} (h : t ∈ refs) (D : Nat) : Shw t (D + 2) 400 := by
  unfold refs at h
  simp only [List.mem_cons, List.not_mem_nil, or_false] at h
  rcases h with rfl | rfl | rfl
  · exact (shw2 (shw_lit "name" (D + 1) rfl rfl) (shw_lit "S" _ rfl rfl)).mono (Nat.le_refl _) (by decide)
  · exact (shw_un (shw2 (shw_lit "name" D rfl rfl) (shw_lit "R" D rfl rfl))).mono (Nat.le_refl _) (by decide)
  · exact (shw2 (shw_lit "text" (D + 1) rfl rfl) (shw_lit "x" _ rfl rfl)).mono (Nat.le_refl _) (by decide)
noncomputable def tL (d : Nat) : Nat := 900 * 2 ^ d - 700
theorem tL_succ (d : Nat) : tL (d + 1) = 2 * tL d + 700 := by
  have := Nat.one_le_two_pow (n := d)
  unfold tL
  rw [Nat.pow_succ]
  lia
theorem shw_op2 {op : String} (h : Op2 op) (D : Nat) : Shw (str op) D 92 := by
  cases h <;> exact shw_lit _ D rfl rfl
theorem shw_fn4 {f : String} (h : Fn4 f) (D : Nat) : Shw (str f) D 92 := by
  cases h <;> exact shw_lit _ D rfl rfl
theorem shw_tree {d : Nat} {t : V} (h : Tree d t) : (∃ l, t = .tup l) ∧ Shw t (2 * d + 1) (tL d) := by
  have t1 : ∀ d, 200 ≤ tL d := fun d => by have := Nat.one_le_two_pow (n := d); unfold tL; lia
  induction h with
  | @leaf d t h => exact ⟨by unfold lvs at h; simp only [List.mem_cons, List.not_mem_nil, or_false] at h; rcases h with rfl | rfl | rfl | rfl | rfl | rfl | rfl | rfl | rfl | rfl | rfl | rfl <;> exact ⟨_, rfl⟩, (shw_leaf h (2 * d)).mono (Nat.le_refl _) (t1 d)⟩
  | @join d l r _ _ hl hr => exact ⟨⟨_, rfl⟩, (shw3 (shw_lit "join" _ rfl rfl) hl.2 hr.2).mono (by lia) (by rw [tL_succ]; lia)⟩
  | @bin d op l r ho _ _ hl hr => exact ⟨⟨_, rfl⟩, (shw4 (shw_lit "binary" _ rfl rfl) (shw_op2 ho _) hl.2 hr.2).mono (by lia) (by rw [tL_succ]; lia)⟩
  | @dot d l g _ hg hl => exact ⟨⟨_, rfl⟩, (shw4 (D := 2 * d + 2) (shw_lit "binary" _ rfl rfl) (shw_lit "." _ rfl rfl) (hl.2.mono (by lia) (Nat.le_refl _)) (shw_goal hg _)).mono (by lia) (by rw [tL_succ]; lia)⟩
  | @now d l g _ hg hl => exact ⟨⟨_, rfl⟩, (shw4 (D := 2 * d + 2) (shw_lit "binary" _ rfl rfl) (shw_lit "$" _ rfl rfl) (hl.2.mono (by lia) (Nat.le_refl _)) (shw_goal hg _)).mono (by lia) (by rw [tL_succ]; lia)⟩
  | plus _ h => exact ⟨⟨_, rfl⟩, (shw3 (shw_lit "unary" _ rfl rfl) (shw_lit "+" _ rfl rfl) h.2).mono (by lia) (by rw [tL_succ]; lia)⟩
  | minus _ h => exact ⟨⟨_, rfl⟩, (shw3 (shw_lit "unary" _ rfl rfl) (shw_lit "-" _ rfl rfl) h.2).mono (by lia) (by rw [tL_succ]; lia)⟩
  | q _ h => exact ⟨⟨_, rfl⟩, (shw3 (shw_lit "unary" _ rfl rfl) (shw_lit "?" _ rfl rfl) h.2).mono (by lia) (by rw [tL_succ]; lia)⟩
  | tilde _ h => exact ⟨⟨_, rfl⟩, (shw3 (shw_lit "unary" _ rfl rfl) (shw_lit "~" _ rfl rfl) h.2).mono (by lia) (by rw [tL_succ]; lia)⟩
  | star _ h => exact ⟨⟨_, rfl⟩, (shw3 (shw_lit "unary" _ rfl rfl) (shw_lit "*" _ rfl rfl) h.2).mono (by lia) (by rw [tL_succ]; lia)⟩
  | dollar _ h => exact ⟨⟨_, rfl⟩, (shw3 (shw_lit "unary" _ rfl rfl) (shw_lit "$" _ rfl rfl) h.2).mono (by lia) (by rw [tL_succ]; lia)⟩
  | @rdot d t h => exact ⟨⟨_, rfl⟩, (shw3 (D := 2 * d + 2) (shw_lit "unary" _ rfl rfl) (shw_lit "." _ rfl rfl) (shw_ref h _)).mono (by lia) (by have := t1 d; rw [tL_succ]; lia)⟩
  | @rat d t h => exact ⟨⟨_, rfl⟩, (shw3 (D := 2 * d + 2) (shw_lit "unary" _ rfl rfl) (shw_lit "@" _ rfl rfl) (shw_ref h _)).mono (by lia) (by have := t1 d; rw [tL_succ]; lia)⟩
  | @call0 d f hf => exact ⟨⟨_, rfl⟩, (shw3 (D := 2 * d + 2) (shw_lit "call" _ rfl rfl) (shw_fn4 hf _) (ShwL.nil (2 * d + 1)).tup).mono (by lia) (by have := t1 d; rw [tL_succ]; lia)⟩
  | @call1 d f l hf _ h => exact ⟨⟨_, rfl⟩, (shw3 (D := 2 * d + 2) (shw_lit "call" _ rfl rfl) (shw_fn4 hf _) (shw1 h.2)).mono (by lia) (by rw [tL_succ]; lia)⟩
  | @call2 d f l r hf _ _ hl hr => exact ⟨⟨_, rfl⟩, (shw3 (D := 2 * d + 2) (shw_lit "call" _ rfl rfl) (shw_fn4 hf _) (shw2 hl.2 hr.2)).mono (by lia) (by rw [tL_succ]; lia)⟩
theorem sim_tree {d : Nat} {t : V} (h : Tree d t) (hd : d ≤ 3) : Sim d t := by
  induction h with
  | leaf h => exact (sim_leaf h).at
  | join _ _ hl hr => exact sim_join (hl (by lia)) (hr (by lia))
  | bin ho _ _ hl hr => exact sim_bin ho (hl (by lia)) (hr (by lia))
  | dot _ hg hl => exact sim_gdot (hl (by lia)) hg
  | now _ hg hl => exact sim_gnow (hl (by lia)) hg
  | plus _ h => exact sim_plus (h (by lia))
  | minus _ h => exact sim_minus (h (by lia))
  | q _ h => exact sim_q (h (by lia))
  | tilde _ h => exact sim_tilde (h (by lia))
  | @star d t ht h =>
    obtain ⟨⟨l, rfl⟩, s⟩ := shw_tree ht
    have : 2 ^ d ≤ 2 ^ 2 := Nat.pow_le_pow_right (by lia) (by lia)
    exact sim_star (s.mono (by lia) (by unfold tL; lia))
  | dollar _ h => exact sim_dollar (h (by lia))
  | rdot h => exact (sim_ref_dot h).at
  | rat h => exact (sim_ref_at h).at
  | call0 hf => exact sim_call0 hf
  | call1 hf _ h => exact sim_call1 hf (h (by lia))
  | call2 hf _ _ hl hr => exact sim_call2 hf (hl (by lia)) (hr (by lia))
theorem shw_nd : ∀ n : Nd, n.ok → Shw (.tup n.l) (31 + n.n) (3200 * n.n)
  | .chars l, h => (shw2 (shw_lit "chars" 31 rfl rfl) (shw_tok h 31)).mono (by show 32 ≤ 32; lia) (by show _ ≤ 3200 * 1; lia)
  | .delay t, h => (shw2 (D := 31) (shw_lit "delay" 31 rfl rfl) (Shw.mono h (by lia) (Nat.le_refl _))).mono (by show 32 ≤ 32; lia) (by show _ ≤ 3200 * 1; lia)
  | .cat a b, h => (shw3 (D := 31 + (a.n + b.n)) (shw_lit "cat" _ rfl rfl) ((shw_nd a h.1).mono (by lia) (Nat.le_refl _)) ((shw_nd b h.2).mono (by lia) (Nat.le_refl _))).mono (by show _ ≤ 31 + (a.n + b.n + 1); lia) (by show _ ≤ 3200 * (a.n + b.n + 1); lia)
  | .alt a b, h => (shw3 (D := 31 + (a.n + b.n)) (shw_lit "alt" _ rfl rfl) ((shw_nd a h.1).mono (by lia) (Nat.le_refl _)) ((shw_nd b h.2).mono (by lia) (Nat.le_refl _))).mono (by show _ ≤ 31 + (a.n + b.n + 1); lia) (by show _ ≤ 3200 * (a.n + b.n + 1); lia)
  | .later a k, h => (shw3 (D := 31 + a.n) (shw_lit "later" _ rfl rfl) (shw_nd a h.1) (shw_tok h.2 _)).mono (by show _ ≤ 31 + (a.n + 1); lia) (by show _ ≤ 3200 * (a.n + 1); lia)
  | .now a k, h => (shw3 (D := 31 + a.n) (shw_lit "now" _ rfl rfl) (shw_nd a h.1) (shw_tok h.2 _)).mono (by show _ ≤ 31 + (a.n + 1); lia) (by show _ ≤ 3200 * (a.n + 1); lia)
  | .cursor k, h => (shw2 (shw_lit "cursor" 31 rfl rfl) (shw_tok h 31)).mono (by show 32 ≤ 32; lia) (by show _ ≤ 3200 * 1; lia)
  | .len2, _ => (shw2 (shw_lit "len" 31 rfl rfl) (shw_int (by unfold inB; lia) 31)).mono (by show 32 ≤ 32; lia) (by show _ ≤ 3200 * 1; lia)
theorem shw_val (v : Val) (h : v.good) : Shw v.L (32 + v.n) (3200 * v.n + 200) := by
  cases v with
  | int i => exact (shw_int h _).mono (Nat.le_refl _) (by lia)
  | str l => exact (shw_tok h _).mono (Nat.le_refl _) (by lia)
  | pat n => exact (shw2 (shw_lit "pattern" _ rfl rfl) (shw_nd n h.2)).mono (by show _ ≤ 32 + n.n; lia) (by show _ ≤ 3200 * n.n + 200; lia)
  | del t => exact (shw2 (D := 30) (shw_lit "delayed" _ rfl rfl) h).mono (by show _ ≤ 32 + 1; lia) (by show _ ≤ 3200 * 1 + 200; lia)
  | ref k => exact (shw2 (D := 30) (shw_lit "name" _ rfl rfl) (shw_tok h _)).mono (by show _ ≤ 32 + 1; lia) (by show _ ≤ 3200 * 1 + 200; lia)
end Mine

end

section
namespace Mine
open PySem
section
variable (c i : Nat) (h l r t v w x y p q : V) (μ : Mu) (lg : V) (k : List Nat)
/-! ### _law_plain -/
noncomputable abbrev each (c : Nat) (l : List V) (μ : Mu) : Res := evEach (fun d μ => bindR (Phi c 61 [d] μ) Res.ret) l μ fun ds μ => typV "tuple" [.list ds] μ Res.ret
theorem pl_str (s : Str) : Phi (c+1) 61 [.str s] μ = .ret (.str s) μ := by kernel_rfl!
theorem pl_int (j : Int) : Phi (c+1) 61 [.int j] μ = .ret (.int j) μ := by kernel_rfl!
theorem pl_ref : Phi (c+1) 61 [refV k] μ = .ret (sv k) μ := by kernel_rfl!
theorem pl_delay : Phi (c+1) 61 [.tup [str "delay", t]] μ = .ret (.tup [str "delay", t]) μ := by kernel_rfl!
theorem pl_chars : Phi (c+1) 61 [.tup [str "chars", x]] μ = each c [str "chars", x] μ := by kernel_rfl!
theorem pl_len : Phi (c+1) 61 [.tup [str "len", x]] μ = each c [str "len", x] μ := by kernel_rfl!
theorem pl_cursor : Phi (c+1) 61 [.tup [str "cursor", x]] μ = each c [str "cursor", x] μ := by kernel_rfl!
theorem pl_cat : Phi (c+1) 61 [.tup [str "cat", x, y]] μ = each c [str "cat", x, y] μ := by kernel_rfl!
theorem pl_alt : Phi (c+1) 61 [.tup [str "alt", x, y]] μ = each c [str "alt", x, y] μ := by kernel_rfl!
theorem pl_later : Phi (c+1) 61 [.tup [str "later", x, y]] μ = each c [str "later", x, y] μ := by kernel_rfl!
theorem pl_now : Phi (c+1) 61 [.tup [str "now", x, y]] μ = each c [str "now", x, y] μ := by kernel_rfl!
theorem each2 (a b a' b' : V) (ha : Phi c 61 [a] μ = .ret a' μ) (hb : Phi c 61 [b] μ = .ret b' μ) : each c [a, b] μ = .ret (.tup [a', b']) μ := by
  show (match bindR (Phi c 61 [a] μ) Res.ret with | .ret d μ => evEach _ [b] μ _ | _ => .stuck) = _
  rw [ha]
  show (match bindR (Phi c 61 [b] μ) Res.ret with | .ret d μ => evEach _ [] μ _ | _ => .stuck) = _
  rw [hb]
  rfl
theorem each3 (a b e a' b' e' : V) (ha : Phi c 61 [a] μ = .ret a' μ) (hb : Phi c 61 [b] μ = .ret b' μ) (he : Phi c 61 [e] μ = .ret e' μ) : each c [a, b, e] μ = .ret (.tup [a', b', e']) μ := by
  show (match bindR (Phi c 61 [a] μ) Res.ret with | .ret d μ => evEach _ [b, e] μ _ | _ => .stuck) = _
  rw [ha]
  show (match bindR (Phi c 61 [b] μ) Res.ret with | .ret d μ => evEach _ [e] μ _ | _ => .stuck) = _
  rw [hb]
  show (match bindR (Phi c 61 [e] μ) Res.ret with | .ret d μ => evEach _ [] μ _ | _ => .stuck) = _
  rw [he]
  rfl
end
theorem plain_nd (μ : Mu) : ∀ (n : Nd) (c : Nat), n.n ≤ c → Phi (c+1) 61 [.tup n.p] μ = .ret (.tup n.l) μ
  | .chars l, c, h => by
    obtain ⟨e, rfl⟩ : ∃ e, c = e + 1 := ⟨c - 1, by have : 1 ≤ c := h; omega⟩
    exact (pl_chars ..).trans (each2 _ _ _ _ _ _ (pl_str ..) (pl_str ..))
  | .delay t, c, h => pl_delay ..
  | .cat a b, c, h => by
    have h' : a.n + b.n + 1 ≤ c := h
    obtain ⟨e, rfl⟩ : ∃ e, c = e + 1 := ⟨c - 1, by omega⟩
    exact (pl_cat ..).trans (each3 _ _ _ _ _ _ _ _ (pl_str ..) (plain_nd μ a e (by omega)) (plain_nd μ b e (by omega)))
  | .alt a b, c, h => by
    have h' : a.n + b.n + 1 ≤ c := h
    obtain ⟨e, rfl⟩ : ∃ e, c = e + 1 := ⟨c - 1, by omega⟩
    exact (pl_alt ..).trans (each3 _ _ _ _ _ _ _ _ (pl_str ..) (plain_nd μ a e (by omega)) (plain_nd μ b e (by omega)))
  | .later a k, c, h => by
    have h' : a.n + 1 ≤ c := h
    obtain ⟨e, rfl⟩ : ∃ e, c = e + 1 := ⟨c - 1, by omega⟩
    exact (pl_later ..).trans (each3 _ _ _ _ _ _ _ _ (pl_str ..) (plain_nd μ a e (by omega)) (pl_ref ..))
  | .now a k, c, h => by
    have h' : a.n + 1 ≤ c := h
    obtain ⟨e, rfl⟩ : ∃ e, c = e + 1 := ⟨c - 1, by omega⟩
    exact (pl_now ..).trans (each3 _ _ _ _ _ _ _ _ (pl_str ..) (plain_nd μ a e (by omega)) (pl_ref ..))
  | .cursor k, c, h => by
    obtain ⟨e, rfl⟩ : ∃ e, c = e + 1 := ⟨c - 1, by have : 1 ≤ c := h; omega⟩
    exact (pl_cursor ..).trans (each2 _ _ _ _ _ _ (pl_str ..) (pl_ref ..))
  | .len2, c, h => by
    obtain ⟨e, rfl⟩ : ∃ e, c = e + 1 := ⟨c - 1, by have : 1 ≤ c := h; omega⟩
    exact (pl_len ..).trans (each2 _ _ _ _ _ _ (pl_str ..) (pl_int ..))
section
variable (c i : Nat) (h l r t v w x y p q : V) (μ : Mu) (lg : V) (k : List Nat)
theorem pv_int (j : Int) : Phi (c+1) 62 [.int j] μ = .ret (.int j) μ := by kernel_rfl!
theorem pv_str (s : Str) : Phi (c+1) 62 [.str s] μ = .ret (.str s) μ := by kernel_rfl!
theorem pv_none : Phi (c+1) 62 [.none] μ = .ret .none μ := by kernel_rfl!
theorem pv_del (t : List V) : Phi (c+1) 62 [.inst 3 [.tup t]] μ = .ret (.tup [str "delayed", .tup t]) μ := by kernel_rfl!
theorem pv_ref : Phi (c+1) 62 [refV k] μ = .ret (.tup [str "name", sv k]) μ := by kernel_rfl!
theorem pv_pat (t : List V) : Phi (c+1) 62 [.inst 2 [.tup t]] μ = bindR (Phi c 61 [.tup t] μ) fun w μ => .ret (.tup [str "pattern", w]) μ := by kernel_rfl!
theorem plain_val (v : Val) (hc : v.n ≤ c) : Phi (c+2) 62 [v.P] μ = .ret v.L μ := by
  cases v with
  | int i => exact pv_int ..
  | str l => exact pv_str ..
  | pat n => show Phi (c+2) 62 [.inst 2 [.tup n.p]] μ = _; rw [pv_pat, plain_nd μ n c hc]; rfl
  | del t => exact pv_del ..
  | ref k => exact pv_ref ..
/-! ### worth_told -/
noncomputable abbrev told46 (c : Nat) (t h : V) (r : Res) : Res := match r with
  | .ret v μ => evS 60 (topCx (fB 46).kinds (Phi c)) [vS "tree" t, vS "hooks" h, vS "found" v] ((fB 46).body.drop 1) μ fun u9 μ => .ret .none μ
  | .exc n μ => .ret (tErrV n) μ
  | _ => .stuck
theorem told_is : PhiL c 46 [t, h] μ = onlyRet (told46 c t h (Phi c 41 [t, h] μ)) := by kernel_rfl!
theorem told_rest : told46 c t h (.ret v μ) = bindR (Phi c 8 [v] μ) fun b μ => tst b (.ret tFail μ) (.ret (told v) μ) := by kernel_rfl!
noncomputable def Out.T : Out → V
  | val v => told v.P
  | fail => tFail
  | err n => tErrV n
theorem told_out (o : Out) (ν : Mu) (e : Phi (c+1) 41 [t, h] μ = o.P ν) : PhiL (c+1) 46 [t, h] μ = .ret o.T ν := by
  rw [told_is, e]
  cases o with
  | val v => rw [oPv, told_rest, f_fail]; rfl
  | fail => rw [oPf, told_rest, p_fail_inst]; rfl
  | err n => rfl
/-! ### the law's end -/
noncomputable def lcut (c j : Nat) (ρ : Rho) (μ : Mu) : Res := evS (65 - j) (lawCx c (fB 64).kinds) ρ ((fB 64).body.drop j) μ fun u9 μ => .ret .none μ
noncomputable def asgT (s : Option Stmt) : List Expr := match s with | some (.Assign [.Tuple ts _ _] _ _) => ts | _ => []
noncomputable abbrev pVals : V := .dict lawNs [.int 5, str "12", .inst 2 [.tup [str "len", .int 2]], .inst 5 [str "var", .none, str "N"]]
noncomputable abbrev rL (s m t : V) : Rho := [vS "script" s, vS "some" m, vS "tree" t, vS "log" (.cell 1), vS "world" lawW, vS "values" pVals, vS "hooks" (hkV 2)]
noncomputable abbrev k5 (c : Nat) (ρ : Rho) (p : V) (μ : Mu) : Res := match p with
  | .tup vs => (match bindAll (lawCx c (fB 64).kinds) vs (asgT (stAt (fB 64).body 5)) ρ with | some ρ => lcut c 6 ρ μ | none => .stuck)
  | _ => .stuck
theorem e_5 (s m : V) : lcut c 5 (rL s m t) μ = bindR (PhiL c 46 [t, hkV 2] μ) (k5 c (rL s m t)) := by kernel_rfl!
theorem e_5' (s m : V) : k5 c (rL s m t) (.tup [x, y]) μ = lcut c 6 (rL s m t ++ [vS "how" x, vS "found" y]) μ := by kernel_rfl!
theorem e_6 (s m : V) : lcut c 6 (rL s m t ++ [vS "how" x, vS "found" y]) μ = bindR (Phi c 60 [t, lawW, .cell 1] μ) fun u μ => lcut c 7 (rL s m t ++ [vS "how" x, vS "found" y, vS "due" u]) μ := by kernel_rfl!
noncomputable def st7 (c : Nat) (ρ : Rho) (μ : Mu) (kk : Rho → Mu → Res) : Res := evS 58 (lawCx c (fB 64).kinds) ρ (((fB 64).body.drop 7).take 1) μ kk
theorem e_7s (ρ : Rho) : lcut c 7 ρ μ = st7 c ρ μ (fun ρ μ => evS 57 (lawCx c (fB 64).kinds) ρ ((fB 64).body.drop 8) μ fun u9 μ => .ret .none μ) := by kernel_rfl!
theorem e_7x (s m u : V) (kk : Rho → Mu → Res) : st7 c (rL s m t ++ [vS "how" (str "error"), vS "found" y, vS "due" u]) μ kk = kk (rL s m t ++ [vS "how" (str "error"), vS "found" y, vS "due" u, vS "told" y]) μ := by kernel_rfl!
theorem e_7e (s m u : V) : lcut c 7 (rL s m t ++ [vS "how" (str "error"), vS "found" y, vS "due" u]) μ = lcut c 8 (rL s m t ++ [vS "how" (str "error"), vS "found" y, vS "due" u, vS "told" y]) μ := (e_7s ..).trans (e_7x ..)
theorem e_7f (s m u : V) : lcut c 7 (rL s m t ++ [vS "how" (str "fail"), vS "found" y, vS "due" u]) μ = bindR (Phi c 62 [y] μ) fun w μ => lcut c 8 (rL s m t ++ [vS "how" (str "fail"), vS "found" y, vS "due" u, vS "told" w]) μ := by kernel_rfl!
theorem e_7v (s m u : V) : lcut c 7 (rL s m t ++ [vS "how" (str "value"), vS "found" y, vS "due" u]) μ = bindR (Phi c 62 [y] μ) fun w μ => lcut c 8 (rL s m t ++ [vS "how" (str "value"), vS "found" y, vS "due" u, vS "told" w]) μ := by kernel_rfl!
theorem e_8 (s m u : V) : lcut c 8 (rL s m t ++ [vS "how" x, vS "found" y, vS "due" u, vS "told" w]) μ = bltV "repr" [.tup [x, w]] μ fun a μ => bltV "repr" [u] μ fun b μ => iteR (neT μ a b) (.ret (.bool false) μ) (iteR (neT μ (.cell 2) (.cell 1)) (.ret (.bool false) μ) (lcut c 9 (rL s m t ++ [vS "how" x, vS "found" y, vS "due" u, vS "told" w]) μ)) := by kernel_rfl!
theorem e_9 (s m u : V) (l : List V) : lcut (c+30) 9 (rL s m (.tup l) ++ [vS "how" x, vS "found" y, vS "due" u, vS "told" w]) μ = .ret (.bool true) μ := by kernel_rfl!
end
theorem leq_refl : ∀ l : List Nat, leq l l = true
  | [] => rfl
  | a :: l => by
    show (match Nat.beq a a with | true => leq l l | false => false) = true
    rw [Nat.beq_refl]
    exact leq_refl l
theorem eqAll_refl (f : V → V → Option Bool) : ∀ E : List V, (∀ e ∈ E, f e e = some true) → eqAll f E E = some true
  | [], _ => rfl
  | e :: E, h => by
    show (match f e e with | some p => (match eqAll f E E with | some q => some (p && q) | none => none) | none => none) = _
    rw [h e (List.mem_cons_self ..), eqAll_refl f E (fun x hx => h x (List.mem_cons_of_mem _ hx))]
    rfl
theorem repr_ok (l : List V) (h : Shw (.tup l) 60 100000) : ∃ s, ∀ μ k, bltV "repr" [.tup l] μ k = k (.str s) μ := by
  obtain ⟨d, a, b, c, e⟩ := h
  refine ⟨d.shown, fun μ k => ?_⟩
  show (match (match dataOf (.tup l) with | some d => (match okShow d with | true => some d.shown | false => none) | none => none) with | some x => k (.str x) μ | none => .stuck) = _
  rw [a]
  have : okShow d = true := by
    show (d.showable && Nat.ble d.depth 60 && Nat.ble d.shown.length 100000) = true
    rw [b, Nat.ble_eq_true_of_le c, Nat.ble_eq_true_of_le e]
    rfl
  show (match (match okShow d with | true => some d.shown | false => none) with | some x => k (.str x) μ | none => .stuck) = _
  rw [this]
theorem law_end (s m : V) (t : List V) (b : List V) (c : Nat) (hc : 60 ≤ c) (h : Sim 3 (.tup t)) : ∃ μ, lcut c 5 (rL s m (.tup t)) [b, [], []] = .ret (.bool true) μ := by
  obtain ⟨o, E, g, n, ⟨e, lo⟩, S⟩ := h
  obtain ⟨c, rfl⟩ : ∃ e, c = e + 50 := ⟨c - 50, by omega⟩
  have s1 := (S (c+50) (by omega) b [] [] (by decide) (by decide)).1
  have s2 := (S (c+50) (by omega) b [] E (by decide) (by omega)).2
  rw [List.nil_append] at s1 s2
  refine ⟨[b, E, E], ?_⟩
  rw [e_5, told_out (c+49) (hkV 2) (.tup t) [b, [], []] o _ s1, bR]
  -- behind `repr`
  have fin : ∀ (x f w : V) (u : List V), Shw (.tup u) 60 100000 → V.tup [x, w] = .tup u → lcut (c+50) 8 (rL s m (.tup t) ++ [vS "how" x, vS "found" f, vS "due" (.tup u), vS "told" w]) [b, E, E] = .ret (.bool true) [b, E, E] := fun x f w u hu eu => by
    obtain ⟨z, hz⟩ := repr_ok u hu
    rw [e_8, eu, hz, hz]
    have n1 : neT [b, E, E] (.str z) (.str z) = some false := by
      show some (!(leq z.cps.toList z.cps.toList)) = _
      rw [leq_refl]; rfl
    have n2 : neT [b, E, E] (.cell 2) (.cell 1) = some false := by
      show (eqAll (eqV 90) E E).map (!·) = _
      rw [eqAll_refl _ E lo]; rfl
    rw [n1, n2]
    exact e_9 ..
  have hn := n
  cases o with
  | val v =>
    have hv : v.n ≤ 15 := by have : v.n + 1 ≤ 2 ^ 4 := n; omega
    show k5 _ _ (.tup [str "value", v.P]) _ = _
    rw [e_5', e_6, s2, bR]
    show lcut _ 7 (rL s m (.tup t) ++ [vS "how" (str "value"), vS "found" v.P, vS "due" (told v.L)]) _ = _
    rw [e_7v, plain_val _ _ v (by omega), bR]
    exact fin _ _ _ _ ((shw2 (shw_lit "value" _ rfl rfl) (shw_val v g)).mono (by omega) (by omega)) rfl
  | fail =>
    show k5 _ _ (.tup [str "fail", .none]) _ = _
    rw [e_5', e_6, s2, bR]
    show lcut _ 7 (rL s m (.tup t) ++ [vS "how" (str "fail"), vS "found" .none, vS "due" tFail]) _ = _
    rw [e_7f, pv_none, bR]
    exact fin _ _ _ _ ((shw2 (shw_lit "fail" 9 rfl rfl) (shw_none 9)).mono (by omega) (by omega)) rfl
  | err j =>
    show k5 _ _ (.tup [str "error", .int j]) _ = _
    rw [e_5', e_6, s2, bR]
    show lcut _ 7 (rL s m (.tup t) ++ [vS "how" (str "error"), vS "found" (.int j), vS "due" (tErrV j)]) _ = _
    rw [e_7e]
    exact fin _ _ _ _ ((shw2 (shw_lit "error" 9 rfl rfl) (shw_int (by have := Nat.le_of_ble_eq_true (show Nat.ble j.natAbs 99 = true from g); unfold inB; omega) 9)).mono (by omega) (by omega)) rfl
end Mine

end

section
namespace Mine
open PySem
section
variable (c : Nat) (A J D N F R : Int) (S : List V) (rs : Mu) (μ : Mu)
noncomputable abbrev rN (D n : V) : Rho := [vS "box" (.cell 0), vS "deep" D, vS "number" n]
noncomputable abbrev rV (D n f r : V) : Rho := [vS "box" (.cell 0), vS "deep" D, vS "number" n, vS "form" f, vS "rest" r]
noncomputable abbrev rT (D N : Int) (f r : V) : Rho := rV (.int D) (.int N) f r
noncomputable abbrev muR (o : Option Mu) (k : Mu → Res) : Res := match o with | some μ => k μ | none => .stuck
theorem t_b0 (d : V) : Phi (c+1) 50 [.cell 0, d] μ = orR (itemV μ (.cell 0) (.int 0)) fun a => orR (binV .Mod a (.int 1009)) fun n => cut c 50 1 (rN d n) μ := by kernel_rfl!
theorem t_b1 (d n : V) : cut c 50 1 (rN d n) μ = orR (itemV μ (.cell 0) (.int 0)) fun a => orR (binV .Mult a (.int 31)) fun p => orR (itemV μ (.cell 0) (.int 1)) fun s => orR (itemV μ (.cell 0) (.int 2)) fun jv => orR (itemV μ (.cell 0) (.int 1)) fun s' => bltV "len" [s'] μ fun len μ => orR (binV .Mod jv len) fun j => orR (itemV μ s j) fun y => orR (binV .Add p y) fun q => orR (binV .Add q (.int 17)) fun q => orR (binV .Mod q (.int 1000003)) fun q => muR (setCell μ 0 0 q) fun μ => cut c 50 2 (rN d n) μ := by kernel_rfl!
theorem t_b2 (d n : V) : cut c 50 2 (rN d n) μ = orR (itemV μ (.cell 0) (.int 2)) fun j => orR (binV .Add j (.int 1)) fun j => muR (setCell μ 0 2 j) fun μ => cut c 50 3 (rN d n) μ := by kernel_rfl!
theorem t_b3 (d n : V) : cut c 50 3 (rN d n) μ = orR (binV .Mod n (.int 11)) fun f => orR (binV .FloorDiv n (.int 11)) fun r => cut c 50 4 (rV d n f r) μ := by kernel_rfl!
noncomputable abbrev bx (A J : Int) (S : List V) (rs : Mu) : Mu := [.int A, .list S, .int J] :: rs
noncomputable abbrev tLeaf (R : Int) (μ : Mu) : Res := orR (itemV μ (.list lvs) (.int (R.fmod 12))) fun v => .ret v μ
theorem t_4 : cut (c+1) 50 4 (rT D N (.int F) (.int R)) μ = iteR (eqT μ (.int D) (.int 0)) (tLeaf R μ) (iteR (cmpV .Lt (.int F) (.int 2) μ) (tLeaf R μ) (cut (c+1) 50 5 (rT D N (.int F) (.int R)) μ)) := by kernel_rfl!
noncomputable abbrev sub (c : Nat) (D : Int) (μ : Mu) (k : V → Mu → Res) : Res := bindR (Phi c 50 [.cell 0, .int (D - 1)] μ) k
noncomputable abbrev pick (μ : Mu) (L : List V) (i : Int) (k : V → Res) : Res := orR (itemV μ (.list L) (.int i)) k
theorem t_2 : cut c 50 5 (rT D N (.int 2) (.int R)) μ = sub c D μ fun l μ => sub c D μ fun r μ => .ret (.tup [str "join", l, r]) μ := by kernel_rfl!
theorem t_3 : cut c 50 5 (rT D N (.int 3) (.int R)) μ = sub c D μ fun l μ => sub c D μ fun r μ => .ret (.tup [str "join", l, r]) μ := by kernel_rfl!
noncomputable abbrev ops2 : List V := [str "+", str "-", str "*", str "/", str "**", str "|", str "#"]
theorem t_4b : cut c 50 5 (rT D N (.int 4) (.int R)) μ = pick μ ops2 (R.fmod 7) fun op => sub c D μ fun l μ => sub c D μ fun r μ => .ret (.tup [str "binary", op, l, r]) μ := by kernel_rfl!
theorem t_5 : cut c 50 5 (rT D N (.int 5) (.int R)) μ = pick μ ops2 (R.fmod 7) fun op => sub c D μ fun l μ => sub c D μ fun r μ => .ret (.tup [str "binary", op, l, r]) μ := by kernel_rfl!
theorem t_6 : cut c 50 5 (rT D N (.int 6) (.int R)) μ = pick μ goals (R.fmod 4) fun g => pick μ [str ".", str "$"] (R.fmod 2) fun op => sub c D μ fun l μ => .ret (.tup [str "binary", op, l, g]) μ := by kernel_rfl!
noncomputable abbrev ops1 : List V := [str "+", str "-", str "?", str "~", str "*", str "$"]
theorem t_7 : cut c 50 5 (rT D N (.int 7) (.int R)) μ = pick μ ops1 (R.fmod 6) fun op => sub c D μ fun t μ => .ret (.tup [str "unary", op, t]) μ := by kernel_rfl!
theorem t_8 : cut c 50 5 (rT D N (.int 8) (.int R)) μ = pick μ [str ".", str "@"] (R.fmod 2) fun op => pick μ refs ((R.fdiv 2).fmod 3) fun t => .ret (.tup [str "unary", op, t]) μ := by kernel_rfl!
noncomputable abbrev fns : List V := [str "F", str "G", str "H", str "NOPE"]
noncomputable abbrev tCall (c : Nat) (D R : Int) (μ : Mu) : Res := typV "range" [.int (R.fmod 3)] μ fun v μ => match items v with
  | some L => (match fitL L with
    | false => .stuck
    | true => evEach (fun u9 μ => bindR (Phi c 50 [.cell 0, .int (D - 1)] μ) Res.ret) L μ fun ds μ => pick μ fns ((R.fdiv 3).fmod 4) fun nm => typV "tuple" [.list ds] μ fun tp μ => .ret (.tup [str "call", nm, tp]) μ)
  | none => .stuck
theorem t_9 : cut c 50 5 (rT D N (.int 9) (.int R)) μ = tCall c D R μ := by kernel_rfl!
theorem t_10 : cut c 50 5 (rT D N (.int 10) (.int R)) μ = tCall c D R μ := by kernel_rfl!
end
/-! ### the box -/
theorem pick_is {μ : Mu} {L : List V} {i : Nat} {v : V} (k : V → Res) (h : L[i]? = some v) (hi : i < 1000) : pick μ L (i : Int) k = k v := by
  have : Nat.blt i (2 ^ 40) = true := Nat.ble_eq_true_of_le (by lia)
  show orR (match Nat.blt i (2 ^ 40) with | true => L[i]? | false => none) k = _
  rw [this, h]
theorem pick_of {μ : Mu} (L : List V) (i : Nat) (k : V → Res) (hi : i < L.length) (hl : L.length ≤ 100) : ∃ v ∈ L, pick μ L (i : Int) k = k v :=
  ⟨L[i], List.getElem_mem hi, pick_is k (List.getElem?_eq_getElem hi) (by lia)⟩
theorem modV (m : Int) (n : Nat) (h : 0 < n) : binV .Mod (.int m) (.int (n : Int)) = some (.int (m.fmod n)) := by
  have : decide ((n : Int) = 0) = false := decide_eq_false (by lia)
  show (match decide ((n : Int) = 0) with | true => none | false => some (V.int (m.fmod n))) = _
  rw [this]
noncomputable abbrev intsV (ss : List Nat) : List V := ss.map fun (s : Nat) => V.int (s : Int)
theorem box_step (c : Nat) (D : Int) (a J : Nat) (ss : List Nat) (rs : Mu) (ha : a < 10 ^ 9) (hJ : J < 2000) (h0 : 0 < ss.length) (h13 : ss.length ≤ 13) :
    ∃ q : Nat, q < 10 ^ 9 ∧ Phi (c+1) 50 [.cell 0, .int D] (bx a J (intsV ss) rs) = cut c 50 4 (rT D ((a % 1009 : Nat) : Int) (.int ((a % 1009 % 11 : Nat) : Int)) (.int ((a % 1009 / 11 : Nat) : Int))) (bx q (J + 1 : Nat) (intsV ss) rs) := by
  have hlen : (intsV ss).length = ss.length := List.length_map ..
  have hj : J % ss.length < ss.length := Nat.mod_lt _ h0
  refine ⟨(a * 31 + ss[J % ss.length] + 17) % 1000003, Nat.lt_trans (Nat.mod_lt _ (by decide)) (by decide), ?_⟩
  have b0 : itemV (bx a J (intsV ss) rs) (.cell 0) (.int 0) = some (.int a) := rfl
  have b1 : itemV (bx a J (intsV ss) rs) (.cell 0) (.int 1) = some (.list (intsV ss)) := rfl
  have b2 : itemV (bx a J (intsV ss) rs) (.cell 0) (.int 2) = some (.int J) := rfl
  have m1 : binV .Mod (.int (a : Int)) (.int 1009) = some (.int ((a % 1009 : Nat) : Int)) := by
    rw [show (1009 : Int) = ((1009 : Nat) : Int) from rfl, modV _ _ (by decide), ← Int.ofNat_fmod]
  have m2 : binV .Mult (.int (a : Int)) (.int 31) = some (.int (a * 31)) := mulV _ _ (by lia) (by decide)
  have m3 : ∀ μ k, bltV "len" [.list (intsV ss)] μ k = k (.int (ss.length : Int)) μ := fun μ k => by
    show (match Nat.ble (intsV ss).length 100000 with | true => k (toI (intsV ss).length) μ | false => .stuck) = _
    rw [hlen, Nat.ble_eq_true_of_le (show ss.length ≤ 100000 by lia)]
    rfl
  have m4 : binV .Mod (.int (J : Int)) (.int (ss.length : Int)) = some (.int ((J % ss.length : Nat) : Int)) := by rw [modV _ _ h0, ← Int.ofNat_fmod]
  have m5 : ∀ k : V → Res, orR (itemV (bx a J (intsV ss) rs) (.list (intsV ss)) (.int ((J % ss.length : Nat) : Int))) k = k (.int (ss[J % ss.length] : Int)) := fun k => by
    refine pick_is k ?_ (by lia)
    rw [List.getElem?_map, List.getElem?_eq_getElem hj]
    rfl
  have m6 : ∀ x y : Int, binV .Add (.int x) (.int y) = some (.int (x + y)) := fun x y => rfl
  have m7 : binV .Mod (.int ((a : Int) * 31 + (ss[J % ss.length] : Int) + 17)) (.int 1000003) = some (.int (((a * 31 + ss[J % ss.length] + 17) % 1000003 : Nat) : Int)) := by
    have e : (a : Int) * 31 + (ss[J % ss.length] : Int) + 17 = ((a * 31 + ss[J % ss.length] + 17 : Nat) : Int) := by simp
    rw [show (1000003 : Int) = ((1000003 : Nat) : Int) from rfl, modV _ _ (by decide), e, ← Int.ofNat_fmod]
  have s1 : ∀ v, setCell (bx a J (intsV ss) rs) 0 0 v = some ([v, .list (intsV ss), .int J] :: rs) := fun v => rfl
  have c2 : ∀ q : Int, itemV (bx q J (intsV ss) rs) (.cell 0) (.int 2) = some (.int J) := fun q => rfl
  have s2 : ∀ (q : Int) v, setCell (bx q J (intsV ss) rs) 0 2 v = some ([.int q, .list (intsV ss), v] :: rs) := fun q v => rfl
  have f1 : binV .Mod (.int ((a % 1009 : Nat) : Int)) (.int 11) = some (.int ((a % 1009 % 11 : Nat) : Int)) := by
    rw [show (11 : Int) = ((11 : Nat) : Int) from rfl, modV _ _ (by decide), ← Int.ofNat_fmod]
  have f2 : binV .FloorDiv (.int ((a % 1009 : Nat) : Int)) (.int 11) = some (.int ((a % 1009 / 11 : Nat) : Int)) := by
    show some (V.int (((a % 1009 : Nat) : Int).fdiv 11)) = _
    rw [show (11 : Int) = ((11 : Nat) : Int) from rfl, ← Int.ofNat_fdiv]
  rw [t_b0, b0, orR_s, m1, orR_s, t_b1, b0, orR_s, m2, orR_s, b1, orR_s, b2, orR_s, orR_s, m3, m4, orR_s, m5, m6, orR_s, m6, orR_s, m7, orR_s, s1]
  show cut c 50 2 _ (bx _ J (intsV ss) rs) = _
  rw [t_b2, c2, orR_s, m6, orR_s, s2]
  show cut c 50 3 _ _ = _
  rw [t_b3, f1, orR_s, f2, orR_s]
  rfl
noncomputable abbrev Drawn (d : Nat) (ss : List Nat) : Prop := ∀ (c a J : Nat) (rs : Mu), d + 2 ≤ c → a < 10 ^ 9 → J + 2 ^ (d + 1) ≤ 1000 → ∃ (t : V) (a' J' : Nat), Tree d t ∧ a' < 10 ^ 9 ∧ J' + 1 ≤ J + 2 ^ (d + 1) ∧ Phi c 50 [.cell 0, .int (d : Int)] (bx a J (intsV ss) rs) = .ret t (bx a' J' (intsV ss) rs)
theorem draw1 {d : Nat} {ss : List Nat} (H : Drawn d ss) (c a J : Nat) (rs : Mu) (hc : d + 2 ≤ c) (ha : a < 10 ^ 9) (hJ : J + 2 ^ (d + 1) ≤ 1000) :
    ∃ (t : V) (a' J' : Nat), Tree d t ∧ a' < 10 ^ 9 ∧ J' + 1 ≤ J + 2 ^ (d + 1) ∧ ∀ k, sub c ((d + 1 : Nat) : Int) (bx a J (intsV ss) rs) k = k t (bx a' J' (intsV ss) rs) := by
  refine eEEEAAA (H c a J rs hc ha hJ) fun t a' J' T q j e => ?_
  refine ⟨t, a', J', T, q, j, fun k => ?_⟩
  unfold sub
  rw [show (((d + 1 : Nat) : Int) - 1) = (d : Int) by lia, e]
  rfl
theorem draw {ss : List Nat} (h0 : 0 < ss.length) (h13 : ss.length ≤ 13) : ∀ d, Drawn d ss
  | 0, c, a, J, rs, hc, ha, hJ => by
    obtain ⟨c, rfl⟩ : ∃ e, c = e + 2 := ⟨c - 2, by lia⟩
    refine eEA (box_step (c+1) 0 a J ss rs ha (by lia) h0 h13) fun q hq e => ?_
    refine eEA (pick_of (μ := bx q (J + 1 : Nat) (intsV ss) rs) lvs (a % 1009 / 11 % 12) (fun v => .ret v (bx q (J + 1 : Nat) (intsV ss) rs)) (show _ < 12 from Nat.mod_lt _ (by lia)) (by decide)) fun t ht p => ?_
    refine ⟨t, q, J + 1, .leaf ht, hq, by lia, ?_⟩
    show Phi (c+1+1) 50 [.cell 0, .int 0] _ = _
    rw [e, t_4]
    show tLeaf _ _ = _
    unfold tLeaf
    rw [show (12 : Int) = ((12 : Nat) : Int) from rfl, ← Int.ofNat_fmod]
    exact p
  | d + 1, c, a, J, rs, hc, ha, hJ => by
    have H := draw h0 h13 d
    have hp : 2 ^ (d + 1 + 1) = 2 * 2 ^ (d + 1) := by rw [Nat.pow_succ]; lia
    have hp1 := Nat.one_le_two_pow (n := d + 1)
    obtain ⟨c, rfl⟩ : ∃ e, c = e + 2 := ⟨c - 2, by lia⟩
    refine eEA (box_step (c+1) ((d + 1 : Nat) : Int) a J ss rs ha (by lia) h0 h13) fun q hq e => ?_
    -- the parts
    refine eEEEAAA (draw1 H (c+1) q (J+1) rs (by lia) hq (by lia)) fun t1 a1 J1 T1 q1 j1 e1 => ?_
    refine eEEEAAA (draw1 H (c+1) a1 J1 rs (by lia) q1 (by lia)) fun t2 a2 J2 T2 q2 j2 e2 => ?_
    have nz : ∀ μ, eqT μ (.int ((d + 1 : Nat) : Int)) (.int 0) = some false := fun μ => congrArg some (decide_eq_false (by lia))
    rw [show c + 2 = c + 1 + 1 from rfl, e, t_4, nz, iteR_f]
    have hf : a % 1009 % 11 < 11 := Nat.mod_lt _ (by lia)
    generalize hN : ((a % 1009 : Nat) : Int) = N
    generalize hR : a % 1009 / 11 = r
    generalize a % 1009 % 11 = f at hf
    have em : ∀ k : Nat, ((r : Nat) : Int).fmod ((k : Nat) : Int) = ((r % k : Nat) : Int) := fun k => Int.ofNat_fmod r k |>.symm
    have p1 : ∀ {t}, Tree (d+1) t → ∀ {r : Res}, r = .ret t (bx a1 J1 (intsV ss) rs) → ∃ (t : V) (a' J' : Nat), Tree (d+1) t ∧ a' < 10 ^ 9 ∧ J' + 1 ≤ J + 2 ^ (d + 1 + 1) ∧ r = .ret t (bx a' J' (intsV ss) rs) := fun {t} T {r} h => ⟨t, a1, J1, T, q1, by lia, h⟩
    have p2 : ∀ {t}, Tree (d+1) t → ∀ {r : Res}, r = .ret t (bx a2 J2 (intsV ss) rs) → ∃ (t : V) (a' J' : Nat), Tree (d+1) t ∧ a' < 10 ^ 9 ∧ J' + 1 ≤ J + 2 ^ (d + 1 + 1) ∧ r = .ret t (bx a' J' (intsV ss) rs) := fun {t} T {r} h => ⟨t, a2, J2, T, q2, by lia, h⟩
    have p0 : ∀ {t}, Tree (d+1) t → ∀ {r : Res}, r = .ret t (bx q (J + 1 : Nat) (intsV ss) rs) → ∃ (t : V) (a' J' : Nat), Tree (d+1) t ∧ a' < 10 ^ 9 ∧ J' + 1 ≤ J + 2 ^ (d + 1 + 1) ∧ r = .ret t (bx a' J' (intsV ss) rs) := fun {t} T {r} h => ⟨t, q, J + 1, T, hq, by lia, h⟩
    have leaf : ∃ (t : V) (a' J' : Nat), Tree (d+1) t ∧ a' < 10 ^ 9 ∧ J' + 1 ≤ J + 2 ^ (d + 1 + 1) ∧ tLeaf (r : Int) (bx q (J + 1 : Nat) (intsV ss) rs) = .ret t (bx a' J' (intsV ss) rs) := by
      refine eEA (pick_of (μ := bx q (J + 1 : Nat) (intsV ss) rs) lvs (r % 12) (fun v => .ret v (bx q (J + 1 : Nat) (intsV ss) rs)) (show _ < 12 from Nat.mod_lt _ (by lia)) (by decide)) fun t ht p => ?_
      refine p0 (.leaf ht) ?_
      unfold tLeaf
      rw [show (12 : Int) = ((12 : Nat) : Int) from rfl, em]
      exact p
    have join : ∃ (t : V) (a' J' : Nat), Tree (d+1) t ∧ a' < 10 ^ 9 ∧ J' + 1 ≤ J + 2 ^ (d + 1 + 1) ∧ (sub (c+1) ((d + 1 : Nat) : Int) (bx q (J + 1 : Nat) (intsV ss) rs) fun l μ => sub (c+1) ((d + 1 : Nat) : Int) μ fun r μ => .ret (.tup [str "join", l, r]) μ) = .ret t (bx a' J' (intsV ss) rs) :=
      p2 (.join T1 T2) (by rw [e1, e2])
    have bin : ∃ (t : V) (a' J' : Nat), Tree (d+1) t ∧ a' < 10 ^ 9 ∧ J' + 1 ≤ J + 2 ^ (d + 1 + 1) ∧ (pick (bx q (J + 1 : Nat) (intsV ss) rs) ops2 ((r : Int).fmod 7) fun op => sub (c+1) ((d + 1 : Nat) : Int) (bx q (J + 1 : Nat) (intsV ss) rs) fun l μ => sub (c+1) ((d + 1 : Nat) : Int) μ fun r μ => .ret (.tup [str "binary", op, l, r]) μ) = .ret t (bx a' J' (intsV ss) rs) := by
      rw [show (7 : Int) = ((7 : Nat) : Int) from rfl, em]
      refine eEA (pick_of (μ := bx q (J + 1 : Nat) (intsV ss) rs) ops2 (r % 7) (fun op => sub (c+1) ((d + 1 : Nat) : Int) (bx q (J + 1 : Nat) (intsV ss) rs) fun l μ => sub (c+1) ((d + 1 : Nat) : Int) μ fun r μ => .ret (.tup [str "binary", op, l, r]) μ) (show _ < 7 from Nat.mod_lt _ (by lia)) (by decide)) fun op ho p => ?_
      rw [p, e1, e2]
      have : ∃ o, op = str o ∧ Op2 o := by
        simp only [ops2, List.mem_cons, List.not_mem_nil, or_false] at ho
        rcases ho with rfl | rfl | rfl | rfl | rfl | rfl | rfl
        · exact ⟨_, rfl, .plus⟩
        · exact ⟨_, rfl, .minus⟩
        · exact ⟨_, rfl, .times⟩
        · exact ⟨_, rfl, .div⟩
        · exact ⟨_, rfl, .pow⟩
        · exact ⟨_, rfl, .or⟩
        · exact ⟨_, rfl, .hash⟩
      refine eEA (this) fun o ee1 O => ?_
      try clear this
      subst ee1
      exact p2 (.bin O T1 T2) rfl
    have goal : ∃ (t : V) (a' J' : Nat), Tree (d+1) t ∧ a' < 10 ^ 9 ∧ J' + 1 ≤ J + 2 ^ (d + 1 + 1) ∧ (pick (bx q (J + 1 : Nat) (intsV ss) rs) goals ((r : Int).fmod 4) fun g => pick (bx q (J + 1 : Nat) (intsV ss) rs) [str ".", str "$"] ((r : Int).fmod 2) fun op => sub (c+1) ((d + 1 : Nat) : Int) (bx q (J + 1 : Nat) (intsV ss) rs) fun l μ => .ret (.tup [str "binary", op, l, g]) μ) = .ret t (bx a' J' (intsV ss) rs) := by
      rw [show (4 : Int) = ((4 : Nat) : Int) from rfl, show (2 : Int) = ((2 : Nat) : Int) from rfl, em, em]
      refine eEA (pick_of (μ := bx q (J + 1 : Nat) (intsV ss) rs) goals (r % 4) (fun g => pick (bx q (J + 1 : Nat) (intsV ss) rs) [str ".", str "$"] ((r % 2 : Nat) : Int) fun op => sub (c+1) ((d + 1 : Nat) : Int) (bx q (J + 1 : Nat) (intsV ss) rs) fun l μ => .ret (.tup [str "binary", op, l, g]) μ) (show _ < 4 from Nat.mod_lt _ (by lia)) (by decide)) fun g hg p => ?_
      refine eEA (pick_of (μ := bx q (J + 1 : Nat) (intsV ss) rs) [str ".", str "$"] (r % 2) (fun op => sub (c+1) ((d + 1 : Nat) : Int) (bx q (J + 1 : Nat) (intsV ss) rs) fun l μ => .ret (.tup [str "binary", op, l, g]) μ) (show _ < 2 from Nat.mod_lt _ (by lia)) (by decide)) fun op ho p' => ?_
      rw [p, p', e1]
      simp only [List.mem_cons, List.not_mem_nil, or_false] at ho
      rcases ho with rfl | rfl
      · exact p1 (.dot T1 hg) rfl
      · exact p1 (.now T1 hg) rfl
    have una : ∃ (t : V) (a' J' : Nat), Tree (d+1) t ∧ a' < 10 ^ 9 ∧ J' + 1 ≤ J + 2 ^ (d + 1 + 1) ∧ (pick (bx q (J + 1 : Nat) (intsV ss) rs) ops1 ((r : Int).fmod 6) fun op => sub (c+1) ((d + 1 : Nat) : Int) (bx q (J + 1 : Nat) (intsV ss) rs) fun t μ => .ret (.tup [str "unary", op, t]) μ) = .ret t (bx a' J' (intsV ss) rs) := by
      rw [show (6 : Int) = ((6 : Nat) : Int) from rfl, em]
      refine eEA (pick_of (μ := bx q (J + 1 : Nat) (intsV ss) rs) ops1 (r % 6) (fun op => sub (c+1) ((d + 1 : Nat) : Int) (bx q (J + 1 : Nat) (intsV ss) rs) fun t μ => .ret (.tup [str "unary", op, t]) μ) (show _ < 6 from Nat.mod_lt _ (by lia)) (by decide)) fun op ho p => ?_
      rw [p, e1]
      simp only [ops1, List.mem_cons, List.not_mem_nil, or_false] at ho
      rcases ho with rfl | rfl | rfl | rfl | rfl | rfl
      · exact p1 (.plus T1) rfl
      · exact p1 (.minus T1) rfl
      · exact p1 (.q T1) rfl
      · exact p1 (.tilde T1) rfl
      · exact p1 (.star T1) rfl
      · exact p1 (.dollar T1) rfl
    have ref : ∃ (t : V) (a' J' : Nat), Tree (d+1) t ∧ a' < 10 ^ 9 ∧ J' + 1 ≤ J + 2 ^ (d + 1 + 1) ∧ (pick (bx q (J + 1 : Nat) (intsV ss) rs) [str ".", str "@"] ((r : Int).fmod 2) fun op => pick (bx q (J + 1 : Nat) (intsV ss) rs) refs (((r : Int).fdiv 2).fmod 3) fun t => .ret (.tup [str "unary", op, t]) (bx q (J + 1 : Nat) (intsV ss) rs)) = .ret t (bx a' J' (intsV ss) rs) := by
      rw [show (2 : Int) = ((2 : Nat) : Int) from rfl, em, ← Int.ofNat_fdiv, show (3 : Int) = ((3 : Nat) : Int) from rfl, ← Int.ofNat_fmod]
      refine eEA (pick_of (μ := bx q (J + 1 : Nat) (intsV ss) rs) [str ".", str "@"] (r % 2) (fun op => pick (bx q (J + 1 : Nat) (intsV ss) rs) refs ((r / 2 % 3 : Nat) : Int) fun t => .ret (.tup [str "unary", op, t]) (bx q (J + 1 : Nat) (intsV ss) rs)) (show _ < 2 from Nat.mod_lt _ (by lia)) (by decide)) fun op ho p => ?_
      refine eEA (pick_of (μ := bx q (J + 1 : Nat) (intsV ss) rs) refs (r / 2 % 3) (fun t => .ret (.tup [str "unary", op, t]) (bx q (J + 1 : Nat) (intsV ss) rs)) (show _ < 3 from Nat.mod_lt _ (by lia)) (by decide)) fun t ht p' => ?_
      rw [p, p']
      simp only [List.mem_cons, List.not_mem_nil, or_false] at ho
      rcases ho with rfl | rfl
      · exact p0 (.rdot ht) rfl
      · exact p0 (.rat ht) rfl
    have call : ∃ (t : V) (a' J' : Nat), Tree (d+1) t ∧ a' < 10 ^ 9 ∧ J' + 1 ≤ J + 2 ^ (d + 1 + 1) ∧ tCall (c+1) ((d + 1 : Nat) : Int) (r : Int) (bx q (J + 1 : Nat) (intsV ss) rs) = .ret t (bx a' J' (intsV ss) rs) := by
      unfold tCall
      rw [show (3 : Int) = ((3 : Nat) : Int) from rfl, em, ← Int.ofNat_fdiv, show (4 : Int) = ((4 : Nat) : Int) from rfl, ← Int.ofNat_fmod]
      have hn : ∀ μ k, ∃ o, Fn4 o ∧ pick μ fns ((r / 3 % 4 : Nat) : Int) k = k (str o) := fun μ k => by
        refine eEA (pick_of (μ := μ) fns (r / 3 % 4) k (show _ < 4 from Nat.mod_lt _ (by lia)) (by decide)) fun f hf p => ?_
        simp only [fns, List.mem_cons, List.not_mem_nil, or_false] at hf
        rcases hf with rfl | rfl | rfl | rfl
        · exact ⟨_, .F, p⟩
        · exact ⟨_, .G, p⟩
        · exact ⟨_, .H, p⟩
        · exact ⟨_, .NOPE, p⟩
      have h3 : r % 3 < 3 := Nat.mod_lt _ (by lia)
      generalize r % 3 = m at h3
      rcases m with _ | _ | _ | m
      · refine eEA (hn (bx q (J + 1 : Nat) (intsV ss) rs) (fun nm => typV "tuple" [.list []] (bx q (J + 1 : Nat) (intsV ss) rs) fun tp μ => .ret (.tup [str "call", nm, tp]) μ)) fun o O e => ?_
        exact p0 (.call0 O) e
      · refine eEA (hn (bx a1 J1 (intsV ss) rs) (fun nm => typV "tuple" [.list [t1]] (bx a1 J1 (intsV ss) rs) fun tp μ => .ret (.tup [str "call", nm, tp]) μ)) fun o O e => ?_
        refine p1 (.call1 O T1) (Eq.trans ?_ e)
        show (match sub (c+1) ((d + 1 : Nat) : Int) (bx q (J + 1 : Nat) (intsV ss) rs) Res.ret with | .ret d μ => evEach _ [] μ _ | _ => .stuck) = _
        rw [e1]
        rfl
      · refine eEA (hn (bx a2 J2 (intsV ss) rs) (fun nm => typV "tuple" [.list [t1, t2]] (bx a2 J2 (intsV ss) rs) fun tp μ => .ret (.tup [str "call", nm, tp]) μ)) fun o O e => ?_
        refine p2 (.call2 O T1 T2) (Eq.trans ?_ e)
        show (match sub (c+1) ((d + 1 : Nat) : Int) (bx q (J + 1 : Nat) (intsV ss) rs) Res.ret with | .ret d μ => evEach _ [toI 1] μ _ | _ => .stuck) = _
        rw [e1]
        show (match sub (c+1) ((d + 1 : Nat) : Int) (bx a1 J1 (intsV ss) rs) Res.ret with | .ret d μ => evEach _ [] μ _ | _ => .stuck) = _
        rw [e2]
        rfl
      · lia
    have lt2 : ∀ (f : Nat) μ, cmpV .Lt (.int ((f : Nat) : Int)) (.int 2) μ = some (decide (((f : Nat) : Int) < 2)) := fun f μ => rfl
    rw [lt2]
    rcases f with _ | _ | _ | _ | _ | _ | _ | _ | _ | _ | _ | f
    · exact leaf
    · exact leaf
    · exact (t_2 ..).symm ▸ join
    · exact (t_3 ..).symm ▸ join
    · exact (t_4b ..).symm ▸ bin
    · exact (t_5 ..).symm ▸ bin
    · exact (t_6 ..).symm ▸ goal
    · exact (t_7 ..).symm ▸ una
    · exact (t_8 ..).symm ▸ ref
    · exact (t_9 ..).symm ▸ call
    · exact (t_10 ..).symm ▸ call
    · lia
end Mine

end

section
namespace Mine
open PySem
section
variable (c : Nat) (s m t : V) (b : List V) (l : List V) (μ : Mu) (script : List Int)
noncomputable def hdk (c j : Nat) (ρ : Rho) (μ : Mu) (kk : Rho → Mu → Res) : Res := evS (60 - j) (lawCx c (fB 64).kinds) ρ (((fB 64).body.take 4).drop j) μ (hooksDen kk)
noncomputable def hd (c j : Nat) (ρ : Rho) (μ : Mu) : Res := hdk c j ρ μ fun ρ μ => lcut c 5 ρ μ
theorem h_2k (kk : Rho → Mu → Res) : hdk c 2 [vS "script" s, vS "some" m, vS "tree" t, vS "log" (.cell 1)] [b, []] kk = kk (rL s m t) [b, [], []] := by kernel_rfl!
theorem h_2 : hd c 2 [vS "script" s, vS "some" m, vS "tree" t, vS "log" (.cell 1)] [b, []] = lcut c 5 (rL s m t) [b, [], []] := h_2k c s m t b fun ρ μ => lcut c 5 ρ μ
noncomputable abbrev k1k (c : Nat) (kk : Rho → Mu → Res) (ρ : Rho) (p : V) (μ : Mu) : Res := match p with
  | .tup vs => (match bindAll (lawCx c (fB 64).kinds) vs (asgT (stAt (fB 64).body 1)) ρ with | some ρ => kk ρ μ | none => .stuck)
  | _ => .stuck
noncomputable abbrev k1 (c : Nat) (ρ : Rho) (p : V) (μ : Mu) : Res := k1k c (hd c 2) ρ p μ
noncomputable def hd1 (c : Nat) (ρ : Rho) (μ : Mu) (kk : Rho → Mu → Res) : Res := evS 59 (lawCx c (fB 64).kinds) ρ (((fB 64).body.take 2).drop 1) μ kk
theorem h_1k (kk : Rho → Mu → Res) : hd1 c [vS "script" s, vS "some" m] μ kk = orR (itemV μ m (.int 0)) fun x0 => bltV "len" [m] μ fun n μ => orR (binV .Mod (.int 1) n) fun j => orR (itemV μ m j) fun y => orR (binV .Mod y (.int 97)) fun y => orR (binV .Mult (.int 1009) y) fun y => orR (binV .Add x0 y) fun x =>
   bindR (Phi c 50 [.cell μ.length, .int 3] (μ ++ [[x, m, .int 0]])) fun t μ => k1k c kk [vS "script" s, vS "some" m] (.tup [t, .cell μ.length]) (μ ++ [[]]) := by kernel_rfl!
theorem h_1s (ρ : Rho) : hd c 1 ρ μ = hd1 c ρ μ (fun ρ μ => evS 58 (lawCx c (fB 64).kinds) ρ (((fB 64).body.take 4).drop 2) μ (hooksDen fun ρ μ => lcut c 5 ρ μ)) := by kernel_rfl!
theorem h_1 : hd c 1 [vS "script" s, vS "some" m] μ = orR (itemV μ m (.int 0)) fun x0 => bltV "len" [m] μ fun n μ => orR (binV .Mod (.int 1) n) fun j => orR (itemV μ m j) fun y => orR (binV .Mod y (.int 97)) fun y => orR (binV .Mult (.int 1009) y) fun y => orR (binV .Add x0 y) fun x =>
   bindR (Phi c 50 [.cell μ.length, .int 3] (μ ++ [[x, m, .int 0]])) fun t μ => k1 c [vS "script" s, vS "some" m] (.tup [t, .cell μ.length]) (μ ++ [[]]) := (h_1s ..).trans (h_1k c s m μ (hd c 2))
theorem h_1' (x y : V) : k1 c [vS "script" s, vS "some" m] (.tup [x, y]) μ = hd c 2 [vS "script" s, vS "some" m, vS "tree" x, vS "log" y] μ := by kernel_rfl!
noncomputable abbrev fE (d : V) (μ : Mu) : Res := bltV "abs" [d] μ fun a μ => orR (binV .Mod a (.int 99991)) fun z => .ret z μ
theorem h_0 : hd c 0 [vS "script" (.list l)] μ = orR (cutV (.list l) none (some 12)) fun sl => (match items sl with
  | some L => (match fitL L with
    | false => .stuck
    | true => evEach fE L μ fun ds μ => bltV "len" [.list l] μ fun n μ => orR (binV .Add n (.int 24)) fun k => orR (binV .Add (.list ds) (.list [k])) fun m => hd c 1 [vS "script" (.list l), vS "some" m] μ)
  | none => .stuck) := by kernel_rfl!
theorem h_in : lawDen c script = hd c 0 [vS "script" (.list (script.map .int))] [] := by kernel_rfl!
end
theorem each_is (k : List V → Mu → Res) : ∀ (l : List Int) (μ : Mu), evEach fE (l.map V.int) μ k = k (intsV (l.map fun i => i.natAbs % 99991)) μ
  | [], _ => rfl
  | i :: l, μ => by
    have e : fE (.int i) μ = .ret (.int ((i.natAbs % 99991 : Nat) : Int)) μ := by
      have e0 : fE (.int i) μ = orR (binV .Mod (.int (Int.ofNat i.natAbs)) (.int 99991)) fun z => .ret z μ := by kernel_rfl!
      rw [e0, show Int.ofNat i.natAbs = (i.natAbs : Int) from rfl, show (99991 : Int) = ((99991 : Nat) : Int) from rfl, modV _ _ (by decide), ← Int.ofNat_fmod, orR_s]
    rw [show evEach fE ((i :: l).map V.int) μ k = (match fE (.int i) μ with | .ret d μ => evEach fE (l.map V.int) μ (fun ds μ => k (d :: ds) μ) | _ => .stuck) from rfl, e]
    show evEach fE (l.map V.int) μ (fun ds μ => k (V.int ((i.natAbs % 99991 : Nat) : Int) :: ds) μ) = _
    rw [each_is _ l μ]
    rfl
theorem plain_law (script : List Int) (hl : script.length ≤ 63) : ∃ μ, lawDen 61 script = .ret (.bool true) μ := by
  have sl : (script.map V.int).length = script.length := List.length_map ..
  have tl : ((script.take 12).map V.int).length ≤ 12 := by rw [List.length_map, List.length_take]; omega
  have fit : ∀ {l : List V}, l.length ≤ 1000 → fitL l = true := fun h => Nat.ble_eq_true_of_le (by omega)
  have e0 : cutV (.list (script.map .int)) none (some 12) = some (.list ((script.take 12).map .int)) := by
    show (match fitL (script.map V.int) with | true => some (V.list ((script.map V.int).take 12)) | false => none) = _
    rw [fit (by omega), List.map_take]
  -- the list `some`
  obtain ⟨ss, hss⟩ : ∃ ss, ss = ((script.take 12).map fun i => i.natAbs % 99991) ++ [script.length + 24] := ⟨_, rfl⟩
  have h0 : 0 < ss.length := by rw [hss, List.length_append]; exact Nat.lt_of_lt_of_le (Nat.succ_pos 0) (Nat.le_add_left ..)
  have h13 : ss.length ≤ 13 := by
    rw [hss, List.length_append, List.length_map, List.length_take]
    show _ + 1 ≤ 13
    omega
  have hb : ∀ x ∈ ss, x < 100000 := by
    intro x hx
    rw [hss, List.mem_append, List.mem_map, List.mem_singleton] at hx
    rcases hx with ⟨i, _, rfl⟩ | rfl
    · have := Nat.mod_lt i.natAbs (show 0 < 99991 by omega); omega
    · omega
  have e1 : lawDen 61 script = hd 61 1 [vS "script" (.list (script.map .int)), vS "some" (.list (intsV ss))] [] := by
    rw [h_in, h_0, e0, orR_s]
    show (match fitL ((script.take 12).map V.int) with | false => Res.stuck | true => evEach fE ((script.take 12).map V.int) [] _) = _
    rw [fit (by omega)]
    show evEach fE ((script.take 12).map V.int) [] _ = _
    rw [each_is]
    show (match fitL (script.map V.int) with | true => _ | false => Res.stuck) = _
    rw [fit (by omega)]
    show orR (binV .Add (toI (script.map V.int).length) (.int 24)) _ = _
    rw [sl]
    show orR (binV .Add (.list (intsV ((script.take 12).map fun (i : Int) => i.natAbs % 99991))) (.list [.int ((script.length : Int) + 24)])) _ = _
    have e2 : binV .Add (.list (intsV ((script.take 12).map fun (i : Int) => i.natAbs % 99991))) (.list [.int ((script.length : Int) + 24)]) = some (.list (intsV ss)) := by
      show (match Nat.ble ((intsV ((script.take 12).map fun (i : Int) => i.natAbs % 99991)).length + 1) 100000 with | true => some (V.list (intsV ((script.take 12).map fun (i : Int) => i.natAbs % 99991) ++ [V.int ((script.length : Int) + 24)])) | false => none) = _
      have : Nat.ble ((intsV ((script.take 12).map fun (i : Int) => i.natAbs % 99991)).length + 1) 100000 = true := Nat.ble_eq_true_of_le (by rw [List.length_map, List.length_map, List.length_take]; omega)
      rw [this, hss]
      unfold intsV
      rw [List.map_append]
      rfl
    rw [e2]
  rw [e1]
  have hn : (intsV ss).length = ss.length := List.length_map ..
  have g0 : itemV [] (.list (intsV ss)) (.int 0) = some (.int (ss[0] : Int)) := by
    show (intsV ss)[0]? = _
    rw [List.getElem?_map, List.getElem?_eq_getElem h0]
    rfl
  have hj : 1 % ss.length < ss.length := Nat.mod_lt _ h0
  have g1 : ∀ k : V → Res, orR (itemV [] (.list (intsV ss)) (.int ((1 % ss.length : Nat) : Int))) k = k (.int (ss[1 % ss.length] : Int)) := fun k => by
    refine pick_is k ?_ (by omega)
    rw [List.getElem?_map, List.getElem?_eq_getElem hj]
    rfl
  have g2 : ∀ k, bltV "len" [.list (intsV ss)] [] k = k (.int (ss.length : Int)) [] := fun k => by
    show (match fitL (intsV ss) with | true => k (toI (intsV ss).length) [] | false => .stuck) = _
    rw [fit (by omega), hn]
    rfl
  have b0 := hb _ (List.getElem_mem h0)
  have b1 := hb _ (List.getElem_mem hj)
  have m97 : ss[1 % ss.length] % 97 < 97 := Nat.mod_lt _ (by omega)
  obtain ⟨t, a', J', T, u9, u9, ed⟩ := draw h0 h13 3 61 (ss[0] + 1009 * (ss[1 % ss.length] % 97)) 0 [] (by decide) (by omega) (by decide)
  obtain ⟨⟨tl', rfl⟩, u9⟩ := shw_tree T
  have m1 : binV .Mod (.int 1) (.int (ss.length : Int)) = some (.int ((1 % ss.length : Nat) : Int)) := by
    rw [modV _ _ h0, show (1 : Int) = ((1 : Nat) : Int) from rfl, ← Int.ofNat_fmod]
  have m2 : binV .Mod (.int (ss[1 % ss.length] : Int)) (.int 97) = some (.int ((ss[1 % ss.length] % 97 : Nat) : Int)) := by
    rw [show (97 : Int) = ((97 : Nat) : Int) from rfl, modV _ _ (by decide), ← Int.ofNat_fmod]
  have m3 : binV .Mult (.int 1009) (.int ((ss[1 % ss.length] % 97 : Nat) : Int)) = some (.int (1009 * ((ss[1 % ss.length] % 97 : Nat) : Int))) := mulV _ _ (by decide) (by omega)
  have m4 : binV .Add (.int (ss[0] : Int)) (.int (1009 * ((ss[1 % ss.length] % 97 : Nat) : Int))) = some (.int ((ss[0] + 1009 * (ss[1 % ss.length] % 97) : Nat) : Int)) := by
    show some (V.int _) = some (V.int _)
    congr 2
  obtain ⟨μ, hμ⟩ := law_end (.list (script.map .int)) (.list (intsV ss)) tl' [.int a', .list (intsV ss), .int J'] 61 (by decide) (sim_tree T (by decide))
  refine ⟨μ, ?_⟩
  rw [h_1, g0, orR_s, g2, m1, orR_s, g1, m2, orR_s, m3, orR_s, m4, orR_s]
  show bindR (Phi 61 50 [.cell 0, .int ((3 : Nat) : Int)] (bx ((ss[0] + 1009 * (ss[1 % ss.length] % 97) : Nat) : Int) ((0 : Nat) : Int) (intsV ss) [])) _ = _
  rw [ed, bR]
  show k1 61 _ (.tup [.tup tl', .cell 1]) [[.int a', .list (intsV ss), .int J'], []] = _
  rw [h_1', h_2, hμ]
end Mine

end

theorem PySem.Challenge.cw_nz0410_01_holds : PySem.Challenge.rw_nz0410_01.Holds :=
  Mine.top Mine.plain_law
