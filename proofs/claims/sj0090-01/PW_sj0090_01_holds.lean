import PyProof.Rows.All
import Wide.All
import OpenK.AllK
import Wide.FinOn
import PySem.Challenge.RW_sj0090_01

set_option Elab.async false
set_option maxRecDepth 100000
section
open PySem PySem.W PyProof.Rows
set_option Elab.async false
set_option maxRecDepth 100000
set_option maxHeartbeats 0
namespace Mine
open_top hd for PySem.Challenge.rw_sj0090_01
end Mine
end
section
set_option maxRecDepth 10000
namespace Mine
open PySem

inductive V where
  | none
  | bool (b : Bool)
  | int (i : Int)
  | ref (a : Addr)
  | oth (v : Value)

def abst : Value → V
  | .none => .none
  | .bool b => .bool b
  | .int i _ => .int i
  | .ref a => .ref a
  | v => .oth v

inductive AObj where
  | list (vs : List V)
  | tup (vs : List V)
  | inst (dx : Addr)
  | dict (vs : List V)

abbrev AHeap := Addr → Option AObj
abbrev Loc := List (Option V)

abbrev Ext (σ σ' : AHeap) : Prop := ∀ a o, σ a = some o → σ' a = some o
abbrev ExtBut (x : Addr) (σ σ' : AHeap) : Prop := ∀ a o, a ≠ x → σ a = some o → σ' a = some o

inductive Bif where
  | len | abs | int | min | max | sum
  deriving DecidableEq

mutual
inductive Ex where
  | loc (i : Nat) (p : Pos)
  | glo (x : Str) (v : V) (p : Pos)
  | num (n : Int) (p : Pos)
  | boo (b : Bool) (p : Pos)
  | bin (o : Operator) (l r : Ex) (p : Pos)
  | neg (e : Ex) (p : Pos)
  | not (e : Ex) (p : Pos)
  | conj (l r : Ex) (p : Pos)
  | cmp (o : CmpOp) (l r : Ex) (p : Pos)
  | ite (c : Tst) (a b : Ex) (p : Pos)
  | attr (e : Ex) (k : Nat) (p : Pos)
  | idx (e i : Ex) (p : Pos)
  | slAll (e : Ex) (q p : Pos)
  | slTo (e h : Ex) (q p : Pos)
  | slFrom (e l : Ex) (q p : Pos)
  | slBoth (e l h : Ex) (q p : Pos)
  | tup (es : Exs) (p : Pos)
  | lst (es : Exs) (p : Pos)
  | call (f : Ex) (as : Exs) (p : Pos)
  | meth (e : Ex) (x : Str) (f : Addr) (as : Exs) (q p : Pos)
  | app (e a : Ex) (q p : Pos)
  | bitl (e : Ex) (q p : Pos)
  | bif (b : Bif) (as : Exs) (q p : Pos)
  | comp (el : Ex) (tg : Tg) (s : Src) (sc : Scope) (cn : List Str) (cap : List (Option Nat)) (p : Pos)
  | compIf (el : Ex) (tg : Tg) (s : Src) (c : Tst) (sc : Scope) (cn : List Str) (cap : List (Option Nat)) (p : Pos)
inductive Exs where
  | nil
  | cons (e : Ex) (r : Exs)
inductive Tst where
  | cmp (o : CmpOp) (l r : Ex) (p : Pos)
  | conj (l r : Tst) (p : Pos)
  | disj (l r : Tst) (p : Pos)
  | not (c : Tst) (p : Pos)
  | val (e : Ex)
inductive Src where
  | range1 (e : Ex) (q p : Pos)
  | range2 (a b : Ex) (q p : Pos)
  | range3 (a b c : Ex) (q p : Pos)
  | lst (e : Ex)
  | enum (e : Ex) (q p : Pos)
  | zip (a b : Ex) (q p : Pos)
inductive Tg where
  | one (i : Nat) (p : Pos)
  | two (i : Nat) (pi : Pos) (j : Nat) (pj : Pos) (p : Pos)
end

inductive At where
  | loc (i : Nat) (p : Pos)
  | attr (e : Ex) (k : Nat) (p : Pos)
  | idx (e i : Ex) (p : Pos)
  | two (i : Nat) (pi : Pos) (j : Nat) (pj : Pos) (p : Pos)

mutual
inductive St where
  | asg (t : At) (e : Ex) (p : Pos)
  | asgs (ts : List At) (es : Exs) (tp ep p : Pos)
  | unp (ts : List At) (e : Ex) (tp p : Pos)
  | aug (i : Nat) (q : Pos) (o : Operator) (e : Ex) (p : Pos)
  | expr (e : Ex) (p : Pos)
  | cond (c : Tst) (a b : Sts) (p : Pos)
  | whil (c : Tst) (b : Sts) (p : Pos)
  | forr (t : Tg) (s : Src) (b : Sts) (p : Pos)
  | ret (e : Ex) (p : Pos)
  | ret0 (p : Pos)
  | dead (s : PySem.Stmt)
inductive Sts where
  | nil
  | cons (s : St) (r : Sts)
end

def fieldNames : List Str := ["rows", "top", "bottom", "w", "mul", "divrem", "sizes", "parts"]

def Bif.name : Bif → Str
  | .len => "len" | .abs => "abs" | .int => "int" | .min => "min" | .max => "max" | .sum => "sum"

def nmAt (nm : List Str) (i : Nat) : Str := nm.getD i (Str.ofString "")
def trTg (nm : List Str) : Tg → Expr
  | .one i p => .Name (nmAt nm i) p
  | .two i pi j pj p => .Tuple [.Name (nmAt nm i) pi, .Name (nmAt nm j) pj] 0 p

mutual
def trE (nm : List Str) : Ex → Expr
  | .loc i p => .Name (nmAt nm i) p
  | .glo x _ p => .Name x p
  | .num n p => .Constant (.int n) 0 p
  | .boo b p => .Constant (.bool b) 0 p
  | .bin o l r p => .BinOp (trE nm l) o (trE nm r) p
  | .neg e p => .UnaryOp .USub (trE nm e) p
  | .not e p => .UnaryOp .Not (trE nm e) p
  | .conj l r p => .BoolOp .And [trE nm l, trE nm r] p
  | .cmp o l r p => .Compare (trE nm l) [o] [trE nm r] p
  | .ite c a b p => .IfExp (trT nm c) (trE nm a) (trE nm b) p
  | .attr e k p => .Attribute (trE nm e) (nmAt fieldNames k) p
  | .idx e i p => .Subscript (trE nm e) (trE nm i) p
  | .slAll e q p => .Subscript (trE nm e) (.Slice none none none q) p
  | .slTo e h q p => .Subscript (trE nm e) (.Slice none (some (trE nm h)) none q) p
  | .slFrom e l q p => .Subscript (trE nm e) (.Slice (some (trE nm l)) none none q) p
  | .slBoth e l h q p => .Subscript (trE nm e) (.Slice (some (trE nm l)) (some (trE nm h)) none q) p
  | .tup es p => .Tuple (trEs nm es) 0 p
  | .lst es p => .List (trEs nm es) p
  | .call f as p => .Call (trE nm f) (trEs nm as) [] p
  | .meth e x _ as q p => .Call (.Attribute (trE nm e) x q) (trEs nm as) [] p
  | .app e a q p => .Call (.Attribute (trE nm e) "append" q) [trE nm a] [] p
  | .bitl e q p => .Call (.Attribute (trE nm e) "bit_length" q) [] [] p
  | .bif b as q p => .Call (.Name b.name q) (trEs nm as) [] p
  | .comp el tg s sc cn _ p => .ListComp (trE cn el) [⟨trTg cn tg, trSrc nm s, [], 0⟩] sc p
  | .compIf el tg s c sc cn _ p => .ListComp (trE cn el) [⟨trTg cn tg, trSrc nm s, [trT cn c], 0⟩] sc p
def trEs (nm : List Str) : Exs → List Expr
  | .nil => []
  | .cons e r => trE nm e :: trEs nm r
def trT (nm : List Str) : Tst → Expr
  | .cmp o l r p => .Compare (trE nm l) [o] [trE nm r] p
  | .conj l r p => .BoolOp .And [trT nm l, trT nm r] p
  | .disj l r p => .BoolOp .Or [trT nm l, trT nm r] p
  | .not c p => .UnaryOp .Not (trT nm c) p
  | .val e => trE nm e
def trSrc (nm : List Str) : Src → Expr
  | .range1 e q p => .Call (.Name "range" q) [trE nm e] [] p
  | .range2 a b q p => .Call (.Name "range" q) [trE nm a, trE nm b] [] p
  | .range3 a b c q p => .Call (.Name "range" q) [trE nm a, trE nm b, trE nm c] [] p
  | .lst e => trE nm e
  | .enum e q p => .Call (.Name "enumerate" q) [trE nm e] [] p
  | .zip a b q p => .Call (.Name "zip" q) [trE nm a, trE nm b] [] p
end

def trA (nm : List Str) : At → Expr
  | .loc i p => .Name (nmAt nm i) p
  | .attr e k p => .Attribute (trE nm e) (nmAt fieldNames k) p
  | .idx e i p => .Subscript (trE nm e) (trE nm i) p
  | .two i pi j pj p => .Tuple [.Name (nmAt nm i) pi, .Name (nmAt nm j) pj] 0 p

mutual
def trS (nm : List Str) : St → Stmt
  | .asg t e p => .Assign [trA nm t] (trE nm e) p
  | .asgs ts es tp ep p => .Assign [.Tuple (ts.map (trA nm)) 0 tp] (.Tuple (trEs nm es) 0 ep) p
  | .unp ts e tp p => .Assign [.Tuple (ts.map (trA nm)) 0 tp] (trE nm e) p
  | .aug i q o e p => .AugAssign (.Name (nmAt nm i) q) o (trE nm e) p
  | .expr e p => .Expr (trE nm e) p
  | .cond c a b p => .If (trT nm c) (trSs nm a) (trSs nm b) p
  | .whil c b p => .While (trT nm c) (trSs nm b) [] p
  | .forr t s b p => .For (trTg nm t) (trSrc nm s) (trSs nm b) [] p
  | .ret e p => .Return (some (trE nm e)) p
  | .ret0 p => .Return none p
  | .dead s => s
def trSs (nm : List Str) : Sts → List Stmt
  | .nil => []
  | .cons s r => trS nm s :: trSs nm r
end

abbrev LIM : Nat := 16777216

section
variable (B : Addr → Prop)
def allocW (o : AObj) (σ : AHeap) (Q : V → AHeap → Prop) : Prop :=
  ∀ r σ', B r → σ r = none → Ext σ σ' → σ' r = some o → Q (.ref r) σ'

abbrev bitsI (a : Int) : Nat := Builtin.Int.intBits a

def mulFits (a b : Int) : Prop := bitsI a ≤ 64 ∨ bitsI b ≤ 64 ∨ bitsI a + bitsI b ≤ 2 ^ 26

def binW (o : Operator) (a b : V) (σ : AHeap) (Q : V → AHeap → Prop) : Prop :=
  match o, a, b with
  | .Add, .int a, .int b => Q (.int (a + b)) σ
  | .Sub, .int a, .int b => Q (.int (a - b)) σ
  | .Mult, .int a, .int b => mulFits a b ∧ Q (.int (a * b)) σ
  | .FloorDiv, .int a, .int b => (b ≠ 0 ∧ b.natAbs < 1073741824) ∧ Q (.int (a.fdiv b)) σ
  | .Mod, .int a, .int b => b ≠ 0 ∧ Q (.int (a.fmod b)) σ
  | .LShift, .int a, .int n => (0 ≤ n ∧ (bitsI a : Int) + n ≤ 2 ^ 26) ∧ Q (.int (a * 2 ^ n.toNat)) σ
  | .RShift, .int a, .int n => 0 ≤ n ∧ Q (.int (a.fdiv (2 ^ n.toNat))) σ
  | .BitAnd, .int a, .int b => Q (.int (Builtin.bitAnd a b)) σ
  | .BitOr, .int a, .int b => Q (.int (Builtin.bitOr a b)) σ
  | .Pow, .int a, .int n => (0 ≤ n ∧ (bitsI a : Int) * n ≤ 2 ^ 26) ∧ Q (.int (a ^ n.toNat)) σ
  | .Add, .ref x, .ref y => ∃ xs ys, (σ x = some (.list xs) ∧ σ y = some (.list ys) ∧ xs.length + ys.length ≤ LIM) ∧ allocW B (.list (xs ++ ys)) σ Q
  | .Mult, .ref x, .int n => ∃ v, (σ x = some (.list [v]) ∧ 0 ≤ n ∧ n ≤ LIM) ∧ allocW B (.list (List.replicate n.toNat v)) σ Q
  | _, _, _ => False

def negW (a : V) (Q : V → Prop) : Prop := match a with
  | .int a => Q (.int (-a))
  | _ => False
def truthW (a : V) (Q : Bool → Prop) : Prop := match a with
  | .bool b => Q b
  | .int i => Q (i != 0)
  | _ => False

def TrIs (σ : AHeap) : Nat → V → PyData → Prop
  | _, .bool b, .bool c => b = c
  | _, .int i, .int j => i = j
  | n + 1, .ref a, .list ds => ∃ vs, σ a = some (.list vs) ∧ vs.length = ds.length ∧ ∀ (i : Nat) v d, vs[i]? = some v → ds[i]? = some d → TrIs σ n v d
  | n + 1, .ref a, .tuple ds => ∃ vs, σ a = some (.tup vs) ∧ vs.length = ds.length ∧ ∀ (i : Nat) v d, vs[i]? = some v → ds[i]? = some d → TrIs σ n v d
  | _, _, _ => False

def cmpW (o : CmpOp) (a b : V) (σ : AHeap) (Q : Bool → Prop) : Prop :=
  match o, a, b with
  | .Lt, .int a, .int b => Q (decide (a < b))
  | .LtE, .int a, .int b => Q (decide (a ≤ b))
  | .Gt, .int a, .int b => Q (decide (b < a))
  | .GtE, .int a, .int b => Q (decide (b ≤ a))
  | .Eq, .int a, .int b => Q (decide (a = b))
  | .NotEq, .int a, .int b => Q (decide (a ≠ b))
  | .Eq, .bool a, .bool b => Q (decide (a = b))
  | .NotEq, .bool a, .bool b => Q (decide (a ≠ b))
  | .NotEq, .ref x, .ref y => ∃ xs ys : List Int, (σ x = some (.list (xs.map .int)) ∧ σ y = some (.list (ys.map .int))) ∧ Q (decide (xs ≠ ys))
  | .Eq, .ref x, .ref y => ∃ t, (TrIs σ 6 (.ref x) t ∧ TrIs σ 6 (.ref y) t) ∧ Q true
  | _, _, _ => False

def seqIdx (n : Int) (len j : Nat) : Prop := n = (j : Int) ∨ n = (j : Int) - (len : Int)
def idxW (a b : V) (σ : AHeap) (Q : V → Prop) : Prop :=
  match a, b with
  | .ref x, .int n => ∃ xs j v, ((σ x = some (.list xs) ∨ σ x = some (.tup xs)) ∧ seqIdx n xs.length j ∧ xs[j]? = some v) ∧ Q v
  | _, _ => False

def cutLo (lo : Option Int) (n : Nat) : Nat := match lo with
  | none => 0
  | some i => if i < 0 then n - (-i).toNat else min i.toNat n
def cutHi (hi : Option Int) (n : Nat) : Nat := match hi with
  | none => n
  | some i => if i < 0 then n - (-i).toNat else min i.toNat n
def cut (xs : List V) (lo hi : Option Int) : List V := (xs.drop (cutLo lo xs.length)).take (cutHi hi xs.length - cutLo lo xs.length)
def slW (a : V) (lo hi : Option Int) (σ : AHeap) (Q : V → AHeap → Prop) : Prop :=
  match a with
  | .ref x => ∃ xs, σ x = some (.list xs) ∧ allocW B (.list (cut xs lo hi)) σ Q
  | _ => False
def intW (a : V) (Q : Int → Prop) : Prop := match a with
  | .int i => Q i
  | _ => False
def refW (a : V) (Q : Addr → Prop) : Prop := match a with
  | .ref i => Q i
  | _ => False

def plainV : V → Prop
  | .oth _ => False
  | _ => True
def attrW (a : V) (k : Nat) (σ : AHeap) (Q : V → Prop) : Prop :=
  match a with
  | .ref x => ∃ dx vs v, (σ x = some (.inst dx) ∧ σ dx = some (.dict vs) ∧ vs[k]? = some v ∧ plainV v) ∧ Q v
  | _ => False
def isInst (a : V) (σ : AHeap) : Prop :=
  match a with
  | .ref x => ∃ dx vs, σ x = some (.inst dx) ∧ σ dx = some (.dict vs)
  | _ => False
def isListV (a : V) (σ : AHeap) : Prop :=
  match a with
  | .ref x => ∃ xs, σ x = some (.list xs)
  | _ => False

def appW (l v : V) (σ : AHeap) (Q : V → AHeap → Prop) : Prop :=
  match l with
  | .ref x => ∃ xs, (B x ∧ σ x = some (.list xs) ∧ xs.length < LIM) ∧ ∀ σ', ExtBut x σ σ' → σ' x = some (.list (xs ++ [v])) → Q .none σ'
  | _ => False

def bifW (b : Bif) (vs : List V) (σ : AHeap) (Q : V → Prop) : Prop :=
  match b, vs with
  | .len, [.ref a] => ∃ xs, σ a = some (.list xs) ∧ Q (.int xs.length)
  | .abs, [.int n] => Q (.int n.natAbs)
  | .int, [.int n] => Q (.int n)
  | .min, [.int a, .int b] => Q (.int (min a b))
  | .max, [.int a, .int b] => Q (.int (max a b))
  | .sum, [.ref a] => ∃ ns : List Int, σ a = some (.list (ns.map .int)) ∧ Q (.int ns.sum)
  | _, _ => False

def capt (cap : List (Option Nat)) (ρ : Loc) : Loc := cap.map fun c => match c with
  | some j => ρ.getD j none
  | none => none
def setTg (t : Tg) (it : List V) (ρ : Loc) : Loc :=
  match t, it with
  | .one i _, [v] => ρ.set i (some v)
  | .two i _ j _ _, [v, u] => (ρ.set i (some v)).set j (some u)
  | _, _ => ρ

def upTo (a b : Int) : List (List V) := (List.range (b - a).toNat).map fun (i : Nat) => [.int (a + i)]
def downTo (a b : Int) : List (List V) := (List.range (a - b).toNat).map fun (i : Nat) => [.int (a - i)]
def enumL (xs : List V) : List (List V) := xs.mapIdx fun i x => [.int i, x]
def zipL (xs ys : List V) : List (List V) := List.zipWith (fun x y => [x, y]) xs ys
def small (n : Int) : Prop := -(2 ^ 30) ≤ n ∧ n ≤ 2 ^ 30

variable (C : V → List V → AHeap → (V → AHeap → Prop) → Prop)

mutual
def wpE : Ex → Loc → AHeap → (V → AHeap → Prop) → Prop
  | .loc i _ => fun ρ σ Q => match ρ.getD i none with | some v => Q v σ | none => False
  | .glo _ v _ => fun _ σ Q => Q v σ
  | .num n _ => fun _ σ Q => Q (.int n) σ
  | .boo b _ => fun _ σ Q => Q (.bool b) σ
  | .bin o l r _ => fun ρ σ Q => wpE l ρ σ fun a σ => wpE r ρ σ fun b σ => binW B o a b σ Q
  | .neg e _ => fun ρ σ Q => wpE e ρ σ fun a σ => negW a fun v => Q v σ
  | .not e _ => fun ρ σ Q => wpE e ρ σ fun a σ => truthW a fun t => Q (.bool (!t)) σ
  | .conj l r _ => fun ρ σ Q => wpE l ρ σ fun a σ => truthW a fun t => (t = true → wpE r ρ σ Q) ∧ (t = false → Q a σ)
  | .cmp o l r _ => fun ρ σ Q => wpE l ρ σ fun a σ => wpE r ρ σ fun b σ => cmpW o a b σ fun t => Q (.bool t) σ
  | .ite c a b _ => fun ρ σ Q => wpT c ρ σ fun t σ => (t = true → wpE a ρ σ Q) ∧ (t = false → wpE b ρ σ Q)
  | .attr e k _ => fun ρ σ Q => wpE e ρ σ fun a σ => attrW a k σ fun v => Q v σ
  | .idx e i _ => fun ρ σ Q => wpE e ρ σ fun a σ => wpE i ρ σ fun b σ => idxW a b σ fun v => Q v σ
  | .slAll e _ _ => fun ρ σ Q => wpE e ρ σ fun a σ => slW B a none none σ Q
  | .slTo e h _ _ => fun ρ σ Q => wpE e ρ σ fun a σ => wpE h ρ σ fun b σ => intW b fun j => slW B a none (some j) σ Q
  | .slFrom e l _ _ => fun ρ σ Q => wpE e ρ σ fun a σ => wpE l ρ σ fun b σ => intW b fun i => slW B a (some i) none σ Q
  | .slBoth e l h _ _ => fun ρ σ Q => wpE e ρ σ fun a σ => wpE l ρ σ fun b σ => intW b fun i => wpE h ρ σ fun c σ => intW c fun j => slW B a (some i) (some j) σ Q
  | .tup es _ => fun ρ σ Q => wpEs es ρ σ fun vs σ => allocW B (.tup vs) σ Q
  | .lst es _ => fun ρ σ Q => wpEs es ρ σ fun vs σ => allocW B (.list vs) σ Q
  | .call f as _ => fun ρ σ Q => wpE f ρ σ fun g σ => wpEs as ρ σ fun vs σ => C g vs σ Q
  | .meth e _ f as _ _ => fun ρ σ Q => wpE e ρ σ fun a σ => isInst a σ ∧ wpEs as ρ σ fun vs σ => C (.ref f) (a :: vs) σ Q
  | .app e a _ _ => fun ρ σ Q => wpE e ρ σ fun l σ => isListV l σ ∧ wpE a ρ σ fun v σ => appW B l v σ Q
  | .bitl e _ _ => fun ρ σ Q => wpE e ρ σ fun a σ => intW a fun n => Q (.int (bitsI n)) σ
  | .bif b as _ _ => fun ρ σ Q => wpEs as ρ σ fun vs σ => bifW b vs σ fun v => Q v σ
  | .comp el tg s _ _ cap _ => fun ρ σ Q => wpSrc s ρ σ fun items g σ => items.length ≤ LIM ∧ ∃ I : List V → AHeap → Prop, I [] σ ∧ (∀ acc σ, I acc σ → g σ) ∧
      (∀ acc σ it, I acc σ → items[acc.length]? = some it → wpE el (setTg tg it (capt cap ρ)) σ fun v σ' => I (acc ++ [v]) σ') ∧
      (∀ acc σ, I acc σ → acc.length = items.length → allocW B (.list acc) σ Q)
  | .compIf el tg s c _ _ cap _ => fun ρ σ Q => wpSrc s ρ σ fun items g σ => items.length ≤ LIM ∧ ∃ I : Nat → List V → AHeap → Prop, I 0 [] σ ∧ (∀ k acc σ, I k acc σ → g σ ∧ acc.length ≤ k) ∧
      (∀ k acc σ it, I k acc σ → items[k]? = some it → wpT c (setTg tg it (capt cap ρ)) σ fun t σ =>
        (t = true → wpE el (setTg tg it (capt cap ρ)) σ fun v σ' => I (k + 1) (acc ++ [v]) σ') ∧ (t = false → I (k + 1) acc σ)) ∧
      (∀ acc σ, I items.length acc σ → allocW B (.list acc) σ Q)
def wpEs : Exs → Loc → AHeap → (List V → AHeap → Prop) → Prop
  | .nil => fun _ σ Q => Q [] σ
  | .cons e r => fun ρ σ Q => wpE e ρ σ fun v σ => wpEs r ρ σ fun vs σ => Q (v :: vs) σ
def wpT : Tst → Loc → AHeap → (Bool → AHeap → Prop) → Prop
  | .cmp o l r _ => fun ρ σ Q => wpE l ρ σ fun a σ => wpE r ρ σ fun b σ => cmpW o a b σ fun t => Q t σ
  | .conj l r _ => fun ρ σ Q => wpT l ρ σ fun t σ => (t = true → wpT r ρ σ Q) ∧ (t = false → Q false σ)
  | .disj l r _ => fun ρ σ Q => wpT l ρ σ fun t σ => (t = true → Q true σ) ∧ (t = false → wpT r ρ σ Q)
  | .not c _ => fun ρ σ Q => wpT c ρ σ fun t σ => Q (!t) σ
  | .val e => fun ρ σ Q => wpE e ρ σ fun a σ => truthW a fun t => Q t σ
def wpSrc : Src → Loc → AHeap → (List (List V) → (AHeap → Prop) → AHeap → Prop) → Prop
  | .range1 e _ _ => fun ρ σ Q => wpE e ρ σ fun a σ => intW a fun n => small n ∧ Q (upTo 0 n) (fun _ => True) σ
  | .range2 a b _ _ => fun ρ σ Q => wpE a ρ σ fun a σ => intW a fun m => wpE b ρ σ fun b σ => intW b fun n => (small m ∧ small n) ∧ Q (upTo m n) (fun _ => True) σ
  | .range3 a b c _ _ => fun ρ σ Q => wpE a ρ σ fun a σ => intW a fun m => wpE b ρ σ fun b σ => intW b fun n => wpE c ρ σ fun c σ => intW c fun k =>
      (small m ∧ small n ∧ k = -1) ∧ Q (downTo m n) (fun _ => True) σ
  | .lst e => fun ρ σ Q => wpE e ρ σ fun a σ => refW a fun x => ∃ xs, σ x = some (.list xs) ∧ Q (xs.map fun v => [v]) (fun σ => σ x = some (.list xs)) σ
  | .enum e _ _ => fun ρ σ Q => wpE e ρ σ fun a σ => refW a fun x => ∃ xs, σ x = some (.list xs) ∧ Q (enumL xs) (fun σ => σ x = some (.list xs)) σ
  | .zip a b _ _ => fun ρ σ Q => wpE a ρ σ fun a σ => wpE b ρ σ fun b σ => refW a fun x => refW b fun y => ∃ xs ys, (σ x = some (.list xs) ∧ σ y = some (.list ys)) ∧
      Q (zipL xs ys) (fun σ => σ x = some (.list xs) ∧ σ y = some (.list ys)) σ
end

def storeIdxW (a b v : V) (σ : AHeap) (Q : AHeap → Prop) : Prop :=
  match a, b with
  | .ref x, .int n => ∃ xs j, (B x ∧ σ x = some (.list xs) ∧ n = (j : Nat) ∧ j < xs.length) ∧ ∀ σ', ExtBut x σ σ' → σ' x = some (.list (xs.set j v)) → Q σ'
  | _, _ => False
def storeAttrW (a v : V) (k : Nat) (σ : AHeap) (Q : AHeap → Prop) : Prop :=
  match a with
  | .ref x => ∃ dx vs, (B dx ∧ σ x = some (.inst dx) ∧ σ dx = some (.dict vs) ∧ k ≤ vs.length) ∧ ∀ σ', ExtBut dx σ σ' → σ' dx = some (.dict (if k < vs.length then vs.set k v else vs ++ [v])) → Q σ'
  | _ => False

def wpA (t : At) (v : V) (ρ : Loc) (σ : AHeap) (Q : Loc → AHeap → Prop) : Prop :=
  match t with
  | .loc i _ => Q (ρ.set i (some v)) σ
  | .attr e k _ => wpE B C e ρ σ fun a σ => storeAttrW B a v k σ fun σ => Q ρ σ
  | .idx e i _ => wpE B C e ρ σ fun a σ => wpE B C i ρ σ fun b σ => storeIdxW B a b v σ fun σ => Q ρ σ
  | .two i _ j _ _ => refW v fun x => ∃ u w, σ x = some (.tup [u, w]) ∧ Q ((ρ.set i (some u)).set j (some w)) σ
def wpAs : List At → List V → Loc → AHeap → (Loc → AHeap → Prop) → Prop
  | [], [] => fun ρ σ Q => Q ρ σ
  | t :: ts, v :: vs => fun ρ σ Q => wpA B C t v ρ σ fun ρ σ => wpAs ts vs ρ σ Q
  | _, _ => fun _ _ _ => False

mutual
def wpS : St → Loc → AHeap → (Loc → AHeap → Prop) → (V → AHeap → Prop) → Prop
  | .asg t e _ => fun ρ σ N _ => wpE B C e ρ σ fun v σ => wpA B C t v ρ σ N
  | .asgs ts es _ _ _ => fun ρ σ N _ => wpEs B C es ρ σ fun vs σ => wpAs B C ts vs ρ σ N
  | .unp ts e _ _ => fun ρ σ N _ => wpE B C e ρ σ fun v σ => refW v fun x => ∃ vs, (σ x = some (.tup vs) ∧ vs.length = ts.length) ∧ wpAs B C ts vs ρ σ N
  | .aug i _ o e _ => fun ρ σ N _ => match ρ.getD i none with
      | some (.int a) => wpE B C e ρ σ fun b σ => binW B o (.int a) b σ fun v σ => N (ρ.set i (some v)) σ
      | _ => False
  | .expr e _ => fun ρ σ N _ => wpE B C e ρ σ fun v σ => v = .none ∧ N ρ σ
  | .cond c a b _ => fun ρ σ N R => wpT B C c ρ σ fun t σ => (t = true → wpSs a ρ σ N R) ∧ (t = false → wpSs b ρ σ N R)
  | .whil c b _ => fun ρ σ N R => ∃ (I : Nat → Loc → AHeap → Prop) (X : Loc → AHeap → Prop), (∃ n, I n ρ σ) ∧
      (∀ n ρ σ, I n ρ σ → wpT B C c ρ σ fun t σ => (t = true → wpSs b ρ σ (fun ρ σ => ∃ m, m < n ∧ I m ρ σ) R) ∧ (t = false → X ρ σ)) ∧ (∀ ρ σ, X ρ σ → N ρ σ)
  | .forr t s b _ => fun ρ σ N R => wpSrc B C s ρ σ fun items g σ => ∃ I : Nat → Loc → AHeap → Prop, I 0 ρ σ ∧ (∀ k ρ σ, I k ρ σ → g σ) ∧
      (∀ k ρ σ it, I k ρ σ → items[k]? = some it → wpSs b (setTg t it ρ) σ (fun ρ σ => I (k + 1) ρ σ) R) ∧ (∀ ρ σ, I items.length ρ σ → N ρ σ)
  | .ret e _ => fun ρ σ _ R => wpE B C e ρ σ R
  | .ret0 _ => fun _ σ _ R => R .none σ
  | .dead _ => fun _ _ _ _ => False
def wpSs : Sts → Loc → AHeap → (Loc → AHeap → Prop) → (V → AHeap → Prop) → Prop
  | .nil => fun ρ σ N _ => N ρ σ
  | .cons s r => fun ρ σ N R => wpS s ρ σ (fun ρ σ => wpSs r ρ σ N R) R
end
end

end Mine
end
section
set_option maxRecDepth 100000
namespace Mine
open PySem

def nm_normal : List Str := ["a", "end"]
def bd_normal : Sts :=
 (.cons (.asg (.loc 1 ⟨9, 4, 9, 7⟩) (.bif .len (.cons (.loc 0 ⟨9, 14, 9, 15⟩) .nil) ⟨9, 10, 9, 13⟩ ⟨9, 10, 9, 16⟩) ⟨9, 4, 9, 16⟩)
 (.cons (.whil (.conj (.cmp .Gt (.loc 1 ⟨10, 10, 10, 13⟩) (.num 0 ⟨10, 16, 10, 17⟩) ⟨10, 10, 10, 17⟩) (.cmp .Eq (.idx (.loc 0 ⟨10, 22, 10, 23⟩) (.bin .Sub (.loc 1 ⟨10, 24, 10, 27⟩) (.num 1 ⟨10, 30, 10, 31⟩) ⟨10, 24, 10, 31⟩) ⟨10, 22, 10, 32⟩) (.num 0 ⟨10, 36, 10, 37⟩) ⟨10, 22, 10, 37⟩) ⟨10, 10, 10, 37⟩)
  (.cons (.aug 1 ⟨11, 8, 11, 11⟩ .Sub (.num 1 ⟨11, 15, 11, 16⟩) ⟨11, 8, 11, 16⟩)
 .nil) ⟨10, 4, 11, 16⟩)
 (.cons (.ret (.slTo (.loc 0 ⟨12, 11, 12, 12⟩) (.loc 1 ⟨12, 14, 12, 17⟩) ⟨12, 13, 12, 17⟩ ⟨12, 11, 12, 18⟩) ⟨12, 4, 12, 18⟩)
 .nil)))

def nm_nat_of : List Str := ["number", "w", "found", "mask"]
def bd_nat_of : Sts :=
 (.cons (.cond (.cmp .Lt (.loc 0 ⟨14, 7, 14, 13⟩) (.num 0 ⟨14, 16, 14, 17⟩) ⟨14, 7, 14, 17⟩)
  (.cons (.dead (.Raise (some (.Call (.Name "OutOfRange" ⟨15, 14, 15, 24⟩) [.Constant (.str "below nought") 0 ⟨15, 25, 15, 39⟩] [] ⟨15, 14, 15, 40⟩)) none ⟨15, 8, 15, 40⟩))
 .nil)
  .nil ⟨14, 4, 15, 40⟩)
 (.cons (.asgs [(.loc 2 ⟨16, 4, 16, 9⟩), (.loc 3 ⟨16, 11, 16, 15⟩)] (.cons (.lst .nil ⟨16, 19, 16, 21⟩) (.cons (.bin .Sub (.bin .LShift (.num 1 ⟨16, 24, 16, 25⟩) (.loc 1 ⟨16, 29, 16, 30⟩) ⟨16, 24, 16, 30⟩) (.num 1 ⟨16, 34, 16, 35⟩) ⟨16, 23, 16, 35⟩) .nil)) ⟨16, 4, 16, 15⟩ ⟨16, 18, 16, 36⟩ ⟨16, 4, 16, 36⟩)
 (.cons (.whil (.cmp .Gt (.loc 0 ⟨17, 10, 17, 16⟩) (.num 0 ⟨17, 19, 17, 20⟩) ⟨17, 10, 17, 20⟩)
  (.cons (.expr (.app (.loc 2 ⟨18, 8, 18, 13⟩) (.bin .BitAnd (.loc 0 ⟨18, 21, 18, 27⟩) (.loc 3 ⟨18, 30, 18, 34⟩) ⟨18, 21, 18, 34⟩) ⟨18, 8, 18, 20⟩ ⟨18, 8, 18, 35⟩) ⟨18, 8, 18, 35⟩)
 (.cons (.aug 0 ⟨19, 8, 19, 14⟩ .RShift (.loc 1 ⟨19, 19, 19, 20⟩) ⟨19, 8, 19, 20⟩)
 .nil)) ⟨17, 4, 19, 20⟩)
 (.cons (.ret (.loc 2 ⟨20, 11, 20, 16⟩) ⟨20, 4, 20, 16⟩)
 .nil))))

def nm_compare : List Str := ["a", "b", "at"]
def bd_compare : Sts :=
 (.cons (.cond (.cmp .NotEq (.bif .len (.cons (.loc 0 ⟨22, 11, 22, 12⟩) .nil) ⟨22, 7, 22, 10⟩ ⟨22, 7, 22, 13⟩) (.bif .len (.cons (.loc 1 ⟨22, 21, 22, 22⟩) .nil) ⟨22, 17, 22, 20⟩ ⟨22, 17, 22, 23⟩) ⟨22, 7, 22, 23⟩)
  (.cons (.ret (.ite (.cmp .Lt (.bif .len (.cons (.loc 0 ⟨23, 25, 23, 26⟩) .nil) ⟨23, 21, 23, 24⟩ ⟨23, 21, 23, 27⟩) (.bif .len (.cons (.loc 1 ⟨23, 34, 23, 35⟩) .nil) ⟨23, 30, 23, 33⟩ ⟨23, 30, 23, 36⟩) ⟨23, 21, 23, 36⟩) (.neg (.num 1 ⟨23, 16, 23, 17⟩) ⟨23, 15, 23, 17⟩) (.num 1 ⟨23, 42, 23, 43⟩) ⟨23, 15, 23, 43⟩) ⟨23, 8, 23, 43⟩)
 .nil)
  .nil ⟨22, 4, 23, 43⟩)
 (.cons (.forr (.one 2 ⟨24, 8, 24, 10⟩) (.range3 (.bin .Sub (.bif .len (.cons (.loc 0 ⟨24, 24, 24, 25⟩) .nil) ⟨24, 20, 24, 23⟩ ⟨24, 20, 24, 26⟩) (.num 1 ⟨24, 29, 24, 30⟩) ⟨24, 20, 24, 30⟩) (.neg (.num 1 ⟨24, 33, 24, 34⟩) ⟨24, 32, 24, 34⟩) (.neg (.num 1 ⟨24, 37, 24, 38⟩) ⟨24, 36, 24, 38⟩) ⟨24, 14, 24, 19⟩ ⟨24, 14, 24, 39⟩)
  (.cons (.cond (.cmp .NotEq (.idx (.loc 0 ⟨25, 11, 25, 12⟩) (.loc 2 ⟨25, 13, 25, 15⟩) ⟨25, 11, 25, 16⟩) (.idx (.loc 1 ⟨25, 20, 25, 21⟩) (.loc 2 ⟨25, 22, 25, 24⟩) ⟨25, 20, 25, 25⟩) ⟨25, 11, 25, 25⟩)
  (.cons (.ret (.ite (.cmp .Lt (.idx (.loc 0 ⟨26, 25, 26, 26⟩) (.loc 2 ⟨26, 27, 26, 29⟩) ⟨26, 25, 26, 30⟩) (.idx (.loc 1 ⟨26, 33, 26, 34⟩) (.loc 2 ⟨26, 35, 26, 37⟩) ⟨26, 33, 26, 38⟩) ⟨26, 25, 26, 38⟩) (.neg (.num 1 ⟨26, 20, 26, 21⟩) ⟨26, 19, 26, 21⟩) (.num 1 ⟨26, 44, 26, 45⟩) ⟨26, 19, 26, 45⟩) ⟨26, 12, 26, 45⟩)
 .nil)
  .nil ⟨25, 8, 26, 45⟩)
 .nil) ⟨24, 4, 26, 45⟩)
 (.cons (.ret (.num 0 ⟨27, 11, 27, 12⟩) ⟨27, 4, 27, 12⟩)
 .nil)))

def nm_add : List Str := ["a", "b", "w", "found", "carry", "mask", "at"]
def bd_add : Sts :=
 (.cons (.cond (.cmp .Lt (.bif .len (.cons (.loc 0 ⟨29, 11, 29, 12⟩) .nil) ⟨29, 7, 29, 10⟩ ⟨29, 7, 29, 13⟩) (.bif .len (.cons (.loc 1 ⟨29, 20, 29, 21⟩) .nil) ⟨29, 16, 29, 19⟩ ⟨29, 16, 29, 22⟩) ⟨29, 7, 29, 22⟩)
  (.cons (.asgs [(.loc 0 ⟨30, 8, 30, 9⟩), (.loc 1 ⟨30, 11, 30, 12⟩)] (.cons (.loc 1 ⟨30, 16, 30, 17⟩) (.cons (.loc 0 ⟨30, 19, 30, 20⟩) .nil)) ⟨30, 8, 30, 12⟩ ⟨30, 15, 30, 21⟩ ⟨30, 8, 30, 21⟩)
 .nil)
  .nil ⟨29, 4, 30, 21⟩)
 (.cons (.asgs [(.loc 3 ⟨31, 4, 31, 9⟩), (.loc 4 ⟨31, 11, 31, 16⟩), (.loc 5 ⟨31, 18, 31, 22⟩)] (.cons (.lst .nil ⟨31, 26, 31, 28⟩) (.cons (.num 0 ⟨31, 30, 31, 31⟩) (.cons (.bin .Sub (.bin .LShift (.num 1 ⟨31, 34, 31, 35⟩) (.loc 2 ⟨31, 39, 31, 40⟩) ⟨31, 34, 31, 40⟩) (.num 1 ⟨31, 44, 31, 45⟩) ⟨31, 33, 31, 45⟩) .nil))) ⟨31, 4, 31, 22⟩ ⟨31, 25, 31, 46⟩ ⟨31, 4, 31, 46⟩)
 (.cons (.forr (.one 6 ⟨32, 8, 32, 10⟩) (.range1 (.bif .len (.cons (.loc 1 ⟨32, 24, 32, 25⟩) .nil) ⟨32, 20, 32, 23⟩ ⟨32, 20, 32, 26⟩) ⟨32, 14, 32, 19⟩ ⟨32, 14, 32, 27⟩)
  (.cons (.aug 4 ⟨33, 8, 33, 13⟩ .Add (.bin .Add (.idx (.loc 0 ⟨33, 17, 33, 18⟩) (.loc 6 ⟨33, 19, 33, 21⟩) ⟨33, 17, 33, 22⟩) (.idx (.loc 1 ⟨33, 25, 33, 26⟩) (.loc 6 ⟨33, 27, 33, 29⟩) ⟨33, 25, 33, 30⟩) ⟨33, 17, 33, 30⟩) ⟨33, 8, 33, 30⟩)
 (.cons (.expr (.app (.loc 3 ⟨34, 8, 34, 13⟩) (.bin .BitAnd (.loc 4 ⟨34, 21, 34, 26⟩) (.loc 5 ⟨34, 29, 34, 33⟩) ⟨34, 21, 34, 33⟩) ⟨34, 8, 34, 20⟩ ⟨34, 8, 34, 34⟩) ⟨34, 8, 34, 34⟩)
 (.cons (.aug 4 ⟨35, 8, 35, 13⟩ .RShift (.loc 2 ⟨35, 18, 35, 19⟩) ⟨35, 8, 35, 19⟩)
 .nil))) ⟨32, 4, 35, 19⟩)
 (.cons (.forr (.one 6 ⟨36, 8, 36, 10⟩) (.range2 (.bif .len (.cons (.loc 1 ⟨36, 24, 36, 25⟩) .nil) ⟨36, 20, 36, 23⟩ ⟨36, 20, 36, 26⟩) (.bif .len (.cons (.loc 0 ⟨36, 32, 36, 33⟩) .nil) ⟨36, 28, 36, 31⟩ ⟨36, 28, 36, 34⟩) ⟨36, 14, 36, 19⟩ ⟨36, 14, 36, 35⟩)
  (.cons (.aug 4 ⟨37, 8, 37, 13⟩ .Add (.idx (.loc 0 ⟨37, 17, 37, 18⟩) (.loc 6 ⟨37, 19, 37, 21⟩) ⟨37, 17, 37, 22⟩) ⟨37, 8, 37, 22⟩)
 (.cons (.expr (.app (.loc 3 ⟨38, 8, 38, 13⟩) (.bin .BitAnd (.loc 4 ⟨38, 21, 38, 26⟩) (.loc 5 ⟨38, 29, 38, 33⟩) ⟨38, 21, 38, 33⟩) ⟨38, 8, 38, 20⟩ ⟨38, 8, 38, 34⟩) ⟨38, 8, 38, 34⟩)
 (.cons (.aug 4 ⟨39, 8, 39, 13⟩ .RShift (.loc 2 ⟨39, 18, 39, 19⟩) ⟨39, 8, 39, 19⟩)
 .nil))) ⟨36, 4, 39, 19⟩)
 (.cons (.cond (.cmp .Gt (.loc 4 ⟨40, 7, 40, 12⟩) (.num 0 ⟨40, 15, 40, 16⟩) ⟨40, 7, 40, 16⟩)
  (.cons (.expr (.app (.loc 3 ⟨41, 8, 41, 13⟩) (.loc 4 ⟨41, 21, 41, 26⟩) ⟨41, 8, 41, 20⟩ ⟨41, 8, 41, 27⟩) ⟨41, 8, 41, 27⟩)
 .nil)
  .nil ⟨40, 4, 41, 27⟩)
 (.cons (.ret (.loc 3 ⟨42, 11, 42, 16⟩) ⟨42, 4, 42, 16⟩)
 .nil))))))

def nm_sub : List Str := ["a", "b", "w", "found", "borrow", "base", "at", "limb"]
def bd_sub : Sts :=
 (.cons (.cond (.cmp .Lt (.call (.glo "compare" (.ref 72) ⟨44, 7, 44, 14⟩) (.cons (.loc 0 ⟨44, 15, 44, 16⟩) (.cons (.loc 1 ⟨44, 18, 44, 19⟩) .nil)) ⟨44, 7, 44, 20⟩) (.num 0 ⟨44, 23, 44, 24⟩) ⟨44, 7, 44, 24⟩)
  (.cons (.dead (.Raise (some (.Call (.Name "OutOfRange" ⟨45, 14, 45, 24⟩) [.Constant (.str "below nought") 0 ⟨45, 25, 45, 39⟩] [] ⟨45, 14, 45, 40⟩)) none ⟨45, 8, 45, 40⟩))
 .nil)
  .nil ⟨44, 4, 45, 40⟩)
 (.cons (.asgs [(.loc 3 ⟨46, 4, 46, 9⟩), (.loc 4 ⟨46, 11, 46, 17⟩), (.loc 5 ⟨46, 19, 46, 23⟩)] (.cons (.lst .nil ⟨46, 27, 46, 29⟩) (.cons (.num 0 ⟨46, 31, 46, 32⟩) (.cons (.bin .LShift (.num 1 ⟨46, 34, 46, 35⟩) (.loc 2 ⟨46, 39, 46, 40⟩) ⟨46, 34, 46, 40⟩) .nil))) ⟨46, 4, 46, 23⟩ ⟨46, 26, 46, 41⟩ ⟨46, 4, 46, 41⟩)
 (.cons (.forr (.one 6 ⟨47, 8, 47, 10⟩) (.range1 (.bif .len (.cons (.loc 0 ⟨47, 24, 47, 25⟩) .nil) ⟨47, 20, 47, 23⟩ ⟨47, 20, 47, 26⟩) ⟨47, 14, 47, 19⟩ ⟨47, 14, 47, 27⟩)
  (.cons (.asg (.loc 7 ⟨48, 8, 48, 12⟩) (.bin .Sub (.bin .Sub (.idx (.loc 0 ⟨48, 15, 48, 16⟩) (.loc 6 ⟨48, 17, 48, 19⟩) ⟨48, 15, 48, 20⟩) (.loc 4 ⟨48, 23, 48, 29⟩) ⟨48, 15, 48, 29⟩) (.ite (.cmp .Lt (.loc 6 ⟨48, 42, 48, 44⟩) (.bif .len (.cons (.loc 1 ⟨48, 51, 48, 52⟩) .nil) ⟨48, 47, 48, 50⟩ ⟨48, 47, 48, 53⟩) ⟨48, 42, 48, 53⟩) (.idx (.loc 1 ⟨48, 33, 48, 34⟩) (.loc 6 ⟨48, 35, 48, 37⟩) ⟨48, 33, 48, 38⟩) (.num 0 ⟨48, 59, 48, 60⟩) ⟨48, 33, 48, 60⟩) ⟨48, 15, 48, 61⟩) ⟨48, 8, 48, 61⟩)
 (.cons (.asg (.loc 4 ⟨49, 8, 49, 14⟩) (.ite (.cmp .Lt (.loc 7 ⟨49, 22, 49, 26⟩) (.num 0 ⟨49, 29, 49, 30⟩) ⟨49, 22, 49, 30⟩) (.num 1 ⟨49, 17, 49, 18⟩) (.num 0 ⟨49, 36, 49, 37⟩) ⟨49, 17, 49, 37⟩) ⟨49, 8, 49, 37⟩)
 (.cons (.expr (.app (.loc 3 ⟨50, 8, 50, 13⟩) (.ite (.cmp .Lt (.loc 7 ⟨50, 36, 50, 40⟩) (.num 0 ⟨50, 43, 50, 44⟩) ⟨50, 36, 50, 44⟩) (.bin .Add (.loc 7 ⟨50, 21, 50, 25⟩) (.loc 5 ⟨50, 28, 50, 32⟩) ⟨50, 21, 50, 32⟩) (.loc 7 ⟨50, 50, 50, 54⟩) ⟨50, 21, 50, 54⟩) ⟨50, 8, 50, 20⟩ ⟨50, 8, 50, 55⟩) ⟨50, 8, 50, 55⟩)
 .nil))) ⟨47, 4, 50, 55⟩)
 (.cons (.ret (.call (.glo "normal" (.ref 58) ⟨51, 11, 51, 17⟩) (.cons (.loc 3 ⟨51, 18, 51, 23⟩) .nil) ⟨51, 11, 51, 24⟩) ⟨51, 4, 51, 24⟩)
 .nil))))

def nm_add_limb : List Str := ["a", "limb", "w", "found", "mask", "one"]
def bd_add_limb : Sts :=
 (.cons (.asgs [(.loc 3 ⟨53, 4, 53, 9⟩), (.loc 4 ⟨53, 11, 53, 15⟩)] (.cons (.lst .nil ⟨53, 19, 53, 21⟩) (.cons (.bin .Sub (.bin .LShift (.num 1 ⟨53, 24, 53, 25⟩) (.loc 2 ⟨53, 29, 53, 30⟩) ⟨53, 24, 53, 30⟩) (.num 1 ⟨53, 34, 53, 35⟩) ⟨53, 23, 53, 35⟩) .nil)) ⟨53, 4, 53, 15⟩ ⟨53, 18, 53, 36⟩ ⟨53, 4, 53, 36⟩)
 (.cons (.forr (.one 5 ⟨54, 8, 54, 11⟩) (.lst (.loc 0 ⟨54, 15, 54, 16⟩))
  (.cons (.aug 1 ⟨55, 8, 55, 12⟩ .Add (.loc 5 ⟨55, 16, 55, 19⟩) ⟨55, 8, 55, 19⟩)
 (.cons (.expr (.app (.loc 3 ⟨56, 8, 56, 13⟩) (.bin .BitAnd (.loc 1 ⟨56, 21, 56, 25⟩) (.loc 4 ⟨56, 28, 56, 32⟩) ⟨56, 21, 56, 32⟩) ⟨56, 8, 56, 20⟩ ⟨56, 8, 56, 33⟩) ⟨56, 8, 56, 33⟩)
 (.cons (.aug 1 ⟨57, 8, 57, 12⟩ .RShift (.loc 2 ⟨57, 17, 57, 18⟩) ⟨57, 8, 57, 18⟩)
 .nil))) ⟨54, 4, 57, 18⟩)
 (.cons (.cond (.cmp .Gt (.loc 1 ⟨58, 7, 58, 11⟩) (.num 0 ⟨58, 14, 58, 15⟩) ⟨58, 7, 58, 15⟩)
  (.cons (.expr (.app (.loc 3 ⟨59, 8, 59, 13⟩) (.loc 1 ⟨59, 21, 59, 25⟩) ⟨59, 8, 59, 20⟩ ⟨59, 8, 59, 26⟩) ⟨59, 8, 59, 26⟩)
 .nil)
  .nil ⟨58, 4, 59, 26⟩)
 (.cons (.ret (.loc 3 ⟨60, 11, 60, 16⟩) ⟨60, 4, 60, 16⟩)
 .nil))))

def nm_divrem_limb : List Str := ["a", "limb", "w", "found", "rest", "at"]
def bd_divrem_limb : Sts :=
 (.cons (.cond (.cmp .Eq (.loc 1 ⟨62, 7, 62, 11⟩) (.num 0 ⟨62, 15, 62, 16⟩) ⟨62, 7, 62, 16⟩)
  (.cons (.dead (.Raise (some (.Call (.Name "DivisionByZero" ⟨63, 14, 63, 28⟩) [.Constant (.str "division by nought") 0 ⟨63, 29, 63, 49⟩] [] ⟨63, 14, 63, 50⟩)) none ⟨63, 8, 63, 50⟩))
 .nil)
  .nil ⟨62, 4, 63, 50⟩)
 (.cons (.asgs [(.loc 3 ⟨64, 4, 64, 9⟩), (.loc 4 ⟨64, 11, 64, 15⟩)] (.cons (.bin .Mult (.lst (.cons (.num 0 ⟨64, 20, 64, 21⟩) .nil) ⟨64, 19, 64, 22⟩) (.bif .len (.cons (.loc 0 ⟨64, 29, 64, 30⟩) .nil) ⟨64, 25, 64, 28⟩ ⟨64, 25, 64, 31⟩) ⟨64, 19, 64, 31⟩) (.cons (.num 0 ⟨64, 33, 64, 34⟩) .nil)) ⟨64, 4, 64, 15⟩ ⟨64, 18, 64, 35⟩ ⟨64, 4, 64, 35⟩)
 (.cons (.forr (.one 5 ⟨65, 8, 65, 10⟩) (.range3 (.bin .Sub (.bif .len (.cons (.loc 0 ⟨65, 24, 65, 25⟩) .nil) ⟨65, 20, 65, 23⟩ ⟨65, 20, 65, 26⟩) (.num 1 ⟨65, 29, 65, 30⟩) ⟨65, 20, 65, 30⟩) (.neg (.num 1 ⟨65, 33, 65, 34⟩) ⟨65, 32, 65, 34⟩) (.neg (.num 1 ⟨65, 37, 65, 38⟩) ⟨65, 36, 65, 38⟩) ⟨65, 14, 65, 19⟩ ⟨65, 14, 65, 39⟩)
  (.cons (.asg (.loc 4 ⟨66, 8, 66, 12⟩) (.bin .BitOr (.bin .LShift (.loc 4 ⟨66, 15, 66, 19⟩) (.loc 2 ⟨66, 23, 66, 24⟩) ⟨66, 15, 66, 24⟩) (.idx (.loc 0 ⟨66, 27, 66, 28⟩) (.loc 5 ⟨66, 29, 66, 31⟩) ⟨66, 27, 66, 32⟩) ⟨66, 15, 66, 32⟩) ⟨66, 8, 66, 32⟩)
 (.cons (.asg (.idx (.loc 3 ⟨67, 8, 67, 13⟩) (.loc 5 ⟨67, 14, 67, 16⟩) ⟨67, 8, 67, 17⟩) (.bin .FloorDiv (.loc 4 ⟨67, 20, 67, 24⟩) (.loc 1 ⟨67, 28, 67, 32⟩) ⟨67, 20, 67, 32⟩) ⟨67, 8, 67, 32⟩)
 (.cons (.aug 4 ⟨68, 8, 68, 12⟩ .Mod (.loc 1 ⟨68, 16, 68, 20⟩) ⟨68, 8, 68, 20⟩)
 .nil))) ⟨65, 4, 68, 20⟩)
 (.cons (.ret (.tup (.cons (.call (.glo "normal" (.ref 58) ⟨69, 12, 69, 18⟩) (.cons (.loc 3 ⟨69, 19, 69, 24⟩) .nil) ⟨69, 12, 69, 25⟩) (.cons (.loc 4 ⟨69, 27, 69, 31⟩) .nil)) ⟨69, 11, 69, 32⟩) ⟨69, 4, 69, 32⟩)
 .nil))))

def nm_shift_left : List Str := ["a", "n", "w", "spots", "few", "found", "carry", "mask", "one"]
def bd_shift_left : Sts :=
 (.cons (.cond (.cmp .Eq (.bif .len (.cons (.loc 0 ⟨71, 11, 71, 12⟩) .nil) ⟨71, 7, 71, 10⟩ ⟨71, 7, 71, 13⟩) (.num 0 ⟨71, 17, 71, 18⟩) ⟨71, 7, 71, 18⟩)
  (.cons (.ret (.lst .nil ⟨72, 15, 72, 17⟩) ⟨72, 8, 72, 17⟩)
 .nil)
  .nil ⟨71, 4, 72, 17⟩)
 (.cons (.asgs [(.loc 3 ⟨73, 4, 73, 9⟩), (.loc 4 ⟨73, 11, 73, 14⟩)] (.cons (.bin .FloorDiv (.loc 1 ⟨73, 18, 73, 19⟩) (.loc 2 ⟨73, 23, 73, 24⟩) ⟨73, 18, 73, 24⟩) (.cons (.bin .Mod (.loc 1 ⟨73, 26, 73, 27⟩) (.loc 2 ⟨73, 30, 73, 31⟩) ⟨73, 26, 73, 31⟩) .nil)) ⟨73, 4, 73, 14⟩ ⟨73, 17, 73, 32⟩ ⟨73, 4, 73, 32⟩)
 (.cons (.asgs [(.loc 5 ⟨74, 4, 74, 9⟩), (.loc 6 ⟨74, 11, 74, 16⟩), (.loc 7 ⟨74, 18, 74, 22⟩)] (.cons (.bin .Mult (.lst (.cons (.num 0 ⟨74, 27, 74, 28⟩) .nil) ⟨74, 26, 74, 29⟩) (.loc 3 ⟨74, 32, 74, 37⟩) ⟨74, 26, 74, 37⟩) (.cons (.num 0 ⟨74, 39, 74, 40⟩) (.cons (.bin .Sub (.bin .LShift (.num 1 ⟨74, 43, 74, 44⟩) (.loc 2 ⟨74, 48, 74, 49⟩) ⟨74, 43, 74, 49⟩) (.num 1 ⟨74, 53, 74, 54⟩) ⟨74, 42, 74, 54⟩) .nil))) ⟨74, 4, 74, 22⟩ ⟨74, 25, 74, 55⟩ ⟨74, 4, 74, 55⟩)
 (.cons (.forr (.one 8 ⟨75, 8, 75, 11⟩) (.lst (.loc 0 ⟨75, 15, 75, 16⟩))
  (.cons (.aug 6 ⟨76, 8, 76, 13⟩ .BitOr (.bin .LShift (.loc 8 ⟨76, 17, 76, 20⟩) (.loc 4 ⟨76, 24, 76, 27⟩) ⟨76, 17, 76, 27⟩) ⟨76, 8, 76, 27⟩)
 (.cons (.expr (.app (.loc 5 ⟨77, 8, 77, 13⟩) (.bin .BitAnd (.loc 6 ⟨77, 21, 77, 26⟩) (.loc 7 ⟨77, 29, 77, 33⟩) ⟨77, 21, 77, 33⟩) ⟨77, 8, 77, 20⟩ ⟨77, 8, 77, 34⟩) ⟨77, 8, 77, 34⟩)
 (.cons (.aug 6 ⟨78, 8, 78, 13⟩ .RShift (.loc 2 ⟨78, 18, 78, 19⟩) ⟨78, 8, 78, 19⟩)
 .nil))) ⟨75, 4, 78, 19⟩)
 (.cons (.cond (.cmp .Gt (.loc 6 ⟨79, 7, 79, 12⟩) (.num 0 ⟨79, 15, 79, 16⟩) ⟨79, 7, 79, 16⟩)
  (.cons (.expr (.app (.loc 5 ⟨80, 8, 80, 13⟩) (.loc 6 ⟨80, 21, 80, 26⟩) ⟨80, 8, 80, 20⟩ ⟨80, 8, 80, 27⟩) ⟨80, 8, 80, 27⟩)
 .nil)
  .nil ⟨79, 4, 80, 27⟩)
 (.cons (.ret (.loc 5 ⟨81, 11, 81, 16⟩) ⟨81, 4, 81, 16⟩)
 .nil))))))

def nm_shift_right : List Str := ["a", "n", "w", "spots", "few", "found", "mask", "at", "above"]
def bd_shift_right : Sts :=
 (.cons (.asgs [(.loc 3 ⟨83, 4, 83, 9⟩), (.loc 4 ⟨83, 11, 83, 14⟩)] (.cons (.bin .FloorDiv (.loc 1 ⟨83, 18, 83, 19⟩) (.loc 2 ⟨83, 23, 83, 24⟩) ⟨83, 18, 83, 24⟩) (.cons (.bin .Mod (.loc 1 ⟨83, 26, 83, 27⟩) (.loc 2 ⟨83, 30, 83, 31⟩) ⟨83, 26, 83, 31⟩) .nil)) ⟨83, 4, 83, 14⟩ ⟨83, 17, 83, 32⟩ ⟨83, 4, 83, 32⟩)
 (.cons (.asgs [(.loc 5 ⟨84, 4, 84, 9⟩), (.loc 6 ⟨84, 11, 84, 15⟩)] (.cons (.lst .nil ⟨84, 19, 84, 21⟩) (.cons (.bin .Sub (.bin .LShift (.num 1 ⟨84, 24, 84, 25⟩) (.loc 2 ⟨84, 29, 84, 30⟩) ⟨84, 24, 84, 30⟩) (.num 1 ⟨84, 34, 84, 35⟩) ⟨84, 23, 84, 35⟩) .nil)) ⟨84, 4, 84, 15⟩ ⟨84, 18, 84, 36⟩ ⟨84, 4, 84, 36⟩)
 (.cons (.forr (.one 7 ⟨85, 8, 85, 10⟩) (.range2 (.loc 3 ⟨85, 20, 85, 25⟩) (.bif .len (.cons (.loc 0 ⟨85, 31, 85, 32⟩) .nil) ⟨85, 27, 85, 30⟩ ⟨85, 27, 85, 33⟩) ⟨85, 14, 85, 19⟩ ⟨85, 14, 85, 34⟩)
  (.cons (.asg (.loc 8 ⟨86, 8, 86, 13⟩) (.ite (.cmp .Lt (.bin .Add (.loc 7 ⟨86, 29, 86, 31⟩) (.num 1 ⟨86, 34, 86, 35⟩) ⟨86, 29, 86, 35⟩) (.bif .len (.cons (.loc 0 ⟨86, 42, 86, 43⟩) .nil) ⟨86, 38, 86, 41⟩ ⟨86, 38, 86, 44⟩) ⟨86, 29, 86, 44⟩) (.idx (.loc 0 ⟨86, 16, 86, 17⟩) (.bin .Add (.loc 7 ⟨86, 18, 86, 20⟩) (.num 1 ⟨86, 23, 86, 24⟩) ⟨86, 18, 86, 24⟩) ⟨86, 16, 86, 25⟩) (.num 0 ⟨86, 50, 86, 51⟩) ⟨86, 16, 86, 51⟩) ⟨86, 8, 86, 51⟩)
 (.cons (.expr (.app (.loc 5 ⟨87, 8, 87, 13⟩) (.bin .BitAnd (.bin .BitOr (.bin .RShift (.idx (.loc 0 ⟨87, 22, 87, 23⟩) (.loc 7 ⟨87, 24, 87, 26⟩) ⟨87, 22, 87, 27⟩) (.loc 4 ⟨87, 31, 87, 34⟩) ⟨87, 22, 87, 34⟩) (.bin .LShift (.loc 8 ⟨87, 37, 87, 42⟩) (.bin .Sub (.loc 2 ⟨87, 46, 87, 47⟩) (.loc 4 ⟨87, 50, 87, 53⟩) ⟨87, 46, 87, 53⟩) ⟨87, 37, 87, 53⟩) ⟨87, 22, 87, 53⟩) (.loc 6 ⟨87, 57, 87, 61⟩) ⟨87, 21, 87, 61⟩) ⟨87, 8, 87, 20⟩ ⟨87, 8, 87, 62⟩) ⟨87, 8, 87, 62⟩)
 .nil)) ⟨85, 4, 87, 62⟩)
 (.cons (.ret (.call (.glo "normal" (.ref 58) ⟨88, 11, 88, 17⟩) (.cons (.loc 5 ⟨88, 18, 88, 23⟩) .nil) ⟨88, 11, 88, 24⟩) ⟨88, 4, 88, 24⟩)
 .nil))))

def nm_bits : List Str := ["a", "w"]
def bd_bits : Sts :=
 (.cons (.ret (.ite (.cmp .Gt (.bif .len (.cons (.loc 0 ⟨90, 56, 90, 57⟩) .nil) ⟨90, 52, 90, 55⟩ ⟨90, 52, 90, 58⟩) (.num 0 ⟨90, 61, 90, 62⟩) ⟨90, 52, 90, 62⟩) (.bin .Add (.bin .Mult (.bin .Sub (.bif .len (.cons (.loc 0 ⟨90, 16, 90, 17⟩) .nil) ⟨90, 12, 90, 15⟩ ⟨90, 12, 90, 18⟩) (.num 1 ⟨90, 21, 90, 22⟩) ⟨90, 12, 90, 22⟩) (.loc 1 ⟨90, 26, 90, 27⟩) ⟨90, 11, 90, 27⟩) (.bitl (.idx (.loc 0 ⟨90, 30, 90, 31⟩) (.neg (.num 1 ⟨90, 33, 90, 34⟩) ⟨90, 32, 90, 34⟩) ⟨90, 30, 90, 35⟩) ⟨90, 30, 90, 46⟩ ⟨90, 30, 90, 48⟩) ⟨90, 11, 90, 48⟩) (.num 0 ⟨90, 68, 90, 69⟩) ⟨90, 11, 90, 69⟩) ⟨90, 4, 90, 69⟩)
 .nil)

def nm_low : List Str := ["a", "n", "w", "spots", "few"]
def bd_low : Sts :=
 (.cons (.asgs [(.loc 3 ⟨92, 4, 92, 9⟩), (.loc 4 ⟨92, 11, 92, 14⟩)] (.cons (.bin .FloorDiv (.loc 1 ⟨92, 18, 92, 19⟩) (.loc 2 ⟨92, 23, 92, 24⟩) ⟨92, 18, 92, 24⟩) (.cons (.bin .Mod (.loc 1 ⟨92, 26, 92, 27⟩) (.loc 2 ⟨92, 30, 92, 31⟩) ⟨92, 26, 92, 31⟩) .nil)) ⟨92, 4, 92, 14⟩ ⟨92, 17, 92, 32⟩ ⟨92, 4, 92, 32⟩)
 (.cons (.cond (.cmp .GtE (.loc 3 ⟨93, 7, 93, 12⟩) (.bif .len (.cons (.loc 0 ⟨93, 20, 93, 21⟩) .nil) ⟨93, 16, 93, 19⟩ ⟨93, 16, 93, 22⟩) ⟨93, 7, 93, 22⟩)
  (.cons (.ret (.slAll (.loc 0 ⟨94, 15, 94, 16⟩) ⟨94, 17, 94, 18⟩ ⟨94, 15, 94, 19⟩) ⟨94, 8, 94, 19⟩)
 .nil)
  .nil ⟨93, 4, 94, 19⟩)
 (.cons (.ret (.call (.glo "normal" (.ref 58) ⟨95, 11, 95, 17⟩) (.cons (.bin .Add (.slTo (.loc 0 ⟨95, 18, 95, 19⟩) (.loc 3 ⟨95, 21, 95, 26⟩) ⟨95, 20, 95, 26⟩ ⟨95, 18, 95, 27⟩) (.lst (.cons (.bin .BitAnd (.idx (.loc 0 ⟨95, 31, 95, 32⟩) (.loc 3 ⟨95, 33, 95, 38⟩) ⟨95, 31, 95, 39⟩) (.bin .Sub (.bin .LShift (.num 1 ⟨95, 43, 95, 44⟩) (.loc 4 ⟨95, 48, 95, 51⟩) ⟨95, 43, 95, 51⟩) (.num 1 ⟨95, 55, 95, 56⟩) ⟨95, 42, 95, 56⟩) ⟨95, 31, 95, 56⟩) .nil) ⟨95, 30, 95, 57⟩) ⟨95, 18, 95, 57⟩) .nil) ⟨95, 11, 95, 58⟩) ⟨95, 4, 95, 58⟩)
 .nil)))

def nm_signed : List Str := ["is_below", "nat"]
def bd_signed : Sts :=
 (.cons (.ret (.tup (.cons (.conj (.loc 0 ⟨98, 12, 98, 20⟩) (.cmp .Gt (.bif .len (.cons (.loc 1 ⟨98, 29, 98, 32⟩) .nil) ⟨98, 25, 98, 28⟩ ⟨98, 25, 98, 33⟩) (.num 0 ⟨98, 36, 98, 37⟩) ⟨98, 25, 98, 37⟩) ⟨98, 12, 98, 37⟩) (.cons (.loc 1 ⟨98, 39, 98, 42⟩) .nil)) ⟨98, 11, 98, 43⟩) ⟨98, 4, 98, 43⟩)
 .nil)

def nm_s_of : List Str := ["number", "w"]
def bd_s_of : Sts :=
 (.cons (.ret (.tup (.cons (.cmp .Lt (.loc 0 ⟨100, 12, 100, 18⟩) (.num 0 ⟨100, 21, 100, 22⟩) ⟨100, 12, 100, 22⟩) (.cons (.call (.glo "nat_of" (.ref 65) ⟨100, 24, 100, 30⟩) (.cons (.bif .abs (.cons (.loc 0 ⟨100, 35, 100, 41⟩) .nil) ⟨100, 31, 100, 34⟩ ⟨100, 31, 100, 42⟩) (.cons (.loc 1 ⟨100, 44, 100, 45⟩) .nil)) ⟨100, 24, 100, 46⟩) .nil)) ⟨100, 11, 100, 47⟩) ⟨100, 4, 100, 47⟩)
 .nil)

def nm_s_neg : List Str := ["x"]
def bd_s_neg : Sts :=
 (.cons (.ret (.call (.glo "signed" (.ref 135) ⟨102, 11, 102, 17⟩) (.cons (.not (.idx (.loc 0 ⟨102, 22, 102, 23⟩) (.num 0 ⟨102, 24, 102, 25⟩) ⟨102, 22, 102, 26⟩) ⟨102, 18, 102, 26⟩) (.cons (.idx (.loc 0 ⟨102, 28, 102, 29⟩) (.num 1 ⟨102, 30, 102, 31⟩) ⟨102, 28, 102, 32⟩) .nil)) ⟨102, 11, 102, 33⟩) ⟨102, 4, 102, 33⟩)
 .nil)

def nm_s_abs : List Str := ["x"]
def bd_s_abs : Sts :=
 (.cons (.ret (.tup (.cons (.boo false ⟨104, 12, 104, 17⟩) (.cons (.idx (.loc 0 ⟨104, 19, 104, 20⟩) (.num 1 ⟨104, 21, 104, 22⟩) ⟨104, 19, 104, 23⟩) .nil)) ⟨104, 11, 104, 24⟩) ⟨104, 4, 104, 24⟩)
 .nil)

def nm_s_sign : List Str := ["x"]
def bd_s_sign : Sts :=
 (.cons (.cond (.cmp .Eq (.bif .len (.cons (.idx (.loc 0 ⟨106, 11, 106, 12⟩) (.num 1 ⟨106, 13, 106, 14⟩) ⟨106, 11, 106, 15⟩) .nil) ⟨106, 7, 106, 10⟩ ⟨106, 7, 106, 16⟩) (.num 0 ⟨106, 20, 106, 21⟩) ⟨106, 7, 106, 21⟩)
  (.cons (.ret (.num 0 ⟨107, 15, 107, 16⟩) ⟨107, 8, 107, 16⟩)
 .nil)
  .nil ⟨106, 4, 107, 16⟩)
 (.cons (.ret (.ite (.val (.idx (.loc 0 ⟨108, 17, 108, 18⟩) (.num 0 ⟨108, 19, 108, 20⟩) ⟨108, 17, 108, 21⟩)) (.neg (.num 1 ⟨108, 12, 108, 13⟩) ⟨108, 11, 108, 13⟩) (.num 1 ⟨108, 27, 108, 28⟩) ⟨108, 11, 108, 28⟩) ⟨108, 4, 108, 28⟩)
 .nil))

def nm_s_compare : List Str := ["x", "y"]
def bd_s_compare : Sts :=
 (.cons (.cond (.cmp .NotEq (.idx (.loc 0 ⟨110, 7, 110, 8⟩) (.num 0 ⟨110, 9, 110, 10⟩) ⟨110, 7, 110, 11⟩) (.idx (.loc 1 ⟨110, 15, 110, 16⟩) (.num 0 ⟨110, 17, 110, 18⟩) ⟨110, 15, 110, 19⟩) ⟨110, 7, 110, 19⟩)
  (.cons (.ret (.ite (.val (.idx (.loc 0 ⟨111, 21, 111, 22⟩) (.num 0 ⟨111, 23, 111, 24⟩) ⟨111, 21, 111, 25⟩)) (.neg (.num 1 ⟨111, 16, 111, 17⟩) ⟨111, 15, 111, 17⟩) (.num 1 ⟨111, 31, 111, 32⟩) ⟨111, 15, 111, 32⟩) ⟨111, 8, 111, 32⟩)
 .nil)
  .nil ⟨110, 4, 111, 32⟩)
 (.cons (.ret (.ite (.val (.idx (.loc 0 ⟨112, 34, 112, 35⟩) (.num 0 ⟨112, 36, 112, 37⟩) ⟨112, 34, 112, 38⟩)) (.call (.glo "compare" (.ref 72) ⟨112, 11, 112, 18⟩) (.cons (.idx (.loc 1 ⟨112, 19, 112, 20⟩) (.num 1 ⟨112, 21, 112, 22⟩) ⟨112, 19, 112, 23⟩) (.cons (.idx (.loc 0 ⟨112, 25, 112, 26⟩) (.num 1 ⟨112, 27, 112, 28⟩) ⟨112, 25, 112, 29⟩) .nil)) ⟨112, 11, 112, 30⟩) (.call (.glo "compare" (.ref 72) ⟨112, 44, 112, 51⟩) (.cons (.idx (.loc 0 ⟨112, 52, 112, 53⟩) (.num 1 ⟨112, 54, 112, 55⟩) ⟨112, 52, 112, 56⟩) (.cons (.idx (.loc 1 ⟨112, 58, 112, 59⟩) (.num 1 ⟨112, 60, 112, 61⟩) ⟨112, 58, 112, 62⟩) .nil)) ⟨112, 44, 112, 63⟩) ⟨112, 11, 112, 63⟩) ⟨112, 4, 112, 63⟩)
 .nil))

def nm_s_add : List Str := ["x", "y", "w"]
def bd_s_add : Sts :=
 (.cons (.cond (.cmp .Eq (.idx (.loc 0 ⟨114, 7, 114, 8⟩) (.num 0 ⟨114, 9, 114, 10⟩) ⟨114, 7, 114, 11⟩) (.idx (.loc 1 ⟨114, 15, 114, 16⟩) (.num 0 ⟨114, 17, 114, 18⟩) ⟨114, 15, 114, 19⟩) ⟨114, 7, 114, 19⟩)
  (.cons (.ret (.call (.glo "signed" (.ref 135) ⟨115, 15, 115, 21⟩) (.cons (.idx (.loc 0 ⟨115, 22, 115, 23⟩) (.num 0 ⟨115, 24, 115, 25⟩) ⟨115, 22, 115, 26⟩) (.cons (.call (.glo "add" (.ref 79) ⟨115, 28, 115, 31⟩) (.cons (.idx (.loc 0 ⟨115, 32, 115, 33⟩) (.num 1 ⟨115, 34, 115, 35⟩) ⟨115, 32, 115, 36⟩) (.cons (.idx (.loc 1 ⟨115, 38, 115, 39⟩) (.num 1 ⟨115, 40, 115, 41⟩) ⟨115, 38, 115, 42⟩) (.cons (.loc 2 ⟨115, 44, 115, 45⟩) .nil))) ⟨115, 28, 115, 46⟩) .nil)) ⟨115, 15, 115, 47⟩) ⟨115, 8, 115, 47⟩)
 .nil)
  .nil ⟨114, 4, 115, 47⟩)
 (.cons (.cond (.cmp .Lt (.call (.glo "compare" (.ref 72) ⟨116, 7, 116, 14⟩) (.cons (.idx (.loc 0 ⟨116, 15, 116, 16⟩) (.num 1 ⟨116, 17, 116, 18⟩) ⟨116, 15, 116, 19⟩) (.cons (.idx (.loc 1 ⟨116, 21, 116, 22⟩) (.num 1 ⟨116, 23, 116, 24⟩) ⟨116, 21, 116, 25⟩) .nil)) ⟨116, 7, 116, 26⟩) (.num 0 ⟨116, 29, 116, 30⟩) ⟨116, 7, 116, 30⟩)
  (.cons (.ret (.call (.glo "signed" (.ref 135) ⟨117, 15, 117, 21⟩) (.cons (.idx (.loc 1 ⟨117, 22, 117, 23⟩) (.num 0 ⟨117, 24, 117, 25⟩) ⟨117, 22, 117, 26⟩) (.cons (.call (.glo "sub" (.ref 86) ⟨117, 28, 117, 31⟩) (.cons (.idx (.loc 1 ⟨117, 32, 117, 33⟩) (.num 1 ⟨117, 34, 117, 35⟩) ⟨117, 32, 117, 36⟩) (.cons (.idx (.loc 0 ⟨117, 38, 117, 39⟩) (.num 1 ⟨117, 40, 117, 41⟩) ⟨117, 38, 117, 42⟩) (.cons (.loc 2 ⟨117, 44, 117, 45⟩) .nil))) ⟨117, 28, 117, 46⟩) .nil)) ⟨117, 15, 117, 47⟩) ⟨117, 8, 117, 47⟩)
 .nil)
  .nil ⟨116, 4, 117, 47⟩)
 (.cons (.ret (.call (.glo "signed" (.ref 135) ⟨118, 11, 118, 17⟩) (.cons (.idx (.loc 0 ⟨118, 18, 118, 19⟩) (.num 0 ⟨118, 20, 118, 21⟩) ⟨118, 18, 118, 22⟩) (.cons (.call (.glo "sub" (.ref 86) ⟨118, 24, 118, 27⟩) (.cons (.idx (.loc 0 ⟨118, 28, 118, 29⟩) (.num 1 ⟨118, 30, 118, 31⟩) ⟨118, 28, 118, 32⟩) (.cons (.idx (.loc 1 ⟨118, 34, 118, 35⟩) (.num 1 ⟨118, 36, 118, 37⟩) ⟨118, 34, 118, 38⟩) (.cons (.loc 2 ⟨118, 40, 118, 41⟩) .nil))) ⟨118, 24, 118, 42⟩) .nil)) ⟨118, 11, 118, 43⟩) ⟨118, 4, 118, 43⟩)
 .nil)))

def nm_s_sub : List Str := ["x", "y", "w"]
def bd_s_sub : Sts :=
 (.cons (.ret (.call (.glo "s_add" (.ref 177) ⟨120, 11, 120, 16⟩) (.cons (.loc 0 ⟨120, 17, 120, 18⟩) (.cons (.call (.glo "s_neg" (.ref 149) ⟨120, 20, 120, 25⟩) (.cons (.loc 1 ⟨120, 26, 120, 27⟩) .nil) ⟨120, 20, 120, 28⟩) (.cons (.loc 2 ⟨120, 30, 120, 31⟩) .nil))) ⟨120, 11, 120, 32⟩) ⟨120, 4, 120, 32⟩)
 .nil)

def nm_s_mul : List Str := ["x", "y", "w", "mul"]
def bd_s_mul : Sts :=
 (.cons (.ret (.call (.glo "signed" (.ref 135) ⟨122, 11, 122, 17⟩) (.cons (.cmp .NotEq (.idx (.loc 0 ⟨122, 18, 122, 19⟩) (.num 0 ⟨122, 20, 122, 21⟩) ⟨122, 18, 122, 22⟩) (.idx (.loc 1 ⟨122, 26, 122, 27⟩) (.num 0 ⟨122, 28, 122, 29⟩) ⟨122, 26, 122, 30⟩) ⟨122, 18, 122, 30⟩) (.cons (.call (.loc 3 ⟨122, 32, 122, 35⟩) (.cons (.idx (.loc 0 ⟨122, 36, 122, 37⟩) (.num 1 ⟨122, 38, 122, 39⟩) ⟨122, 36, 122, 40⟩) (.cons (.idx (.loc 1 ⟨122, 42, 122, 43⟩) (.num 1 ⟨122, 44, 122, 45⟩) ⟨122, 42, 122, 46⟩) (.cons (.loc 2 ⟨122, 48, 122, 49⟩) .nil))) ⟨122, 32, 122, 50⟩) .nil)) ⟨122, 11, 122, 51⟩) ⟨122, 4, 122, 51⟩)
 .nil)

def nm_tdiv : List Str := ["x", "y", "w", "divrem", "quotient", "rest"]
def bd_tdiv : Sts :=
 (.cons (.cond (.cmp .Eq (.bif .len (.cons (.idx (.loc 1 ⟨124, 11, 124, 12⟩) (.num 1 ⟨124, 13, 124, 14⟩) ⟨124, 11, 124, 15⟩) .nil) ⟨124, 7, 124, 10⟩ ⟨124, 7, 124, 16⟩) (.num 0 ⟨124, 20, 124, 21⟩) ⟨124, 7, 124, 21⟩)
  (.cons (.dead (.Raise (some (.Call (.Name "DivisionByZero" ⟨125, 14, 125, 28⟩) [.Constant (.str "division by nought") 0 ⟨125, 29, 125, 49⟩] [] ⟨125, 14, 125, 50⟩)) none ⟨125, 8, 125, 50⟩))
 .nil)
  .nil ⟨124, 4, 125, 50⟩)
 (.cons (.unp [(.loc 4 ⟨126, 4, 126, 12⟩), (.loc 5 ⟨126, 14, 126, 18⟩)] (.call (.loc 3 ⟨126, 21, 126, 27⟩) (.cons (.idx (.loc 0 ⟨126, 28, 126, 29⟩) (.num 1 ⟨126, 30, 126, 31⟩) ⟨126, 28, 126, 32⟩) (.cons (.idx (.loc 1 ⟨126, 34, 126, 35⟩) (.num 1 ⟨126, 36, 126, 37⟩) ⟨126, 34, 126, 38⟩) (.cons (.loc 2 ⟨126, 40, 126, 41⟩) .nil))) ⟨126, 21, 126, 42⟩) ⟨126, 4, 126, 18⟩ ⟨126, 4, 126, 42⟩)
 (.cons (.ret (.tup (.cons (.call (.glo "signed" (.ref 135) ⟨127, 12, 127, 18⟩) (.cons (.cmp .NotEq (.idx (.loc 0 ⟨127, 19, 127, 20⟩) (.num 0 ⟨127, 21, 127, 22⟩) ⟨127, 19, 127, 23⟩) (.idx (.loc 1 ⟨127, 27, 127, 28⟩) (.num 0 ⟨127, 29, 127, 30⟩) ⟨127, 27, 127, 31⟩) ⟨127, 19, 127, 31⟩) (.cons (.loc 4 ⟨127, 33, 127, 41⟩) .nil)) ⟨127, 12, 127, 42⟩) (.cons (.call (.glo "signed" (.ref 135) ⟨127, 44, 127, 50⟩) (.cons (.idx (.loc 0 ⟨127, 51, 127, 52⟩) (.num 0 ⟨127, 53, 127, 54⟩) ⟨127, 51, 127, 55⟩) (.cons (.loc 5 ⟨127, 57, 127, 61⟩) .nil)) ⟨127, 44, 127, 62⟩) .nil)) ⟨127, 11, 127, 63⟩) ⟨127, 4, 127, 63⟩)
 .nil)))

def nm_fdiv : List Str := ["x", "y", "w", "divrem", "quotient", "rest"]
def bd_fdiv : Sts :=
 (.cons (.unp [(.loc 4 ⟨129, 4, 129, 12⟩), (.loc 5 ⟨129, 14, 129, 18⟩)] (.call (.glo "tdiv" (.ref 198) ⟨129, 21, 129, 25⟩) (.cons (.loc 0 ⟨129, 26, 129, 27⟩) (.cons (.loc 1 ⟨129, 29, 129, 30⟩) (.cons (.loc 2 ⟨129, 32, 129, 33⟩) (.cons (.loc 3 ⟨129, 35, 129, 41⟩) .nil)))) ⟨129, 21, 129, 42⟩) ⟨129, 4, 129, 18⟩ ⟨129, 4, 129, 42⟩)
 (.cons (.cond (.conj (.cmp .Gt (.bif .len (.cons (.idx (.loc 5 ⟨130, 11, 130, 15⟩) (.num 1 ⟨130, 16, 130, 17⟩) ⟨130, 11, 130, 18⟩) .nil) ⟨130, 7, 130, 10⟩ ⟨130, 7, 130, 19⟩) (.num 0 ⟨130, 22, 130, 23⟩) ⟨130, 7, 130, 23⟩) (.cmp .NotEq (.idx (.loc 0 ⟨130, 28, 130, 29⟩) (.num 0 ⟨130, 30, 130, 31⟩) ⟨130, 28, 130, 32⟩) (.idx (.loc 1 ⟨130, 36, 130, 37⟩) (.num 0 ⟨130, 38, 130, 39⟩) ⟨130, 36, 130, 40⟩) ⟨130, 28, 130, 40⟩) ⟨130, 7, 130, 40⟩)
  (.cons (.ret (.tup (.cons (.tup (.cons (.boo true ⟨131, 17, 131, 21⟩) (.cons (.call (.glo "add_limb" (.ref 93) ⟨131, 23, 131, 31⟩) (.cons (.idx (.loc 4 ⟨131, 32, 131, 40⟩) (.num 1 ⟨131, 41, 131, 42⟩) ⟨131, 32, 131, 43⟩) (.cons (.num 1 ⟨131, 45, 131, 46⟩) (.cons (.loc 2 ⟨131, 48, 131, 49⟩) .nil))) ⟨131, 23, 131, 50⟩) .nil)) ⟨131, 16, 131, 51⟩) (.cons (.call (.glo "s_add" (.ref 177) ⟨131, 53, 131, 58⟩) (.cons (.loc 5 ⟨131, 59, 131, 63⟩) (.cons (.loc 1 ⟨131, 65, 131, 66⟩) (.cons (.loc 2 ⟨131, 68, 131, 69⟩) .nil))) ⟨131, 53, 131, 70⟩) .nil)) ⟨131, 15, 131, 71⟩) ⟨131, 8, 131, 71⟩)
 .nil)
  .nil ⟨130, 4, 131, 71⟩)
 (.cons (.ret (.tup (.cons (.loc 4 ⟨132, 12, 132, 20⟩) (.cons (.loc 5 ⟨132, 22, 132, 26⟩) .nil)) ⟨132, 11, 132, 27⟩) ⟨132, 4, 132, 27⟩)
 .nil)))

def nm_s_shift : List Str := ["x", "n", "w", "found"]
def bd_s_shift : Sts :=
 (.cons (.cond (.cmp .GtE (.loc 1 ⟨134, 7, 134, 8⟩) (.num 0 ⟨134, 12, 134, 13⟩) ⟨134, 7, 134, 13⟩)
  (.cons (.ret (.call (.glo "signed" (.ref 135) ⟨135, 15, 135, 21⟩) (.cons (.idx (.loc 0 ⟨135, 22, 135, 23⟩) (.num 0 ⟨135, 24, 135, 25⟩) ⟨135, 22, 135, 26⟩) (.cons (.call (.glo "shift_left" (.ref 107) ⟨135, 28, 135, 38⟩) (.cons (.idx (.loc 0 ⟨135, 39, 135, 40⟩) (.num 1 ⟨135, 41, 135, 42⟩) ⟨135, 39, 135, 43⟩) (.cons (.loc 1 ⟨135, 45, 135, 46⟩) (.cons (.loc 2 ⟨135, 48, 135, 49⟩) .nil))) ⟨135, 28, 135, 50⟩) .nil)) ⟨135, 15, 135, 51⟩) ⟨135, 8, 135, 51⟩)
 .nil)
  .nil ⟨134, 4, 135, 51⟩)
 (.cons (.asg (.loc 3 ⟨136, 4, 136, 9⟩) (.call (.glo "shift_right" (.ref 114) ⟨136, 12, 136, 23⟩) (.cons (.idx (.loc 0 ⟨136, 24, 136, 25⟩) (.num 1 ⟨136, 26, 136, 27⟩) ⟨136, 24, 136, 28⟩) (.cons (.neg (.loc 1 ⟨136, 31, 136, 32⟩) ⟨136, 30, 136, 32⟩) (.cons (.loc 2 ⟨136, 34, 136, 35⟩) .nil))) ⟨136, 12, 136, 36⟩) ⟨136, 4, 136, 36⟩)
 (.cons (.cond (.conj (.val (.idx (.loc 0 ⟨137, 7, 137, 8⟩) (.num 0 ⟨137, 9, 137, 10⟩) ⟨137, 7, 137, 11⟩)) (.cmp .Gt (.bif .len (.cons (.call (.glo "low" (.ref 128) ⟨137, 20, 137, 23⟩) (.cons (.idx (.loc 0 ⟨137, 24, 137, 25⟩) (.num 1 ⟨137, 26, 137, 27⟩) ⟨137, 24, 137, 28⟩) (.cons (.neg (.loc 1 ⟨137, 31, 137, 32⟩) ⟨137, 30, 137, 32⟩) (.cons (.loc 2 ⟨137, 34, 137, 35⟩) .nil))) ⟨137, 20, 137, 36⟩) .nil) ⟨137, 16, 137, 19⟩ ⟨137, 16, 137, 37⟩) (.num 0 ⟨137, 40, 137, 41⟩) ⟨137, 16, 137, 41⟩) ⟨137, 7, 137, 41⟩)
  (.cons (.asg (.loc 3 ⟨138, 8, 138, 13⟩) (.call (.glo "add_limb" (.ref 93) ⟨138, 16, 138, 24⟩) (.cons (.loc 3 ⟨138, 25, 138, 30⟩) (.cons (.num 1 ⟨138, 32, 138, 33⟩) (.cons (.loc 2 ⟨138, 35, 138, 36⟩) .nil))) ⟨138, 16, 138, 37⟩) ⟨138, 8, 138, 37⟩)
 .nil)
  .nil ⟨137, 4, 138, 37⟩)
 (.cons (.ret (.call (.glo "signed" (.ref 135) ⟨139, 11, 139, 17⟩) (.cons (.idx (.loc 0 ⟨139, 18, 139, 19⟩) (.num 0 ⟨139, 20, 139, 21⟩) ⟨139, 18, 139, 22⟩) (.cons (.loc 3 ⟨139, 24, 139, 29⟩) .nil)) ⟨139, 11, 139, 30⟩) ⟨139, 4, 139, 30⟩)
 .nil))))

def nm_dot : List Str := ["one", "other", "w", "mul", "found", "x", "y"]
def bd_dot : Sts :=
 (.cons (.asg (.loc 4 ⟨143, 4, 143, 9⟩) (.glo "NOUGHT" (.ref 214) ⟨143, 12, 143, 18⟩) ⟨143, 4, 143, 18⟩)
 (.cons (.forr (.two 5 ⟨144, 8, 144, 9⟩ 6 ⟨144, 11, 144, 12⟩ ⟨144, 8, 144, 12⟩) (.zip (.loc 0 ⟨144, 20, 144, 23⟩) (.loc 1 ⟨144, 25, 144, 30⟩) ⟨144, 16, 144, 19⟩ ⟨144, 16, 144, 31⟩)
  (.cons (.asg (.loc 4 ⟨145, 8, 145, 13⟩) (.call (.glo "s_add" (.ref 177) ⟨145, 16, 145, 21⟩) (.cons (.loc 4 ⟨145, 22, 145, 27⟩) (.cons (.call (.glo "s_mul" (.ref 191) ⟨145, 29, 145, 34⟩) (.cons (.loc 5 ⟨145, 35, 145, 36⟩) (.cons (.loc 6 ⟨145, 38, 145, 39⟩) (.cons (.loc 2 ⟨145, 41, 145, 42⟩) (.cons (.loc 3 ⟨145, 44, 145, 47⟩) .nil)))) ⟨145, 29, 145, 48⟩) (.cons (.loc 2 ⟨145, 50, 145, 51⟩) .nil))) ⟨145, 16, 145, 52⟩) ⟨145, 8, 145, 52⟩)
 .nil) ⟨144, 4, 145, 52⟩)
 (.cons (.ret (.loc 4 ⟨146, 11, 146, 16⟩) ⟨146, 4, 146, 16⟩)
 .nil)))

def nm_row_less : List Str := ["one", "other", "many", "w", "mul"]
def bd_row_less : Sts :=
 (.cons (.ret (.comp (.call (.glo "s_sub" (.ref 184) ⟨148, 12, 148, 17⟩) (.cons (.loc 0 ⟨148, 18, 148, 19⟩) (.cons (.call (.glo "s_mul" (.ref 191) ⟨148, 21, 148, 26⟩) (.cons (.loc 1 ⟨148, 27, 148, 28⟩) (.cons (.loc 2 ⟨148, 30, 148, 34⟩) (.cons (.loc 4 ⟨148, 36, 148, 37⟩) (.cons (.loc 3 ⟨148, 39, 148, 42⟩) .nil)))) ⟨148, 21, 148, 43⟩) (.cons (.loc 4 ⟨148, 45, 148, 46⟩) .nil))) ⟨148, 12, 148, 47⟩) (.two 0 ⟨148, 52, 148, 53⟩ 1 ⟨148, 55, 148, 56⟩ ⟨148, 52, 148, 56⟩) (.zip (.loc 0 ⟨148, 64, 148, 67⟩) (.loc 1 ⟨148, 69, 148, 74⟩) ⟨148, 60, 148, 63⟩ ⟨148, 60, 148, 75⟩) ⟨.function, [(".0", .local), ("x", .local), ("y", .local), ("s_sub", .globalImplicit), ("s_mul", .globalImplicit), ("many", .free), ("mul", .free), ("w", .free)], false, false, []⟩ ["x", "y", "many", "mul", "w"] [none, none, some 2, some 4, some 3] ⟨148, 11, 148, 76⟩) ⟨148, 4, 148, 76⟩)
 .nil)

def nm_nearest_quotient : List Str := ["x", "y", "w", "divrem"]
def bd_nearest_quotient : Sts :=
 (.cons (.ret (.idx (.call (.glo "fdiv" (.ref 205) ⟨150, 11, 150, 15⟩) (.cons (.call (.glo "s_add" (.ref 177) ⟨150, 16, 150, 21⟩) (.cons (.call (.glo "s_shift" (.ref 212) ⟨150, 22, 150, 29⟩) (.cons (.loc 0 ⟨150, 30, 150, 31⟩) (.cons (.num 1 ⟨150, 33, 150, 34⟩) (.cons (.loc 2 ⟨150, 36, 150, 37⟩) .nil))) ⟨150, 22, 150, 38⟩) (.cons (.loc 1 ⟨150, 40, 150, 41⟩) (.cons (.loc 2 ⟨150, 43, 150, 44⟩) .nil))) ⟨150, 16, 150, 45⟩) (.cons (.call (.glo "s_shift" (.ref 212) ⟨150, 47, 150, 54⟩) (.cons (.loc 1 ⟨150, 55, 150, 56⟩) (.cons (.num 1 ⟨150, 58, 150, 59⟩) (.cons (.loc 2 ⟨150, 61, 150, 62⟩) .nil))) ⟨150, 47, 150, 63⟩) (.cons (.loc 2 ⟨150, 65, 150, 66⟩) (.cons (.loc 3 ⟨150, 68, 150, 74⟩) .nil)))) ⟨150, 11, 150, 75⟩) (.num 0 ⟨150, 76, 150, 77⟩) ⟨150, 11, 150, 78⟩) ⟨150, 4, 150, 78⟩)
 .nil)

def nm_L_init__ : List Str := ["self", "rows", "top", "bottom", "w", "mul", "divrem"]
def bd_L_init__ : Sts :=
 (.cons (.asg (.attr (.loc 0 ⟨154, 8, 154, 12⟩) 0 ⟨154, 8, 154, 17⟩) (.comp (.slAll (.loc 0 ⟨154, 21, 154, 24⟩) ⟨154, 25, 154, 26⟩ ⟨154, 21, 154, 27⟩) (.one 0 ⟨154, 32, 154, 35⟩) (.lst (.loc 1 ⟨154, 39, 154, 43⟩)) ⟨.function, [(".0", .local), ("row", .local)], false, false, []⟩ ["row"] [none] ⟨154, 20, 154, 44⟩) ⟨154, 8, 154, 44⟩)
 (.cons (.asg (.attr (.loc 0 ⟨155, 8, 155, 12⟩) 1 ⟨155, 8, 155, 16⟩) (.call (.glo "s_of" (.ref 142) ⟨155, 19, 155, 23⟩) (.cons (.loc 2 ⟨155, 24, 155, 27⟩) (.cons (.loc 4 ⟨155, 29, 155, 30⟩) .nil)) ⟨155, 19, 155, 31⟩) ⟨155, 8, 155, 31⟩)
 (.cons (.asg (.attr (.loc 0 ⟨156, 8, 156, 12⟩) 2 ⟨156, 8, 156, 19⟩) (.call (.glo "s_of" (.ref 142) ⟨156, 22, 156, 26⟩) (.cons (.loc 3 ⟨156, 27, 156, 33⟩) (.cons (.loc 4 ⟨156, 35, 156, 36⟩) .nil)) ⟨156, 22, 156, 37⟩) ⟨156, 8, 156, 37⟩)
 (.cons (.asg (.attr (.loc 0 ⟨157, 8, 157, 12⟩) 3 ⟨157, 8, 157, 14⟩) (.loc 4 ⟨157, 17, 157, 18⟩) ⟨157, 8, 157, 18⟩)
 (.cons (.asg (.attr (.loc 0 ⟨158, 8, 158, 12⟩) 4 ⟨158, 8, 158, 16⟩) (.loc 5 ⟨158, 19, 158, 22⟩) ⟨158, 8, 158, 22⟩)
 (.cons (.asg (.attr (.loc 0 ⟨159, 8, 159, 12⟩) 5 ⟨159, 8, 159, 19⟩) (.loc 6 ⟨159, 22, 159, 28⟩) ⟨159, 8, 159, 28⟩)
 (.cons (.asg (.attr (.loc 0 ⟨160, 8, 160, 12⟩) 6 ⟨160, 8, 160, 18⟩) (.lst (.cons (.tup (.cons (.boo false ⟨160, 23, 160, 28⟩) (.cons (.lst (.cons (.num 1 ⟨160, 31, 160, 32⟩) .nil) ⟨160, 30, 160, 33⟩) .nil)) ⟨160, 22, 160, 34⟩) .nil) ⟨160, 21, 160, 35⟩) ⟨160, 8, 160, 35⟩)
 (.cons (.asg (.attr (.loc 0 ⟨161, 8, 161, 12⟩) 7 ⟨161, 8, 161, 18⟩) (.lst .nil ⟨161, 21, 161, 23⟩) ⟨161, 8, 161, 23⟩)
 .nil))))))))

def nm_L_product_of : List Str := ["self", "x", "y"]
def bd_L_product_of : Sts :=
 (.cons (.ret (.call (.glo "s_mul" (.ref 191) ⟨164, 15, 164, 20⟩) (.cons (.loc 1 ⟨164, 21, 164, 22⟩) (.cons (.loc 2 ⟨164, 24, 164, 25⟩) (.cons (.attr (.loc 0 ⟨164, 27, 164, 31⟩) 3 ⟨164, 27, 164, 33⟩) (.cons (.attr (.loc 0 ⟨164, 35, 164, 39⟩) 4 ⟨164, 35, 164, 43⟩) .nil)))) ⟨164, 15, 164, 44⟩) ⟨164, 8, 164, 44⟩)
 .nil)

def nm_L_exact : List Str := ["self", "x", "y"]
def bd_L_exact : Sts :=
 (.cons (.ret (.idx (.call (.glo "tdiv" (.ref 198) ⟨167, 15, 167, 19⟩) (.cons (.loc 1 ⟨167, 20, 167, 21⟩) (.cons (.loc 2 ⟨167, 23, 167, 24⟩) (.cons (.attr (.loc 0 ⟨167, 26, 167, 30⟩) 3 ⟨167, 26, 167, 32⟩) (.cons (.attr (.loc 0 ⟨167, 34, 167, 38⟩) 5 ⟨167, 34, 167, 45⟩) .nil)))) ⟨167, 15, 167, 46⟩) (.num 0 ⟨167, 47, 167, 48⟩) ⟨167, 15, 167, 49⟩) ⟨167, 8, 167, 49⟩)
 .nil)

def nm_L_crossed : List Str := ["self", "a", "b", "c", "d"]
def bd_L_crossed : Sts :=
 (.cons (.ret (.call (.glo "s_sub" (.ref 184) ⟨170, 15, 170, 20⟩) (.cons (.meth (.loc 0 ⟨170, 21, 170, 25⟩) "product_of" 252 (.cons (.loc 1 ⟨170, 37, 170, 38⟩) (.cons (.loc 2 ⟨170, 40, 170, 41⟩) .nil)) ⟨170, 21, 170, 36⟩ ⟨170, 21, 170, 42⟩) (.cons (.meth (.loc 0 ⟨170, 44, 170, 48⟩) "product_of" 252 (.cons (.loc 3 ⟨170, 60, 170, 61⟩) (.cons (.loc 4 ⟨170, 63, 170, 64⟩) .nil)) ⟨170, 44, 170, 59⟩ ⟨170, 44, 170, 65⟩) (.cons (.attr (.loc 0 ⟨170, 67, 170, 71⟩) 3 ⟨170, 67, 170, 73⟩) .nil))) ⟨170, 15, 170, 74⟩) ⟨170, 8, 170, 74⟩)
 .nil)

def nm_L_take_in : List Str := ["self", "k", "j", "found", "i", "part"]
def bd_L_take_in : Sts :=
 (.cons (.expr (.app (.attr (.loc 0 ⟨173, 8, 173, 12⟩) 7 ⟨173, 8, 173, 18⟩) (.lst .nil ⟨173, 26, 173, 28⟩) ⟨173, 8, 173, 25⟩ ⟨173, 8, 173, 29⟩) ⟨173, 8, 173, 29⟩)
 (.cons (.forr (.one 2 ⟨174, 12, 174, 13⟩) (.range1 (.bin .Add (.loc 1 ⟨174, 23, 174, 24⟩) (.num 1 ⟨174, 27, 174, 28⟩) ⟨174, 23, 174, 28⟩) ⟨174, 17, 174, 22⟩ ⟨174, 17, 174, 29⟩)
  (.cons (.asg (.loc 3 ⟨175, 12, 175, 17⟩) (.call (.glo "dot" (.ref 221) ⟨175, 20, 175, 23⟩) (.cons (.idx (.attr (.loc 0 ⟨175, 24, 175, 28⟩) 0 ⟨175, 24, 175, 33⟩) (.loc 1 ⟨175, 34, 175, 35⟩) ⟨175, 24, 175, 36⟩) (.cons (.idx (.attr (.loc 0 ⟨175, 38, 175, 42⟩) 0 ⟨175, 38, 175, 47⟩) (.loc 2 ⟨175, 48, 175, 49⟩) ⟨175, 38, 175, 50⟩) (.cons (.attr (.loc 0 ⟨175, 52, 175, 56⟩) 3 ⟨175, 52, 175, 58⟩) (.cons (.attr (.loc 0 ⟨175, 60, 175, 64⟩) 4 ⟨175, 60, 175, 68⟩) .nil)))) ⟨175, 20, 175, 69⟩) ⟨175, 12, 175, 69⟩)
 (.cons (.forr (.one 4 ⟨176, 16, 176, 17⟩) (.range1 (.loc 2 ⟨176, 27, 176, 28⟩) ⟨176, 21, 176, 26⟩ ⟨176, 21, 176, 29⟩)
  (.cons (.asg (.loc 5 ⟨177, 16, 177, 20⟩) (.ite (.cmp .Eq (.loc 2 ⟨177, 43, 177, 44⟩) (.loc 1 ⟨177, 48, 177, 49⟩) ⟨177, 43, 177, 49⟩) (.idx (.idx (.attr (.loc 0 ⟨177, 23, 177, 27⟩) 7 ⟨177, 23, 177, 33⟩) (.loc 1 ⟨177, 34, 177, 35⟩) ⟨177, 23, 177, 36⟩) (.loc 4 ⟨177, 37, 177, 38⟩) ⟨177, 23, 177, 39⟩) (.idx (.idx (.attr (.loc 0 ⟨177, 55, 177, 59⟩) 7 ⟨177, 55, 177, 65⟩) (.loc 2 ⟨177, 66, 177, 67⟩) ⟨177, 55, 177, 68⟩) (.loc 4 ⟨177, 69, 177, 70⟩) ⟨177, 55, 177, 71⟩) ⟨177, 23, 177, 71⟩) ⟨177, 16, 177, 71⟩)
 (.cons (.asg (.loc 3 ⟨178, 16, 178, 21⟩) (.meth (.loc 0 ⟨178, 24, 178, 28⟩) "exact" 259 (.cons (.meth (.loc 0 ⟨178, 35, 178, 39⟩) "crossed" 266 (.cons (.idx (.attr (.loc 0 ⟨178, 48, 178, 52⟩) 6 ⟨178, 48, 178, 58⟩) (.bin .Add (.loc 4 ⟨178, 59, 178, 60⟩) (.num 1 ⟨178, 63, 178, 64⟩) ⟨178, 59, 178, 64⟩) ⟨178, 48, 178, 65⟩) (.cons (.loc 3 ⟨178, 67, 178, 72⟩) (.cons (.idx (.idx (.attr (.loc 0 ⟨178, 74, 178, 78⟩) 7 ⟨178, 74, 178, 84⟩) (.loc 1 ⟨178, 85, 178, 86⟩) ⟨178, 74, 178, 87⟩) (.loc 4 ⟨178, 88, 178, 89⟩) ⟨178, 74, 178, 90⟩) (.cons (.loc 5 ⟨178, 92, 178, 96⟩) .nil)))) ⟨178, 35, 178, 47⟩ ⟨178, 35, 178, 97⟩) (.cons (.idx (.attr (.loc 0 ⟨178, 99, 178, 103⟩) 6 ⟨178, 99, 178, 109⟩) (.loc 4 ⟨178, 110, 178, 111⟩) ⟨178, 99, 178, 112⟩) .nil)) ⟨178, 24, 178, 34⟩ ⟨178, 24, 178, 113⟩) ⟨178, 16, 178, 113⟩)
 .nil)) ⟨176, 12, 178, 113⟩)
 (.cons (.cond (.cmp .Lt (.loc 2 ⟨179, 15, 179, 16⟩) (.loc 1 ⟨179, 19, 179, 20⟩) ⟨179, 15, 179, 20⟩)
  (.cons (.expr (.app (.idx (.attr (.loc 0 ⟨180, 16, 180, 20⟩) 7 ⟨180, 16, 180, 26⟩) (.loc 1 ⟨180, 27, 180, 28⟩) ⟨180, 16, 180, 29⟩) (.loc 3 ⟨180, 37, 180, 42⟩) ⟨180, 16, 180, 36⟩ ⟨180, 16, 180, 43⟩) ⟨180, 16, 180, 43⟩)
 .nil)
  (.cons (.expr (.app (.attr (.loc 0 ⟨182, 16, 182, 20⟩) 6 ⟨182, 16, 182, 26⟩) (.loc 3 ⟨182, 34, 182, 39⟩) ⟨182, 16, 182, 33⟩ ⟨182, 16, 182, 40⟩) ⟨182, 16, 182, 40⟩)
 .nil) ⟨179, 12, 182, 40⟩)
 .nil))) ⟨174, 8, 182, 40⟩)
 (.cons (.cond (.cmp .Eq (.call (.glo "s_sign" (.ref 163) ⟨183, 11, 183, 17⟩) (.cons (.idx (.attr (.loc 0 ⟨183, 18, 183, 22⟩) 6 ⟨183, 18, 183, 28⟩) (.bin .Add (.loc 1 ⟨183, 29, 183, 30⟩) (.num 1 ⟨183, 33, 183, 34⟩) ⟨183, 29, 183, 34⟩) ⟨183, 18, 183, 35⟩) .nil) ⟨183, 11, 183, 36⟩) (.num 0 ⟨183, 40, 183, 41⟩) ⟨183, 11, 183, 41⟩)
  (.cons (.dead (.Raise (some (.Call (.Name "OutOfRange" ⟨184, 18, 184, 28⟩) [.Constant (.str "rows that depend on one another") 0 ⟨184, 29, 184, 62⟩] [] ⟨184, 18, 184, 63⟩)) none ⟨184, 12, 184, 63⟩))
 .nil)
  .nil ⟨183, 8, 184, 63⟩)
 .nil)))

def nm_L_shorten : List Str := ["self", "k", "j", "part", "size", "many", "i"]
def bd_L_shorten : Sts :=
 (.cons (.asgs [(.loc 3 ⟨187, 8, 187, 12⟩), (.loc 4 ⟨187, 14, 187, 18⟩)] (.cons (.idx (.idx (.attr (.loc 0 ⟨187, 22, 187, 26⟩) 7 ⟨187, 22, 187, 32⟩) (.loc 1 ⟨187, 33, 187, 34⟩) ⟨187, 22, 187, 35⟩) (.loc 2 ⟨187, 36, 187, 37⟩) ⟨187, 22, 187, 38⟩) (.cons (.idx (.attr (.loc 0 ⟨187, 40, 187, 44⟩) 6 ⟨187, 40, 187, 50⟩) (.bin .Add (.loc 2 ⟨187, 51, 187, 52⟩) (.num 1 ⟨187, 55, 187, 56⟩) ⟨187, 51, 187, 56⟩) ⟨187, 40, 187, 57⟩) .nil)) ⟨187, 8, 187, 18⟩ ⟨187, 21, 187, 58⟩ ⟨187, 8, 187, 58⟩)
 (.cons (.cond (.cmp .LtE (.call (.glo "s_compare" (.ref 170) ⟨188, 11, 188, 20⟩) (.cons (.call (.glo "s_shift" (.ref 212) ⟨188, 21, 188, 28⟩) (.cons (.call (.glo "s_abs" (.ref 156) ⟨188, 29, 188, 34⟩) (.cons (.loc 3 ⟨188, 35, 188, 39⟩) .nil) ⟨188, 29, 188, 40⟩) (.cons (.num 1 ⟨188, 42, 188, 43⟩) (.cons (.attr (.loc 0 ⟨188, 45, 188, 49⟩) 3 ⟨188, 45, 188, 51⟩) .nil))) ⟨188, 21, 188, 52⟩) (.cons (.loc 4 ⟨188, 54, 188, 58⟩) .nil)) ⟨188, 11, 188, 59⟩) (.num 0 ⟨188, 63, 188, 64⟩) ⟨188, 11, 188, 64⟩)
  (.cons (.ret0 ⟨189, 12, 189, 18⟩)
 .nil)
  .nil ⟨188, 8, 189, 18⟩)
 (.cons (.asg (.loc 5 ⟨190, 8, 190, 12⟩) (.call (.glo "nearest_quotient" (.ref 233) ⟨190, 15, 190, 31⟩) (.cons (.loc 3 ⟨190, 32, 190, 36⟩) (.cons (.loc 4 ⟨190, 38, 190, 42⟩) (.cons (.attr (.loc 0 ⟨190, 44, 190, 48⟩) 3 ⟨190, 44, 190, 50⟩) (.cons (.attr (.loc 0 ⟨190, 52, 190, 56⟩) 5 ⟨190, 52, 190, 63⟩) .nil)))) ⟨190, 15, 190, 64⟩) ⟨190, 8, 190, 64⟩)
 (.cons (.asg (.idx (.attr (.loc 0 ⟨191, 8, 191, 12⟩) 0 ⟨191, 8, 191, 17⟩) (.loc 1 ⟨191, 18, 191, 19⟩) ⟨191, 8, 191, 20⟩) (.call (.glo "row_less" (.ref 226) ⟨191, 23, 191, 31⟩) (.cons (.idx (.attr (.loc 0 ⟨191, 32, 191, 36⟩) 0 ⟨191, 32, 191, 41⟩) (.loc 1 ⟨191, 42, 191, 43⟩) ⟨191, 32, 191, 44⟩) (.cons (.idx (.attr (.loc 0 ⟨191, 46, 191, 50⟩) 0 ⟨191, 46, 191, 55⟩) (.loc 2 ⟨191, 56, 191, 57⟩) ⟨191, 46, 191, 58⟩) (.cons (.loc 5 ⟨191, 60, 191, 64⟩) (.cons (.attr (.loc 0 ⟨191, 66, 191, 70⟩) 3 ⟨191, 66, 191, 72⟩) (.cons (.attr (.loc 0 ⟨191, 74, 191, 78⟩) 4 ⟨191, 74, 191, 82⟩) .nil))))) ⟨191, 23, 191, 83⟩) ⟨191, 8, 191, 83⟩)
 (.cons (.asg (.idx (.idx (.attr (.loc 0 ⟨192, 8, 192, 12⟩) 7 ⟨192, 8, 192, 18⟩) (.loc 1 ⟨192, 19, 192, 20⟩) ⟨192, 8, 192, 21⟩) (.loc 2 ⟨192, 22, 192, 23⟩) ⟨192, 8, 192, 24⟩) (.call (.glo "s_sub" (.ref 184) ⟨192, 27, 192, 32⟩) (.cons (.loc 3 ⟨192, 33, 192, 37⟩) (.cons (.meth (.loc 0 ⟨192, 39, 192, 43⟩) "product_of" 252 (.cons (.loc 5 ⟨192, 55, 192, 59⟩) (.cons (.loc 4 ⟨192, 61, 192, 65⟩) .nil)) ⟨192, 39, 192, 54⟩ ⟨192, 39, 192, 66⟩) (.cons (.attr (.loc 0 ⟨192, 68, 192, 72⟩) 3 ⟨192, 68, 192, 74⟩) .nil))) ⟨192, 27, 192, 75⟩) ⟨192, 8, 192, 75⟩)
 (.cons (.forr (.one 6 ⟨193, 12, 193, 13⟩) (.range1 (.loc 2 ⟨193, 23, 193, 24⟩) ⟨193, 17, 193, 22⟩ ⟨193, 17, 193, 25⟩)
  (.cons (.asg (.idx (.idx (.attr (.loc 0 ⟨194, 12, 194, 16⟩) 7 ⟨194, 12, 194, 22⟩) (.loc 1 ⟨194, 23, 194, 24⟩) ⟨194, 12, 194, 25⟩) (.loc 6 ⟨194, 26, 194, 27⟩) ⟨194, 12, 194, 28⟩) (.call (.glo "s_sub" (.ref 184) ⟨194, 31, 194, 36⟩) (.cons (.idx (.idx (.attr (.loc 0 ⟨194, 37, 194, 41⟩) 7 ⟨194, 37, 194, 47⟩) (.loc 1 ⟨194, 48, 194, 49⟩) ⟨194, 37, 194, 50⟩) (.loc 6 ⟨194, 51, 194, 52⟩) ⟨194, 37, 194, 53⟩) (.cons (.meth (.loc 0 ⟨194, 55, 194, 59⟩) "product_of" 252 (.cons (.loc 5 ⟨194, 71, 194, 75⟩) (.cons (.idx (.idx (.attr (.loc 0 ⟨194, 77, 194, 81⟩) 7 ⟨194, 77, 194, 87⟩) (.loc 2 ⟨194, 88, 194, 89⟩) ⟨194, 77, 194, 90⟩) (.loc 6 ⟨194, 91, 194, 92⟩) ⟨194, 77, 194, 93⟩) .nil)) ⟨194, 55, 194, 70⟩ ⟨194, 55, 194, 94⟩) (.cons (.attr (.loc 0 ⟨194, 96, 194, 100⟩) 3 ⟨194, 96, 194, 102⟩) .nil))) ⟨194, 31, 194, 103⟩) ⟨194, 12, 194, 103⟩)
 .nil) ⟨193, 8, 194, 103⟩)
 .nil))))))

def nm_L_is_upright : List Str := ["self", "k", "part", "size", "here", "bound"]
def bd_L_is_upright : Sts :=
 (.cons (.asgs [(.loc 2 ⟨197, 8, 197, 12⟩), (.loc 3 ⟨197, 14, 197, 18⟩)] (.cons (.idx (.idx (.attr (.loc 0 ⟨197, 22, 197, 26⟩) 7 ⟨197, 22, 197, 32⟩) (.loc 1 ⟨197, 33, 197, 34⟩) ⟨197, 22, 197, 35⟩) (.bin .Sub (.loc 1 ⟨197, 36, 197, 37⟩) (.num 1 ⟨197, 40, 197, 41⟩) ⟨197, 36, 197, 41⟩) ⟨197, 22, 197, 42⟩) (.cons (.idx (.attr (.loc 0 ⟨197, 44, 197, 48⟩) 6 ⟨197, 44, 197, 54⟩) (.loc 1 ⟨197, 55, 197, 56⟩) ⟨197, 44, 197, 57⟩) .nil)) ⟨197, 8, 197, 18⟩ ⟨197, 21, 197, 58⟩ ⟨197, 8, 197, 58⟩)
 (.cons (.asg (.loc 4 ⟨198, 8, 198, 12⟩) (.call (.glo "s_add" (.ref 177) ⟨198, 15, 198, 20⟩) (.cons (.meth (.loc 0 ⟨198, 21, 198, 25⟩) "product_of" 252 (.cons (.idx (.attr (.loc 0 ⟨198, 37, 198, 41⟩) 6 ⟨198, 37, 198, 47⟩) (.bin .Add (.loc 1 ⟨198, 48, 198, 49⟩) (.num 1 ⟨198, 52, 198, 53⟩) ⟨198, 48, 198, 53⟩) ⟨198, 37, 198, 54⟩) (.cons (.idx (.attr (.loc 0 ⟨198, 56, 198, 60⟩) 6 ⟨198, 56, 198, 66⟩) (.bin .Sub (.loc 1 ⟨198, 67, 198, 68⟩) (.num 1 ⟨198, 71, 198, 72⟩) ⟨198, 67, 198, 72⟩) ⟨198, 56, 198, 73⟩) .nil)) ⟨198, 21, 198, 36⟩ ⟨198, 21, 198, 74⟩) (.cons (.meth (.loc 0 ⟨198, 76, 198, 80⟩) "product_of" 252 (.cons (.loc 2 ⟨198, 92, 198, 96⟩) (.cons (.loc 2 ⟨198, 98, 198, 102⟩) .nil)) ⟨198, 76, 198, 91⟩ ⟨198, 76, 198, 103⟩) (.cons (.attr (.loc 0 ⟨198, 105, 198, 109⟩) 3 ⟨198, 105, 198, 111⟩) .nil))) ⟨198, 15, 198, 112⟩) ⟨198, 8, 198, 112⟩)
 (.cons (.asg (.loc 5 ⟨199, 8, 199, 13⟩) (.meth (.loc 0 ⟨199, 16, 199, 20⟩) "product_of" 252 (.cons (.meth (.loc 0 ⟨199, 32, 199, 36⟩) "product_of" 252 (.cons (.loc 3 ⟨199, 48, 199, 52⟩) (.cons (.loc 3 ⟨199, 54, 199, 58⟩) .nil)) ⟨199, 32, 199, 47⟩ ⟨199, 32, 199, 59⟩) (.cons (.attr (.loc 0 ⟨199, 61, 199, 65⟩) 1 ⟨199, 61, 199, 69⟩) .nil)) ⟨199, 16, 199, 31⟩ ⟨199, 16, 199, 70⟩) ⟨199, 8, 199, 70⟩)
 (.cons (.ret (.cmp .GtE (.call (.glo "s_compare" (.ref 170) ⟨200, 15, 200, 24⟩) (.cons (.meth (.loc 0 ⟨200, 25, 200, 29⟩) "product_of" 252 (.cons (.loc 4 ⟨200, 41, 200, 45⟩) (.cons (.attr (.loc 0 ⟨200, 47, 200, 51⟩) 2 ⟨200, 47, 200, 58⟩) .nil)) ⟨200, 25, 200, 40⟩ ⟨200, 25, 200, 59⟩) (.cons (.loc 5 ⟨200, 61, 200, 66⟩) .nil)) ⟨200, 15, 200, 67⟩) (.num 0 ⟨200, 71, 200, 72⟩) ⟨200, 15, 200, 72⟩) ⟨200, 8, 200, 72⟩)
 .nil))))

def nm_L_exchange : List Str := ["self", "k", "part", "last", "ahead", "now", "i", "here", "told"]
def bd_L_exchange : Sts :=
 (.cons (.asgs [(.idx (.attr (.loc 0 ⟨203, 8, 203, 12⟩) 0 ⟨203, 8, 203, 17⟩) (.bin .Sub (.loc 1 ⟨203, 18, 203, 19⟩) (.num 1 ⟨203, 22, 203, 23⟩) ⟨203, 18, 203, 23⟩) ⟨203, 8, 203, 24⟩), (.idx (.attr (.loc 0 ⟨203, 26, 203, 30⟩) 0 ⟨203, 26, 203, 35⟩) (.loc 1 ⟨203, 36, 203, 37⟩) ⟨203, 26, 203, 38⟩)] (.cons (.idx (.attr (.loc 0 ⟨203, 42, 203, 46⟩) 0 ⟨203, 42, 203, 51⟩) (.loc 1 ⟨203, 52, 203, 53⟩) ⟨203, 42, 203, 54⟩) (.cons (.idx (.attr (.loc 0 ⟨203, 56, 203, 60⟩) 0 ⟨203, 56, 203, 65⟩) (.bin .Sub (.loc 1 ⟨203, 66, 203, 67⟩) (.num 1 ⟨203, 70, 203, 71⟩) ⟨203, 66, 203, 71⟩) ⟨203, 56, 203, 72⟩) .nil)) ⟨203, 8, 203, 38⟩ ⟨203, 41, 203, 73⟩ ⟨203, 8, 203, 73⟩)
 (.cons (.asgs [(.loc 2 ⟨204, 8, 204, 12⟩), (.loc 3 ⟨204, 14, 204, 18⟩)] (.cons (.idx (.idx (.attr (.loc 0 ⟨204, 22, 204, 26⟩) 7 ⟨204, 22, 204, 32⟩) (.loc 1 ⟨204, 33, 204, 34⟩) ⟨204, 22, 204, 35⟩) (.bin .Sub (.loc 1 ⟨204, 36, 204, 37⟩) (.num 1 ⟨204, 40, 204, 41⟩) ⟨204, 36, 204, 41⟩) ⟨204, 22, 204, 42⟩) (.cons (.idx (.attr (.loc 0 ⟨204, 44, 204, 48⟩) 6 ⟨204, 44, 204, 54⟩) (.bin .Add (.loc 1 ⟨204, 55, 204, 56⟩) (.num 1 ⟨204, 59, 204, 60⟩) ⟨204, 55, 204, 60⟩) ⟨204, 44, 204, 61⟩) .nil)) ⟨204, 8, 204, 18⟩ ⟨204, 21, 204, 62⟩ ⟨204, 8, 204, 62⟩)
 (.cons (.asg (.loc 4 ⟨205, 8, 205, 13⟩) (.idx (.attr (.loc 0 ⟨205, 16, 205, 20⟩) 7 ⟨205, 16, 205, 26⟩) (.bin .Sub (.loc 1 ⟨205, 27, 205, 28⟩) (.num 1 ⟨205, 31, 205, 32⟩) ⟨205, 27, 205, 32⟩) ⟨205, 16, 205, 33⟩) ⟨205, 8, 205, 33⟩)
 (.cons (.asg (.idx (.attr (.loc 0 ⟨206, 8, 206, 12⟩) 7 ⟨206, 8, 206, 18⟩) (.bin .Sub (.loc 1 ⟨206, 19, 206, 20⟩) (.num 1 ⟨206, 23, 206, 24⟩) ⟨206, 19, 206, 24⟩) ⟨206, 8, 206, 25⟩) (.slTo (.idx (.attr (.loc 0 ⟨206, 28, 206, 32⟩) 7 ⟨206, 28, 206, 38⟩) (.loc 1 ⟨206, 39, 206, 40⟩) ⟨206, 28, 206, 41⟩) (.bin .Sub (.loc 1 ⟨206, 43, 206, 44⟩) (.num 1 ⟨206, 47, 206, 48⟩) ⟨206, 43, 206, 48⟩) ⟨206, 42, 206, 48⟩ ⟨206, 28, 206, 49⟩) ⟨206, 8, 206, 49⟩)
 (.cons (.asg (.idx (.attr (.loc 0 ⟨207, 8, 207, 12⟩) 7 ⟨207, 8, 207, 18⟩) (.loc 1 ⟨207, 19, 207, 20⟩) ⟨207, 8, 207, 21⟩) (.bin .Add (.loc 4 ⟨207, 24, 207, 29⟩) (.lst (.cons (.loc 2 ⟨207, 33, 207, 37⟩) .nil) ⟨207, 32, 207, 38⟩) ⟨207, 24, 207, 38⟩) ⟨207, 8, 207, 38⟩)
 (.cons (.asg (.loc 5 ⟨208, 8, 208, 11⟩) (.call (.glo "s_add" (.ref 177) ⟨208, 14, 208, 19⟩) (.cons (.meth (.loc 0 ⟨208, 20, 208, 24⟩) "product_of" 252 (.cons (.idx (.attr (.loc 0 ⟨208, 36, 208, 40⟩) 6 ⟨208, 36, 208, 46⟩) (.bin .Sub (.loc 1 ⟨208, 47, 208, 48⟩) (.num 1 ⟨208, 51, 208, 52⟩) ⟨208, 47, 208, 52⟩) ⟨208, 36, 208, 53⟩) (.cons (.loc 3 ⟨208, 55, 208, 59⟩) .nil)) ⟨208, 20, 208, 35⟩ ⟨208, 20, 208, 60⟩) (.cons (.meth (.loc 0 ⟨208, 62, 208, 66⟩) "product_of" 252 (.cons (.loc 2 ⟨208, 78, 208, 82⟩) (.cons (.loc 2 ⟨208, 84, 208, 88⟩) .nil)) ⟨208, 62, 208, 77⟩ ⟨208, 62, 208, 89⟩) (.cons (.attr (.loc 0 ⟨208, 91, 208, 95⟩) 3 ⟨208, 91, 208, 97⟩) .nil))) ⟨208, 14, 208, 98⟩) ⟨208, 8, 208, 98⟩)
 (.cons (.asg (.loc 5 ⟨209, 8, 209, 11⟩) (.meth (.loc 0 ⟨209, 14, 209, 18⟩) "exact" 259 (.cons (.loc 5 ⟨209, 25, 209, 28⟩) (.cons (.idx (.attr (.loc 0 ⟨209, 30, 209, 34⟩) 6 ⟨209, 30, 209, 40⟩) (.loc 1 ⟨209, 41, 209, 42⟩) ⟨209, 30, 209, 43⟩) .nil)) ⟨209, 14, 209, 24⟩ ⟨209, 14, 209, 44⟩) ⟨209, 8, 209, 44⟩)
 (.cons (.forr (.one 6 ⟨210, 12, 210, 13⟩) (.range2 (.bin .Add (.loc 1 ⟨210, 23, 210, 24⟩) (.num 1 ⟨210, 27, 210, 28⟩) ⟨210, 23, 210, 28⟩) (.bif .len (.cons (.attr (.loc 0 ⟨210, 34, 210, 38⟩) 7 ⟨210, 34, 210, 44⟩) .nil) ⟨210, 30, 210, 33⟩ ⟨210, 30, 210, 45⟩) ⟨210, 17, 210, 22⟩ ⟨210, 17, 210, 46⟩)
  (.cons (.asg (.loc 7 ⟨211, 12, 211, 16⟩) (.idx (.idx (.attr (.loc 0 ⟨211, 19, 211, 23⟩) 7 ⟨211, 19, 211, 29⟩) (.loc 6 ⟨211, 30, 211, 31⟩) ⟨211, 19, 211, 32⟩) (.loc 1 ⟨211, 33, 211, 34⟩) ⟨211, 19, 211, 35⟩) ⟨211, 12, 211, 35⟩)
 (.cons (.asg (.idx (.idx (.attr (.loc 0 ⟨212, 12, 212, 16⟩) 7 ⟨212, 12, 212, 22⟩) (.loc 6 ⟨212, 23, 212, 24⟩) ⟨212, 12, 212, 25⟩) (.loc 1 ⟨212, 26, 212, 27⟩) ⟨212, 12, 212, 28⟩) (.meth (.loc 0 ⟨212, 31, 212, 35⟩) "exact" 259 (.cons (.meth (.loc 0 ⟨212, 42, 212, 46⟩) "crossed" 266 (.cons (.loc 3 ⟨212, 55, 212, 59⟩) (.cons (.idx (.idx (.attr (.loc 0 ⟨212, 61, 212, 65⟩) 7 ⟨212, 61, 212, 71⟩) (.loc 6 ⟨212, 72, 212, 73⟩) ⟨212, 61, 212, 74⟩) (.bin .Sub (.loc 1 ⟨212, 75, 212, 76⟩) (.num 1 ⟨212, 79, 212, 80⟩) ⟨212, 75, 212, 80⟩) ⟨212, 61, 212, 81⟩) (.cons (.loc 2 ⟨212, 83, 212, 87⟩) (.cons (.loc 7 ⟨212, 89, 212, 93⟩) .nil)))) ⟨212, 42, 212, 54⟩ ⟨212, 42, 212, 94⟩) (.cons (.idx (.attr (.loc 0 ⟨212, 96, 212, 100⟩) 6 ⟨212, 96, 212, 106⟩) (.loc 1 ⟨212, 107, 212, 108⟩) ⟨212, 96, 212, 109⟩) .nil)) ⟨212, 31, 212, 41⟩ ⟨212, 31, 212, 110⟩) ⟨212, 12, 212, 110⟩)
 (.cons (.asg (.loc 8 ⟨213, 12, 213, 16⟩) (.call (.glo "s_add" (.ref 177) ⟨213, 19, 213, 24⟩) (.cons (.meth (.loc 0 ⟨213, 25, 213, 29⟩) "product_of" 252 (.cons (.loc 5 ⟨213, 41, 213, 44⟩) (.cons (.loc 7 ⟨213, 46, 213, 50⟩) .nil)) ⟨213, 25, 213, 40⟩ ⟨213, 25, 213, 51⟩) (.cons (.meth (.loc 0 ⟨213, 53, 213, 57⟩) "product_of" 252 (.cons (.loc 2 ⟨213, 69, 213, 73⟩) (.cons (.idx (.idx (.attr (.loc 0 ⟨213, 75, 213, 79⟩) 7 ⟨213, 75, 213, 85⟩) (.loc 6 ⟨213, 86, 213, 87⟩) ⟨213, 75, 213, 88⟩) (.loc 1 ⟨213, 89, 213, 90⟩) ⟨213, 75, 213, 91⟩) .nil)) ⟨213, 53, 213, 68⟩ ⟨213, 53, 213, 92⟩) (.cons (.attr (.loc 0 ⟨213, 94, 213, 98⟩) 3 ⟨213, 94, 213, 100⟩) .nil))) ⟨213, 19, 213, 101⟩) ⟨213, 12, 213, 101⟩)
 (.cons (.asg (.idx (.idx (.attr (.loc 0 ⟨214, 12, 214, 16⟩) 7 ⟨214, 12, 214, 22⟩) (.loc 6 ⟨214, 23, 214, 24⟩) ⟨214, 12, 214, 25⟩) (.bin .Sub (.loc 1 ⟨214, 26, 214, 27⟩) (.num 1 ⟨214, 30, 214, 31⟩) ⟨214, 26, 214, 31⟩) ⟨214, 12, 214, 32⟩) (.meth (.loc 0 ⟨214, 35, 214, 39⟩) "exact" 259 (.cons (.loc 8 ⟨214, 46, 214, 50⟩) (.cons (.loc 3 ⟨214, 52, 214, 56⟩) .nil)) ⟨214, 35, 214, 45⟩ ⟨214, 35, 214, 57⟩) ⟨214, 12, 214, 57⟩)
 .nil)))) ⟨210, 8, 214, 57⟩)
 (.cons (.asg (.idx (.attr (.loc 0 ⟨215, 8, 215, 12⟩) 6 ⟨215, 8, 215, 18⟩) (.loc 1 ⟨215, 19, 215, 20⟩) ⟨215, 8, 215, 21⟩) (.loc 5 ⟨215, 24, 215, 27⟩) ⟨215, 8, 215, 27⟩)
 .nil)))))))))

def nm_L_run : List Str := ["self", "k", "j"]
def bd_L_run : Sts :=
 (.cons (.asg (.loc 1 ⟨218, 8, 218, 9⟩) (.num 0 ⟨218, 12, 218, 13⟩) ⟨218, 8, 218, 13⟩)
 (.cons (.whil (.cmp .Lt (.loc 1 ⟨219, 14, 219, 15⟩) (.bif .len (.cons (.attr (.loc 0 ⟨219, 22, 219, 26⟩) 0 ⟨219, 22, 219, 31⟩) .nil) ⟨219, 18, 219, 21⟩ ⟨219, 18, 219, 32⟩) ⟨219, 14, 219, 32⟩)
  (.cons (.cond (.cmp .Eq (.loc 1 ⟨220, 15, 220, 16⟩) (.bif .len (.cons (.attr (.loc 0 ⟨220, 24, 220, 28⟩) 7 ⟨220, 24, 220, 34⟩) .nil) ⟨220, 20, 220, 23⟩ ⟨220, 20, 220, 35⟩) ⟨220, 15, 220, 35⟩)
  (.cons (.expr (.meth (.loc 0 ⟨221, 16, 221, 20⟩) "take_in" 273 (.cons (.loc 1 ⟨221, 29, 221, 30⟩) .nil) ⟨221, 16, 221, 28⟩ ⟨221, 16, 221, 31⟩) ⟨221, 16, 221, 31⟩)
 .nil)
  .nil ⟨220, 12, 221, 31⟩)
 (.cons (.cond (.cmp .Gt (.loc 1 ⟨222, 15, 222, 16⟩) (.num 0 ⟨222, 19, 222, 20⟩) ⟨222, 15, 222, 20⟩)
  (.cons (.expr (.meth (.loc 0 ⟨223, 16, 223, 20⟩) "shorten" 280 (.cons (.loc 1 ⟨223, 29, 223, 30⟩) (.cons (.bin .Sub (.loc 1 ⟨223, 32, 223, 33⟩) (.num 1 ⟨223, 36, 223, 37⟩) ⟨223, 32, 223, 37⟩) .nil)) ⟨223, 16, 223, 28⟩ ⟨223, 16, 223, 38⟩) ⟨223, 16, 223, 38⟩)
 .nil)
  .nil ⟨222, 12, 223, 38⟩)
 (.cons (.cond (.conj (.cmp .Gt (.loc 1 ⟨224, 15, 224, 16⟩) (.num 0 ⟨224, 19, 224, 20⟩) ⟨224, 15, 224, 20⟩) (.not (.val (.meth (.loc 0 ⟨224, 30, 224, 34⟩) "is_upright" 287 (.cons (.loc 1 ⟨224, 46, 224, 47⟩) .nil) ⟨224, 30, 224, 45⟩ ⟨224, 30, 224, 48⟩)) ⟨224, 26, 224, 48⟩) ⟨224, 15, 224, 49⟩)
  (.cons (.expr (.meth (.loc 0 ⟨225, 16, 225, 20⟩) "exchange" 294 (.cons (.loc 1 ⟨225, 30, 225, 31⟩) .nil) ⟨225, 16, 225, 29⟩ ⟨225, 16, 225, 32⟩) ⟨225, 16, 225, 32⟩)
 (.cons (.asg (.loc 1 ⟨226, 16, 226, 17⟩) (.bif .max (.cons (.num 1 ⟨226, 24, 226, 25⟩) (.cons (.bin .Sub (.loc 1 ⟨226, 27, 226, 28⟩) (.num 1 ⟨226, 31, 226, 32⟩) ⟨226, 27, 226, 32⟩) .nil)) ⟨226, 20, 226, 23⟩ ⟨226, 20, 226, 33⟩) ⟨226, 16, 226, 33⟩)
 .nil))
  (.cons (.forr (.one 2 ⟨228, 20, 228, 21⟩) (.range3 (.bin .Sub (.loc 1 ⟨228, 31, 228, 32⟩) (.num 2 ⟨228, 35, 228, 36⟩) ⟨228, 31, 228, 36⟩) (.neg (.num 1 ⟨228, 39, 228, 40⟩) ⟨228, 38, 228, 40⟩) (.neg (.num 1 ⟨228, 43, 228, 44⟩) ⟨228, 42, 228, 44⟩) ⟨228, 25, 228, 30⟩ ⟨228, 25, 228, 45⟩)
  (.cons (.expr (.meth (.loc 0 ⟨229, 20, 229, 24⟩) "shorten" 280 (.cons (.loc 1 ⟨229, 33, 229, 34⟩) (.cons (.loc 2 ⟨229, 36, 229, 37⟩) .nil)) ⟨229, 20, 229, 32⟩ ⟨229, 20, 229, 38⟩) ⟨229, 20, 229, 38⟩)
 .nil) ⟨228, 16, 229, 38⟩)
 (.cons (.aug 1 ⟨230, 16, 230, 17⟩ .Add (.num 1 ⟨230, 21, 230, 22⟩) ⟨230, 16, 230, 22⟩)
 .nil)) ⟨224, 12, 230, 22⟩)
 .nil))) ⟨219, 8, 230, 22⟩)
 .nil))

def nm_mul_school : List Str := ["a", "b", "w", "found", "mask", "at", "limb", "carry", "spot", "other"]
def bd_mul_school : Sts :=
 (.cons (.asgs [(.loc 3 ⟨233, 4, 233, 9⟩), (.loc 4 ⟨233, 11, 233, 15⟩)] (.cons (.bin .Mult (.lst (.cons (.num 0 ⟨233, 20, 233, 21⟩) .nil) ⟨233, 19, 233, 22⟩) (.bin .Add (.bif .len (.cons (.loc 0 ⟨233, 30, 233, 31⟩) .nil) ⟨233, 26, 233, 29⟩ ⟨233, 26, 233, 32⟩) (.bif .len (.cons (.loc 1 ⟨233, 39, 233, 40⟩) .nil) ⟨233, 35, 233, 38⟩ ⟨233, 35, 233, 41⟩) ⟨233, 26, 233, 41⟩) ⟨233, 19, 233, 42⟩) (.cons (.bin .Sub (.bin .LShift (.num 1 ⟨233, 45, 233, 46⟩) (.loc 2 ⟨233, 50, 233, 51⟩) ⟨233, 45, 233, 51⟩) (.num 1 ⟨233, 55, 233, 56⟩) ⟨233, 44, 233, 56⟩) .nil)) ⟨233, 4, 233, 15⟩ ⟨233, 18, 233, 57⟩ ⟨233, 4, 233, 57⟩)
 (.cons (.forr (.two 5 ⟨234, 8, 234, 10⟩ 6 ⟨234, 12, 234, 16⟩ ⟨234, 8, 234, 16⟩) (.enum (.loc 0 ⟨234, 30, 234, 31⟩) ⟨234, 20, 234, 29⟩ ⟨234, 20, 234, 32⟩)
  (.cons (.asg (.loc 7 ⟨235, 8, 235, 13⟩) (.num 0 ⟨235, 16, 235, 17⟩) ⟨235, 8, 235, 17⟩)
 (.cons (.forr (.two 8 ⟨236, 12, 236, 16⟩ 9 ⟨236, 18, 236, 23⟩ ⟨236, 12, 236, 23⟩) (.enum (.loc 1 ⟨236, 37, 236, 38⟩) ⟨236, 27, 236, 36⟩ ⟨236, 27, 236, 39⟩)
  (.cons (.aug 7 ⟨237, 12, 237, 17⟩ .Add (.bin .Add (.idx (.loc 3 ⟨237, 21, 237, 26⟩) (.bin .Add (.loc 5 ⟨237, 27, 237, 29⟩) (.loc 8 ⟨237, 32, 237, 36⟩) ⟨237, 27, 237, 36⟩) ⟨237, 21, 237, 37⟩) (.bin .Mult (.loc 6 ⟨237, 40, 237, 44⟩) (.loc 9 ⟨237, 47, 237, 52⟩) ⟨237, 40, 237, 52⟩) ⟨237, 21, 237, 52⟩) ⟨237, 12, 237, 52⟩)
 (.cons (.asg (.idx (.loc 3 ⟨238, 12, 238, 17⟩) (.bin .Add (.loc 5 ⟨238, 18, 238, 20⟩) (.loc 8 ⟨238, 23, 238, 27⟩) ⟨238, 18, 238, 27⟩) ⟨238, 12, 238, 28⟩) (.bin .BitAnd (.loc 7 ⟨238, 31, 238, 36⟩) (.loc 4 ⟨238, 39, 238, 43⟩) ⟨238, 31, 238, 43⟩) ⟨238, 12, 238, 43⟩)
 (.cons (.aug 7 ⟨239, 12, 239, 17⟩ .RShift (.loc 2 ⟨239, 22, 239, 23⟩) ⟨239, 12, 239, 23⟩)
 .nil))) ⟨236, 8, 239, 23⟩)
 (.cons (.asg (.idx (.loc 3 ⟨240, 8, 240, 13⟩) (.bin .Add (.loc 5 ⟨240, 14, 240, 16⟩) (.bif .len (.cons (.loc 1 ⟨240, 23, 240, 24⟩) .nil) ⟨240, 19, 240, 22⟩ ⟨240, 19, 240, 25⟩) ⟨240, 14, 240, 25⟩) ⟨240, 8, 240, 26⟩) (.loc 7 ⟨240, 29, 240, 34⟩) ⟨240, 8, 240, 34⟩)
 .nil))) ⟨234, 4, 240, 34⟩)
 (.cons (.ret (.call (.glo "normal" (.ref 58) ⟨241, 11, 241, 17⟩) (.cons (.loc 3 ⟨241, 18, 241, 23⟩) .nil) ⟨241, 11, 241, 24⟩) ⟨241, 4, 241, 24⟩)
 .nil)))

def nm_divrem_small : List Str := ["a", "b", "w", "quotient", "rest"]
def bd_divrem_small : Sts :=
 (.cons (.unp [(.loc 3 ⟨243, 4, 243, 12⟩), (.loc 4 ⟨243, 14, 243, 18⟩)] (.call (.glo "divrem_limb" (.ref 100) ⟨243, 21, 243, 32⟩) (.cons (.loc 0 ⟨243, 33, 243, 34⟩) (.cons (.idx (.loc 1 ⟨243, 36, 243, 37⟩) (.num 0 ⟨243, 38, 243, 39⟩) ⟨243, 36, 243, 40⟩) (.cons (.loc 2 ⟨243, 42, 243, 43⟩) .nil))) ⟨243, 21, 243, 44⟩) ⟨243, 4, 243, 18⟩ ⟨243, 4, 243, 44⟩)
 (.cons (.ret (.tup (.cons (.loc 3 ⟨244, 12, 244, 20⟩) (.cons (.ite (.cmp .Gt (.loc 4 ⟨244, 32, 244, 36⟩) (.num 0 ⟨244, 39, 244, 40⟩) ⟨244, 32, 244, 40⟩) (.lst (.cons (.loc 4 ⟨244, 23, 244, 27⟩) .nil) ⟨244, 22, 244, 28⟩) (.lst .nil ⟨244, 46, 244, 48⟩) ⟨244, 22, 244, 48⟩) .nil)) ⟨244, 11, 244, 49⟩) ⟨244, 4, 244, 49⟩)
 .nil))

def nm_guessed_limb : List Str := ["top", "first", "second", "w", "high", "base", "limb", "rest"]
def bd_guessed_limb : Sts :=
 (.cons (.asgs [(.loc 4 ⟨246, 4, 246, 8⟩), (.loc 5 ⟨246, 10, 246, 14⟩)] (.cons (.bin .BitOr (.bin .LShift (.idx (.loc 0 ⟨246, 18, 246, 21⟩) (.num 2 ⟨246, 22, 246, 23⟩) ⟨246, 18, 246, 24⟩) (.loc 3 ⟨246, 28, 246, 29⟩) ⟨246, 18, 246, 29⟩) (.idx (.loc 0 ⟨246, 32, 246, 35⟩) (.num 1 ⟨246, 36, 246, 37⟩) ⟨246, 32, 246, 38⟩) ⟨246, 18, 246, 38⟩) (.cons (.bin .LShift (.num 1 ⟨246, 40, 246, 41⟩) (.loc 3 ⟨246, 45, 246, 46⟩) ⟨246, 40, 246, 46⟩) .nil)) ⟨246, 4, 246, 14⟩ ⟨246, 17, 246, 47⟩ ⟨246, 4, 246, 47⟩)
 (.cons (.asg (.loc 6 ⟨247, 4, 247, 8⟩) (.bif .min (.cons (.bin .FloorDiv (.loc 4 ⟨247, 15, 247, 19⟩) (.loc 1 ⟨247, 23, 247, 28⟩) ⟨247, 15, 247, 28⟩) (.cons (.bin .Sub (.loc 5 ⟨247, 30, 247, 34⟩) (.num 1 ⟨247, 37, 247, 38⟩) ⟨247, 30, 247, 38⟩) .nil)) ⟨247, 11, 247, 14⟩ ⟨247, 11, 247, 39⟩) ⟨247, 4, 247, 39⟩)
 (.cons (.asg (.loc 7 ⟨248, 4, 248, 8⟩) (.bin .Sub (.loc 4 ⟨248, 11, 248, 15⟩) (.bin .Mult (.loc 6 ⟨248, 18, 248, 22⟩) (.loc 1 ⟨248, 25, 248, 30⟩) ⟨248, 18, 248, 30⟩) ⟨248, 11, 248, 30⟩) ⟨248, 4, 248, 30⟩)
 (.cons (.whil (.conj (.cmp .Lt (.loc 7 ⟨249, 10, 249, 14⟩) (.loc 5 ⟨249, 17, 249, 21⟩) ⟨249, 10, 249, 21⟩) (.cmp .Gt (.bin .Mult (.loc 6 ⟨249, 26, 249, 30⟩) (.loc 2 ⟨249, 33, 249, 39⟩) ⟨249, 26, 249, 39⟩) (.bin .BitOr (.bin .LShift (.loc 7 ⟨249, 42, 249, 46⟩) (.loc 3 ⟨249, 50, 249, 51⟩) ⟨249, 42, 249, 51⟩) (.idx (.loc 0 ⟨249, 54, 249, 57⟩) (.num 0 ⟨249, 58, 249, 59⟩) ⟨249, 54, 249, 60⟩) ⟨249, 42, 249, 60⟩) ⟨249, 26, 249, 60⟩) ⟨249, 10, 249, 60⟩)
  (.cons (.aug 6 ⟨250, 8, 250, 12⟩ .Sub (.num 1 ⟨250, 16, 250, 17⟩) ⟨250, 8, 250, 17⟩)
 (.cons (.aug 7 ⟨251, 8, 251, 12⟩ .Add (.loc 1 ⟨251, 16, 251, 21⟩) ⟨251, 8, 251, 21⟩)
 .nil)) ⟨249, 4, 251, 21⟩)
 (.cons (.ret (.loc 6 ⟨252, 11, 252, 15⟩) ⟨252, 4, 252, 15⟩)
 .nil)))))

def nm_take_away : List Str := ["rest", "b", "limb", "at", "w", "carry", "base", "spot", "other", "here"]
def bd_take_away : Sts :=
 (.cons (.asgs [(.loc 5 ⟨254, 4, 254, 9⟩), (.loc 6 ⟨254, 11, 254, 15⟩)] (.cons (.num 0 ⟨254, 19, 254, 20⟩) (.cons (.bin .LShift (.num 1 ⟨254, 22, 254, 23⟩) (.loc 4 ⟨254, 27, 254, 28⟩) ⟨254, 22, 254, 28⟩) .nil)) ⟨254, 4, 254, 15⟩ ⟨254, 18, 254, 29⟩ ⟨254, 4, 254, 29⟩)
 (.cons (.forr (.two 7 ⟨255, 8, 255, 12⟩ 8 ⟨255, 14, 255, 19⟩ ⟨255, 8, 255, 19⟩) (.enum (.loc 1 ⟨255, 33, 255, 34⟩) ⟨255, 23, 255, 32⟩ ⟨255, 23, 255, 35⟩)
  (.cons (.asg (.loc 9 ⟨256, 8, 256, 12⟩) (.bin .Sub (.idx (.loc 0 ⟨256, 15, 256, 19⟩) (.bin .Add (.loc 3 ⟨256, 20, 256, 22⟩) (.loc 7 ⟨256, 25, 256, 29⟩) ⟨256, 20, 256, 29⟩) ⟨256, 15, 256, 30⟩) (.bin .Mod (.bin .Add (.bin .Mult (.loc 2 ⟨256, 34, 256, 38⟩) (.loc 8 ⟨256, 41, 256, 46⟩) ⟨256, 34, 256, 46⟩) (.loc 5 ⟨256, 49, 256, 54⟩) ⟨256, 34, 256, 54⟩) (.loc 6 ⟨256, 58, 256, 62⟩) ⟨256, 33, 256, 62⟩) ⟨256, 15, 256, 62⟩) ⟨256, 8, 256, 62⟩)
 (.cons (.asg (.loc 5 ⟨257, 8, 257, 13⟩) (.bin .Add (.bin .FloorDiv (.bin .Add (.bin .Mult (.loc 2 ⟨257, 17, 257, 21⟩) (.loc 8 ⟨257, 24, 257, 29⟩) ⟨257, 17, 257, 29⟩) (.loc 5 ⟨257, 32, 257, 37⟩) ⟨257, 17, 257, 37⟩) (.loc 6 ⟨257, 42, 257, 46⟩) ⟨257, 16, 257, 46⟩) (.ite (.cmp .Lt (.loc 9 ⟨257, 55, 257, 59⟩) (.num 0 ⟨257, 62, 257, 63⟩) ⟨257, 55, 257, 63⟩) (.num 1 ⟨257, 50, 257, 51⟩) (.num 0 ⟨257, 69, 257, 70⟩) ⟨257, 50, 257, 70⟩) ⟨257, 16, 257, 71⟩) ⟨257, 8, 257, 71⟩)
 (.cons (.asg (.idx (.loc 0 ⟨258, 8, 258, 12⟩) (.bin .Add (.loc 3 ⟨258, 13, 258, 15⟩) (.loc 7 ⟨258, 18, 258, 22⟩) ⟨258, 13, 258, 22⟩) ⟨258, 8, 258, 23⟩) (.ite (.cmp .Lt (.loc 9 ⟨258, 41, 258, 45⟩) (.num 0 ⟨258, 48, 258, 49⟩) ⟨258, 41, 258, 49⟩) (.bin .Add (.loc 9 ⟨258, 26, 258, 30⟩) (.loc 6 ⟨258, 33, 258, 37⟩) ⟨258, 26, 258, 37⟩) (.loc 9 ⟨258, 55, 258, 59⟩) ⟨258, 26, 258, 59⟩) ⟨258, 8, 258, 59⟩)
 .nil))) ⟨255, 4, 258, 59⟩)
 (.cons (.asg (.loc 9 ⟨259, 4, 259, 8⟩) (.bin .Sub (.idx (.loc 0 ⟨259, 11, 259, 15⟩) (.bin .Add (.loc 3 ⟨259, 16, 259, 18⟩) (.bif .len (.cons (.loc 1 ⟨259, 25, 259, 26⟩) .nil) ⟨259, 21, 259, 24⟩ ⟨259, 21, 259, 27⟩) ⟨259, 16, 259, 27⟩) ⟨259, 11, 259, 28⟩) (.loc 5 ⟨259, 31, 259, 36⟩) ⟨259, 11, 259, 36⟩) ⟨259, 4, 259, 36⟩)
 (.cons (.asg (.idx (.loc 0 ⟨260, 4, 260, 8⟩) (.bin .Add (.loc 3 ⟨260, 9, 260, 11⟩) (.bif .len (.cons (.loc 1 ⟨260, 18, 260, 19⟩) .nil) ⟨260, 14, 260, 17⟩ ⟨260, 14, 260, 20⟩) ⟨260, 9, 260, 20⟩) ⟨260, 4, 260, 21⟩) (.ite (.cmp .Lt (.loc 9 ⟨260, 39, 260, 43⟩) (.num 0 ⟨260, 46, 260, 47⟩) ⟨260, 39, 260, 47⟩) (.bin .Add (.loc 9 ⟨260, 24, 260, 28⟩) (.loc 6 ⟨260, 31, 260, 35⟩) ⟨260, 24, 260, 35⟩) (.loc 9 ⟨260, 53, 260, 57⟩) ⟨260, 24, 260, 57⟩) ⟨260, 4, 260, 57⟩)
 (.cons (.ret (.ite (.cmp .Lt (.loc 9 ⟨261, 16, 261, 20⟩) (.num 0 ⟨261, 23, 261, 24⟩) ⟨261, 16, 261, 24⟩) (.num 1 ⟨261, 11, 261, 12⟩) (.num 0 ⟨261, 30, 261, 31⟩) ⟨261, 11, 261, 31⟩) ⟨261, 4, 261, 31⟩)
 .nil)))))

def nm_put_back : List Str := ["rest", "b", "at", "w", "carry", "mask", "spot", "other"]
def bd_put_back : Sts :=
 (.cons (.asgs [(.loc 4 ⟨263, 4, 263, 9⟩), (.loc 5 ⟨263, 11, 263, 15⟩)] (.cons (.num 0 ⟨263, 19, 263, 20⟩) (.cons (.bin .Sub (.bin .LShift (.num 1 ⟨263, 23, 263, 24⟩) (.loc 3 ⟨263, 28, 263, 29⟩) ⟨263, 23, 263, 29⟩) (.num 1 ⟨263, 33, 263, 34⟩) ⟨263, 22, 263, 34⟩) .nil)) ⟨263, 4, 263, 15⟩ ⟨263, 18, 263, 35⟩ ⟨263, 4, 263, 35⟩)
 (.cons (.forr (.two 6 ⟨264, 8, 264, 12⟩ 7 ⟨264, 14, 264, 19⟩ ⟨264, 8, 264, 19⟩) (.enum (.loc 1 ⟨264, 33, 264, 34⟩) ⟨264, 23, 264, 32⟩ ⟨264, 23, 264, 35⟩)
  (.cons (.aug 4 ⟨265, 8, 265, 13⟩ .Add (.bin .Add (.idx (.loc 0 ⟨265, 17, 265, 21⟩) (.bin .Add (.loc 2 ⟨265, 22, 265, 24⟩) (.loc 6 ⟨265, 27, 265, 31⟩) ⟨265, 22, 265, 31⟩) ⟨265, 17, 265, 32⟩) (.loc 7 ⟨265, 35, 265, 40⟩) ⟨265, 17, 265, 40⟩) ⟨265, 8, 265, 40⟩)
 (.cons (.asg (.idx (.loc 0 ⟨266, 8, 266, 12⟩) (.bin .Add (.loc 2 ⟨266, 13, 266, 15⟩) (.loc 6 ⟨266, 18, 266, 22⟩) ⟨266, 13, 266, 22⟩) ⟨266, 8, 266, 23⟩) (.bin .BitAnd (.loc 4 ⟨266, 26, 266, 31⟩) (.loc 5 ⟨266, 34, 266, 38⟩) ⟨266, 26, 266, 38⟩) ⟨266, 8, 266, 38⟩)
 (.cons (.aug 4 ⟨267, 8, 267, 13⟩ .RShift (.loc 3 ⟨267, 18, 267, 19⟩) ⟨267, 8, 267, 19⟩)
 .nil))) ⟨264, 4, 267, 19⟩)
 (.cons (.asg (.idx (.loc 0 ⟨268, 4, 268, 8⟩) (.bin .Add (.loc 2 ⟨268, 9, 268, 11⟩) (.bif .len (.cons (.loc 1 ⟨268, 18, 268, 19⟩) .nil) ⟨268, 14, 268, 17⟩ ⟨268, 14, 268, 20⟩) ⟨268, 9, 268, 20⟩) ⟨268, 4, 268, 21⟩) (.bin .BitAnd (.bin .Add (.idx (.loc 0 ⟨268, 24, 268, 28⟩) (.bin .Add (.loc 2 ⟨268, 29, 268, 31⟩) (.bif .len (.cons (.loc 1 ⟨268, 38, 268, 39⟩) .nil) ⟨268, 34, 268, 37⟩ ⟨268, 34, 268, 40⟩) ⟨268, 29, 268, 40⟩) ⟨268, 24, 268, 41⟩) (.loc 4 ⟨268, 44, 268, 49⟩) ⟨268, 24, 268, 49⟩) (.loc 5 ⟨268, 52, 268, 56⟩) ⟨268, 24, 268, 56⟩) ⟨268, 4, 268, 56⟩)
 .nil)))

def nm_divide_rows : List Str := ["rest", "b", "w", "size", "quotient", "at", "limb"]
def bd_divide_rows : Sts :=
 (.cons (.asg (.loc 3 ⟨270, 4, 270, 8⟩) (.bif .len (.cons (.loc 1 ⟨270, 15, 270, 16⟩) .nil) ⟨270, 11, 270, 14⟩ ⟨270, 11, 270, 17⟩) ⟨270, 4, 270, 17⟩)
 (.cons (.asg (.loc 4 ⟨271, 4, 271, 12⟩) (.bin .Mult (.lst (.cons (.num 0 ⟨271, 16, 271, 17⟩) .nil) ⟨271, 15, 271, 18⟩) (.bin .Sub (.bif .len (.cons (.loc 0 ⟨271, 26, 271, 30⟩) .nil) ⟨271, 22, 271, 25⟩ ⟨271, 22, 271, 31⟩) (.loc 3 ⟨271, 34, 271, 38⟩) ⟨271, 22, 271, 38⟩) ⟨271, 15, 271, 39⟩) ⟨271, 4, 271, 39⟩)
 (.cons (.forr (.one 5 ⟨272, 8, 272, 10⟩) (.range3 (.bin .Sub (.bin .Sub (.bif .len (.cons (.loc 0 ⟨272, 24, 272, 28⟩) .nil) ⟨272, 20, 272, 23⟩ ⟨272, 20, 272, 29⟩) (.loc 3 ⟨272, 32, 272, 36⟩) ⟨272, 20, 272, 36⟩) (.num 1 ⟨272, 39, 272, 40⟩) ⟨272, 20, 272, 40⟩) (.neg (.num 1 ⟨272, 43, 272, 44⟩) ⟨272, 42, 272, 44⟩) (.neg (.num 1 ⟨272, 47, 272, 48⟩) ⟨272, 46, 272, 48⟩) ⟨272, 14, 272, 19⟩ ⟨272, 14, 272, 49⟩)
  (.cons (.asg (.loc 6 ⟨273, 8, 273, 12⟩) (.call (.glo "guessed_limb" (.ref 329) ⟨273, 15, 273, 27⟩) (.cons (.slBoth (.loc 0 ⟨273, 28, 273, 32⟩) (.bin .Sub (.bin .Add (.loc 5 ⟨273, 33, 273, 35⟩) (.loc 3 ⟨273, 38, 273, 42⟩) ⟨273, 33, 273, 42⟩) (.num 2 ⟨273, 45, 273, 46⟩) ⟨273, 33, 273, 46⟩) (.bin .Add (.bin .Add (.loc 5 ⟨273, 47, 273, 49⟩) (.loc 3 ⟨273, 52, 273, 56⟩) ⟨273, 47, 273, 56⟩) (.num 1 ⟨273, 59, 273, 60⟩) ⟨273, 47, 273, 60⟩) ⟨273, 33, 273, 60⟩ ⟨273, 28, 273, 61⟩) (.cons (.idx (.loc 1 ⟨273, 63, 273, 64⟩) (.bin .Sub (.loc 3 ⟨273, 65, 273, 69⟩) (.num 1 ⟨273, 72, 273, 73⟩) ⟨273, 65, 273, 73⟩) ⟨273, 63, 273, 74⟩) (.cons (.idx (.loc 1 ⟨273, 76, 273, 77⟩) (.bin .Sub (.loc 3 ⟨273, 78, 273, 82⟩) (.num 2 ⟨273, 85, 273, 86⟩) ⟨273, 78, 273, 86⟩) ⟨273, 76, 273, 87⟩) (.cons (.loc 2 ⟨273, 89, 273, 90⟩) .nil)))) ⟨273, 15, 273, 91⟩) ⟨273, 8, 273, 91⟩)
 (.cons (.cond (.cmp .Eq (.call (.glo "take_away" (.ref 336) ⟨274, 11, 274, 20⟩) (.cons (.loc 0 ⟨274, 21, 274, 25⟩) (.cons (.loc 1 ⟨274, 27, 274, 28⟩) (.cons (.loc 6 ⟨274, 30, 274, 34⟩) (.cons (.loc 5 ⟨274, 36, 274, 38⟩) (.cons (.loc 2 ⟨274, 40, 274, 41⟩) .nil))))) ⟨274, 11, 274, 42⟩) (.num 1 ⟨274, 46, 274, 47⟩) ⟨274, 11, 274, 47⟩)
  (.cons (.aug 6 ⟨275, 12, 275, 16⟩ .Sub (.num 1 ⟨275, 20, 275, 21⟩) ⟨275, 12, 275, 21⟩)
 (.cons (.expr (.call (.glo "put_back" (.ref 343) ⟨276, 12, 276, 20⟩) (.cons (.loc 0 ⟨276, 21, 276, 25⟩) (.cons (.loc 1 ⟨276, 27, 276, 28⟩) (.cons (.loc 5 ⟨276, 30, 276, 32⟩) (.cons (.loc 2 ⟨276, 34, 276, 35⟩) .nil)))) ⟨276, 12, 276, 36⟩) ⟨276, 12, 276, 36⟩)
 .nil))
  .nil ⟨274, 8, 276, 36⟩)
 (.cons (.asg (.idx (.loc 4 ⟨277, 8, 277, 16⟩) (.loc 5 ⟨277, 17, 277, 19⟩) ⟨277, 8, 277, 20⟩) (.loc 6 ⟨277, 23, 277, 27⟩) ⟨277, 8, 277, 27⟩)
 .nil))) ⟨272, 4, 277, 27⟩)
 (.cons (.ret (.loc 4 ⟨278, 11, 278, 19⟩) ⟨278, 4, 278, 19⟩)
 .nil))))

def nm_divrem_school : List Str := ["a", "b", "w", "shift", "divisor", "rest", "quotient"]
def bd_divrem_school : Sts :=
 (.cons (.cond (.cmp .Eq (.bif .len (.cons (.loc 1 ⟨280, 11, 280, 12⟩) .nil) ⟨280, 7, 280, 10⟩ ⟨280, 7, 280, 13⟩) (.num 0 ⟨280, 17, 280, 18⟩) ⟨280, 7, 280, 18⟩)
  (.cons (.dead (.Raise (some (.Call (.Name "DivisionByZero" ⟨281, 14, 281, 28⟩) [.Constant (.str "division by nought") 0 ⟨281, 29, 281, 49⟩] [] ⟨281, 14, 281, 50⟩)) none ⟨281, 8, 281, 50⟩))
 .nil)
  .nil ⟨280, 4, 281, 50⟩)
 (.cons (.cond (.cmp .Lt (.call (.glo "compare" (.ref 72) ⟨282, 7, 282, 14⟩) (.cons (.loc 0 ⟨282, 15, 282, 16⟩) (.cons (.loc 1 ⟨282, 18, 282, 19⟩) .nil)) ⟨282, 7, 282, 20⟩) (.num 0 ⟨282, 23, 282, 24⟩) ⟨282, 7, 282, 24⟩)
  (.cons (.ret (.tup (.cons (.lst .nil ⟨283, 16, 283, 18⟩) (.cons (.slAll (.loc 0 ⟨283, 20, 283, 21⟩) ⟨283, 22, 283, 23⟩ ⟨283, 20, 283, 24⟩) .nil)) ⟨283, 15, 283, 25⟩) ⟨283, 8, 283, 25⟩)
 .nil)
  .nil ⟨282, 4, 283, 25⟩)
 (.cons (.cond (.cmp .Eq (.bif .len (.cons (.loc 1 ⟨284, 11, 284, 12⟩) .nil) ⟨284, 7, 284, 10⟩ ⟨284, 7, 284, 13⟩) (.num 1 ⟨284, 17, 284, 18⟩) ⟨284, 7, 284, 18⟩)
  (.cons (.ret (.call (.glo "divrem_small" (.ref 322) ⟨285, 15, 285, 27⟩) (.cons (.loc 0 ⟨285, 28, 285, 29⟩) (.cons (.loc 1 ⟨285, 31, 285, 32⟩) (.cons (.loc 2 ⟨285, 34, 285, 35⟩) .nil))) ⟨285, 15, 285, 36⟩) ⟨285, 8, 285, 36⟩)
 .nil)
  .nil ⟨284, 4, 285, 36⟩)
 (.cons (.asg (.loc 3 ⟨286, 4, 286, 9⟩) (.bin .Sub (.loc 2 ⟨286, 12, 286, 13⟩) (.call (.glo "bits" (.ref 121) ⟨286, 16, 286, 20⟩) (.cons (.lst (.cons (.idx (.loc 1 ⟨286, 22, 286, 23⟩) (.neg (.num 1 ⟨286, 25, 286, 26⟩) ⟨286, 24, 286, 26⟩) ⟨286, 22, 286, 27⟩) .nil) ⟨286, 21, 286, 28⟩) (.cons (.loc 2 ⟨286, 30, 286, 31⟩) .nil)) ⟨286, 16, 286, 32⟩) ⟨286, 12, 286, 32⟩) ⟨286, 4, 286, 32⟩)
 (.cons (.asg (.loc 4 ⟨287, 4, 287, 11⟩) (.call (.glo "shift_left" (.ref 107) ⟨287, 14, 287, 24⟩) (.cons (.loc 1 ⟨287, 25, 287, 26⟩) (.cons (.loc 3 ⟨287, 28, 287, 33⟩) (.cons (.loc 2 ⟨287, 35, 287, 36⟩) .nil))) ⟨287, 14, 287, 37⟩) ⟨287, 4, 287, 37⟩)
 (.cons (.asg (.loc 5 ⟨288, 4, 288, 8⟩) (.call (.glo "shift_left" (.ref 107) ⟨288, 11, 288, 21⟩) (.cons (.loc 0 ⟨288, 22, 288, 23⟩) (.cons (.loc 3 ⟨288, 25, 288, 30⟩) (.cons (.loc 2 ⟨288, 32, 288, 33⟩) .nil))) ⟨288, 11, 288, 34⟩) ⟨288, 4, 288, 34⟩)
 (.cons (.asg (.loc 5 ⟨289, 4, 289, 8⟩) (.bin .Add (.loc 5 ⟨289, 11, 289, 15⟩) (.bin .Mult (.lst (.cons (.num 0 ⟨289, 19, 289, 20⟩) .nil) ⟨289, 18, 289, 21⟩) (.bin .Sub (.bin .Add (.bif .len (.cons (.loc 0 ⟨289, 29, 289, 30⟩) .nil) ⟨289, 25, 289, 28⟩ ⟨289, 25, 289, 31⟩) (.num 1 ⟨289, 34, 289, 35⟩) ⟨289, 25, 289, 35⟩) (.bif .len (.cons (.loc 5 ⟨289, 42, 289, 46⟩) .nil) ⟨289, 38, 289, 41⟩ ⟨289, 38, 289, 47⟩) ⟨289, 25, 289, 47⟩) ⟨289, 18, 289, 48⟩) ⟨289, 11, 289, 48⟩) ⟨289, 4, 289, 48⟩)
 (.cons (.asg (.loc 6 ⟨290, 4, 290, 12⟩) (.call (.glo "divide_rows" (.ref 350) ⟨290, 15, 290, 26⟩) (.cons (.loc 5 ⟨290, 27, 290, 31⟩) (.cons (.loc 4 ⟨290, 33, 290, 40⟩) (.cons (.loc 2 ⟨290, 42, 290, 43⟩) .nil))) ⟨290, 15, 290, 44⟩) ⟨290, 4, 290, 44⟩)
 (.cons (.ret (.tup (.cons (.call (.glo "normal" (.ref 58) ⟨291, 12, 291, 18⟩) (.cons (.loc 6 ⟨291, 19, 291, 27⟩) .nil) ⟨291, 12, 291, 28⟩) (.cons (.call (.glo "shift_right" (.ref 114) ⟨291, 30, 291, 41⟩) (.cons (.call (.glo "normal" (.ref 58) ⟨291, 42, 291, 48⟩) (.cons (.loc 5 ⟨291, 49, 291, 53⟩) .nil) ⟨291, 42, 291, 54⟩) (.cons (.loc 3 ⟨291, 56, 291, 61⟩) (.cons (.loc 2 ⟨291, 63, 291, 64⟩) .nil))) ⟨291, 30, 291, 65⟩) .nil)) ⟨291, 11, 291, 66⟩) ⟨291, 4, 291, 66⟩)
 .nil)))))))))

def nm_law_raked : List Str := ["heap", "many"]
def bd_law_raked : Sts :=
 (.cons (.asg (.idx (.loc 0 ⟨294, 4, 294, 8⟩) (.num 0 ⟨294, 9, 294, 10⟩) ⟨294, 4, 294, 11⟩) (.bin .Add (.idx (.loc 0 ⟨294, 14, 294, 18⟩) (.num 0 ⟨294, 19, 294, 20⟩) ⟨294, 14, 294, 21⟩) (.num 1 ⟨294, 24, 294, 25⟩) ⟨294, 14, 294, 25⟩) ⟨294, 4, 294, 25⟩)
 (.cons (.cond (.cmp .LtE (.idx (.loc 0 ⟨295, 7, 295, 11⟩) (.num 0 ⟨295, 12, 295, 13⟩) ⟨295, 7, 295, 14⟩) (.bif .len (.cons (.idx (.loc 0 ⟨295, 22, 295, 26⟩) (.num 1 ⟨295, 27, 295, 28⟩) ⟨295, 22, 295, 29⟩) .nil) ⟨295, 18, 295, 21⟩ ⟨295, 18, 295, 30⟩) ⟨295, 7, 295, 30⟩)
  (.cons (.ret (.bin .Mod (.idx (.idx (.loc 0 ⟨296, 15, 296, 19⟩) (.num 1 ⟨296, 20, 296, 21⟩) ⟨296, 15, 296, 22⟩) (.bin .Sub (.idx (.loc 0 ⟨296, 23, 296, 27⟩) (.num 0 ⟨296, 28, 296, 29⟩) ⟨296, 23, 296, 30⟩) (.num 1 ⟨296, 33, 296, 34⟩) ⟨296, 23, 296, 34⟩) ⟨296, 15, 296, 35⟩) (.loc 1 ⟨296, 38, 296, 42⟩) ⟨296, 15, 296, 42⟩) ⟨296, 8, 296, 42⟩)
 .nil)
  .nil ⟨295, 4, 296, 42⟩)
 (.cons (.ret (.bin .Mod (.bin .Add (.bin .Add (.bin .Mult (.num 7 ⟨297, 12, 297, 13⟩) (.idx (.loc 0 ⟨297, 16, 297, 20⟩) (.num 0 ⟨297, 21, 297, 22⟩) ⟨297, 16, 297, 23⟩) ⟨297, 12, 297, 23⟩) (.bin .FloorDiv (.idx (.loc 0 ⟨297, 26, 297, 30⟩) (.num 0 ⟨297, 31, 297, 32⟩) ⟨297, 26, 297, 33⟩) (.num 3 ⟨297, 37, 297, 38⟩) ⟨297, 26, 297, 38⟩) ⟨297, 12, 297, 38⟩) (.num 2 ⟨297, 41, 297, 42⟩) ⟨297, 12, 297, 42⟩) (.loc 1 ⟨297, 46, 297, 50⟩) ⟨297, 11, 297, 50⟩) ⟨297, 4, 297, 50⟩)
 .nil)))

def nm_law_signed : List Str := ["number", "found", "size"]
def bd_law_signed : Sts :=
 (.cons (.asgs [(.loc 1 ⟨299, 4, 299, 9⟩), (.loc 2 ⟨299, 11, 299, 15⟩)] (.cons (.lst .nil ⟨299, 19, 299, 21⟩) (.cons (.bif .abs (.cons (.loc 0 ⟨299, 27, 299, 33⟩) .nil) ⟨299, 23, 299, 26⟩ ⟨299, 23, 299, 34⟩) .nil)) ⟨299, 4, 299, 15⟩ ⟨299, 18, 299, 35⟩ ⟨299, 4, 299, 35⟩)
 (.cons (.whil (.cmp .Gt (.loc 2 ⟨300, 10, 300, 14⟩) (.num 0 ⟨300, 17, 300, 18⟩) ⟨300, 10, 300, 18⟩)
  (.cons (.expr (.app (.loc 1 ⟨301, 8, 301, 13⟩) (.bin .Mod (.loc 2 ⟨301, 21, 301, 25⟩) (.num 256 ⟨301, 28, 301, 31⟩) ⟨301, 21, 301, 31⟩) ⟨301, 8, 301, 20⟩ ⟨301, 8, 301, 32⟩) ⟨301, 8, 301, 32⟩)
 (.cons (.asg (.loc 2 ⟨302, 8, 302, 12⟩) (.bin .FloorDiv (.loc 2 ⟨302, 15, 302, 19⟩) (.num 256 ⟨302, 23, 302, 26⟩) ⟨302, 15, 302, 26⟩) ⟨302, 8, 302, 26⟩)
 .nil)) ⟨300, 4, 302, 26⟩)
 (.cons (.ret (.tup (.cons (.cmp .Lt (.loc 0 ⟨303, 12, 303, 18⟩) (.num 0 ⟨303, 21, 303, 22⟩) ⟨303, 12, 303, 22⟩) (.cons (.loc 1 ⟨303, 24, 303, 29⟩) .nil)) ⟨303, 11, 303, 30⟩) ⟨303, 4, 303, 30⟩)
 .nil)))

def nm_law_plain : List Str := ["x", "size"]
def bd_law_plain : Sts :=
 (.cons (.asg (.loc 1 ⟨305, 4, 305, 8⟩) (.bif .sum (.cons (.comp (.bin .Mult (.loc 1 ⟨305, 16, 305, 20⟩) (.bin .Pow (.num 256 ⟨305, 23, 305, 26⟩) (.loc 0 ⟨305, 30, 305, 32⟩) ⟨305, 23, 305, 32⟩) ⟨305, 16, 305, 32⟩) (.two 0 ⟨305, 37, 305, 39⟩ 1 ⟨305, 41, 305, 45⟩ ⟨305, 37, 305, 45⟩) (.enum (.idx (.loc 0 ⟨305, 59, 305, 60⟩) (.num 1 ⟨305, 61, 305, 62⟩) ⟨305, 59, 305, 63⟩) ⟨305, 49, 305, 58⟩ ⟨305, 49, 305, 64⟩) ⟨.function, [(".0", .local), ("at", .local), ("limb", .local)], false, false, []⟩ ["at", "limb"] [none, none] ⟨305, 15, 305, 65⟩) .nil) ⟨305, 11, 305, 14⟩ ⟨305, 11, 305, 66⟩) ⟨305, 4, 305, 66⟩)
 (.cons (.ret (.ite (.val (.idx (.loc 0 ⟨306, 23, 306, 24⟩) (.num 0 ⟨306, 25, 306, 26⟩) ⟨306, 23, 306, 27⟩)) (.bin .Sub (.num 0 ⟨306, 11, 306, 12⟩) (.loc 1 ⟨306, 15, 306, 19⟩) ⟨306, 11, 306, 19⟩) (.loc 1 ⟨306, 33, 306, 37⟩) ⟨306, 11, 306, 37⟩) ⟨306, 4, 306, 37⟩)
 .nil))

def nm_law_worth : List Str := ["rows", "found", "at", "number", "rest"]
def bd_law_worth : Sts :=
 (.cons (.cond (.cmp .Eq (.bif .len (.cons (.loc 0 ⟨308, 11, 308, 15⟩) .nil) ⟨308, 7, 308, 10⟩ ⟨308, 7, 308, 16⟩) (.num 1 ⟨308, 20, 308, 21⟩) ⟨308, 7, 308, 21⟩)
  (.cons (.ret (.idx (.idx (.loc 0 ⟨309, 15, 309, 19⟩) (.num 0 ⟨309, 20, 309, 21⟩) ⟨309, 15, 309, 22⟩) (.num 0 ⟨309, 23, 309, 24⟩) ⟨309, 15, 309, 25⟩) ⟨309, 8, 309, 25⟩)
 .nil)
  .nil ⟨308, 4, 309, 25⟩)
 (.cons (.asg (.loc 1 ⟨310, 4, 310, 9⟩) (.num 0 ⟨310, 12, 310, 13⟩) ⟨310, 4, 310, 13⟩)
 (.cons (.forr (.two 2 ⟨311, 8, 311, 10⟩ 3 ⟨311, 12, 311, 18⟩ ⟨311, 8, 311, 18⟩) (.enum (.idx (.loc 0 ⟨311, 32, 311, 36⟩) (.num 0 ⟨311, 37, 311, 38⟩) ⟨311, 32, 311, 39⟩) ⟨311, 22, 311, 31⟩ ⟨311, 22, 311, 40⟩)
  (.cons (.asg (.loc 4 ⟨312, 8, 312, 12⟩) (.comp (.bin .Add (.slTo (.loc 0 ⟨312, 16, 312, 19⟩) (.loc 1 ⟨312, 21, 312, 23⟩) ⟨312, 20, 312, 23⟩ ⟨312, 16, 312, 24⟩) (.slFrom (.loc 0 ⟨312, 27, 312, 30⟩) (.bin .Add (.loc 1 ⟨312, 31, 312, 33⟩) (.num 1 ⟨312, 36, 312, 37⟩) ⟨312, 31, 312, 37⟩) ⟨312, 31, 312, 38⟩ ⟨312, 27, 312, 39⟩) ⟨312, 16, 312, 39⟩) (.one 0 ⟨312, 44, 312, 47⟩) (.lst (.slFrom (.loc 0 ⟨312, 51, 312, 55⟩) (.num 1 ⟨312, 56, 312, 57⟩) ⟨312, 56, 312, 58⟩ ⟨312, 51, 312, 59⟩)) ⟨.function, [(".0", .local), ("row", .local), ("at", .free)], false, false, []⟩ ["row", "at"] [none, some 2] ⟨312, 15, 312, 60⟩) ⟨312, 8, 312, 60⟩)
 (.cons (.asg (.loc 1 ⟨313, 8, 313, 13⟩) (.bin .Add (.loc 1 ⟨313, 16, 313, 21⟩) (.bin .Mult (.ite (.cmp .Eq (.bin .Mod (.loc 2 ⟨313, 35, 313, 37⟩) (.num 2 ⟨313, 40, 313, 41⟩) ⟨313, 35, 313, 41⟩) (.num 0 ⟨313, 45, 313, 46⟩) ⟨313, 35, 313, 46⟩) (.loc 3 ⟨313, 25, 313, 31⟩) (.bin .Sub (.num 0 ⟨313, 52, 313, 53⟩) (.loc 3 ⟨313, 56, 313, 62⟩) ⟨313, 52, 313, 62⟩) ⟨313, 25, 313, 62⟩) (.call (.glo "_law_worth" (.ref 381) ⟨313, 66, 313, 76⟩) (.cons (.loc 4 ⟨313, 77, 313, 81⟩) .nil) ⟨313, 66, 313, 82⟩) ⟨313, 24, 313, 82⟩) ⟨313, 16, 313, 82⟩) ⟨313, 8, 313, 82⟩)
 .nil)) ⟨311, 4, 313, 82⟩)
 (.cons (.ret (.loc 1 ⟨314, 11, 314, 16⟩) ⟨314, 4, 314, 16⟩)
 .nil))))

def nm_law_is_same : List Str := ["old", "new", "worth", "row"]
def bd_law_is_same : Sts :=
 (.cons (.cond (.cmp .NotEq (.bif .abs (.cons (.call (.glo "_law_worth" (.ref 381) ⟨316, 11, 316, 21⟩) (.cons (.loc 1 ⟨316, 22, 316, 25⟩) .nil) ⟨316, 11, 316, 26⟩) .nil) ⟨316, 7, 316, 10⟩ ⟨316, 7, 316, 27⟩) (.bif .abs (.cons (.loc 2 ⟨316, 35, 316, 40⟩) .nil) ⟨316, 31, 316, 34⟩ ⟨316, 31, 316, 41⟩) ⟨316, 7, 316, 41⟩)
  (.cons (.ret (.boo false ⟨317, 15, 317, 20⟩) ⟨317, 8, 317, 20⟩)
 .nil)
  .nil ⟨316, 4, 317, 20⟩)
 (.cons (.forr (.one 3 ⟨318, 8, 318, 11⟩) (.lst (.loc 0 ⟨318, 15, 318, 18⟩))
  (.cons (.cond (.cmp .NotEq (.compIf (.loc 0 ⟨319, 12, 319, 14⟩) (.one 0 ⟨319, 19, 319, 21⟩) (.range1 (.bif .len (.cons (.loc 1 ⟨319, 35, 319, 38⟩) .nil) ⟨319, 31, 319, 34⟩ ⟨319, 31, 319, 39⟩) ⟨319, 25, 319, 30⟩ ⟨319, 25, 319, 40⟩) (.cmp .NotEq (.bin .Mod (.call (.glo "_law_worth" (.ref 381) ⟨319, 44, 319, 54⟩) (.cons (.bin .Add (.bin .Add (.slTo (.loc 1 ⟨319, 55, 319, 58⟩) (.loc 0 ⟨319, 60, 319, 62⟩) ⟨319, 59, 319, 62⟩ ⟨319, 55, 319, 63⟩) (.lst (.cons (.loc 2 ⟨319, 67, 319, 70⟩) .nil) ⟨319, 66, 319, 71⟩) ⟨319, 55, 319, 71⟩) (.slFrom (.loc 1 ⟨319, 74, 319, 77⟩) (.bin .Add (.loc 0 ⟨319, 78, 319, 80⟩) (.num 1 ⟨319, 83, 319, 84⟩) ⟨319, 78, 319, 84⟩) ⟨319, 78, 319, 85⟩ ⟨319, 74, 319, 86⟩) ⟨319, 55, 319, 86⟩) .nil) ⟨319, 44, 319, 87⟩) (.loc 3 ⟨319, 90, 319, 95⟩) ⟨319, 44, 319, 95⟩) (.num 0 ⟨319, 99, 319, 100⟩) ⟨319, 44, 319, 100⟩) ⟨.function, [(".0", .local), ("at", .local), ("_law_worth", .globalImplicit), ("new", .free), ("row", .free), ("worth", .free)], false, false, []⟩ ["at", "new", "row", "worth"] [none, some 1, some 3, some 2] ⟨319, 11, 319, 101⟩) (.lst .nil ⟨319, 105, 319, 107⟩) ⟨319, 11, 319, 107⟩)
  (.cons (.ret (.boo false ⟨320, 19, 320, 24⟩) ⟨320, 12, 320, 24⟩)
 .nil)
  .nil ⟨319, 8, 320, 24⟩)
 .nil) ⟨318, 4, 320, 24⟩)
 (.cons (.ret (.boo true ⟨321, 11, 321, 15⟩) ⟨321, 4, 321, 15⟩)
 .nil)))

def nm_law_sizes : List Str := ["lattice"]
def bd_law_sizes : Sts :=
 (.cons (.ret (.comp (.call (.glo "_law_plain" (.ref 376) ⟨323, 12, 323, 22⟩) (.cons (.loc 0 ⟨323, 23, 323, 26⟩) .nil) ⟨323, 12, 323, 27⟩) (.one 0 ⟨323, 32, 323, 35⟩) (.lst (.attr (.loc 0 ⟨323, 39, 323, 46⟩) 6 ⟨323, 39, 323, 52⟩)) ⟨.function, [(".0", .local), ("one", .local), ("_law_plain", .globalImplicit)], false, false, []⟩ ["one"] [none] ⟨323, 11, 323, 53⟩) ⟨323, 4, 323, 53⟩)
 .nil)

def nm_law_product : List Str := ["some", "found", "one"]
def bd_law_product : Sts :=
 (.cons (.asg (.loc 1 ⟨325, 4, 325, 9⟩) (.num 1 ⟨325, 12, 325, 13⟩) ⟨325, 4, 325, 13⟩)
 (.cons (.forr (.one 2 ⟨326, 8, 326, 11⟩) (.lst (.slTo (.loc 0 ⟨326, 15, 326, 19⟩) (.neg (.num 1 ⟨326, 22, 326, 23⟩) ⟨326, 21, 326, 23⟩) ⟨326, 20, 326, 23⟩ ⟨326, 15, 326, 24⟩))
  (.cons (.asg (.loc 1 ⟨327, 8, 327, 13⟩) (.bin .Mult (.loc 1 ⟨327, 16, 327, 21⟩) (.loc 2 ⟨327, 24, 327, 27⟩) ⟨327, 16, 327, 27⟩) ⟨327, 8, 327, 27⟩)
 .nil) ⟨326, 4, 327, 27⟩)
 (.cons (.ret (.loc 1 ⟨328, 11, 328, 16⟩) ⟨328, 4, 328, 16⟩)
 .nil)))

def nm_law : List Str := ["script", "heap", "many", "top", "bottom", "turn", "rows", "given", "worth", "count", "lattice", "k", "first", "before", "j", "due", "now", "ahead", "found", "end", "part"]
def bd_law_1 : Sts :=
 (.cons (.asg (.loc 1 ⟨330, 4, 330, 8⟩) (.lst (.cons (.num 0 ⟨330, 12, 330, 13⟩) (.cons (.comp (.bif .abs (.cons (.bif .int (.cons (.loc 0 ⟨330, 24, 330, 29⟩) .nil) ⟨330, 20, 330, 23⟩ ⟨330, 20, 330, 30⟩) .nil) ⟨330, 16, 330, 19⟩ ⟨330, 16, 330, 31⟩) (.one 0 ⟨330, 36, 330, 41⟩) (.lst (.slTo (.loc 0 ⟨330, 45, 330, 51⟩) (.num 24 ⟨330, 53, 330, 55⟩) ⟨330, 52, 330, 55⟩ ⟨330, 45, 330, 56⟩)) ⟨.function, [(".0", .local), ("straw", .local), ("abs", .globalImplicit), ("int", .globalImplicit)], false, false, []⟩ ["straw"] [none] ⟨330, 15, 330, 57⟩) .nil)) ⟨330, 11, 330, 58⟩) ⟨330, 4, 330, 58⟩)
 (.cons (.asgs [(.loc 2 ⟨331, 4, 331, 8⟩), (.two 3 ⟨331, 11, 331, 14⟩ 4 ⟨331, 16, 331, 22⟩ ⟨331, 10, 331, 23⟩)] (.cons (.bin .Add (.num 2 ⟨331, 27, 331, 28⟩) (.call (.glo "_law_raked" (.ref 364) ⟨331, 31, 331, 41⟩) (.cons (.loc 1 ⟨331, 42, 331, 46⟩) (.cons (.num 2 ⟨331, 48, 331, 49⟩) .nil)) ⟨331, 31, 331, 50⟩) ⟨331, 27, 331, 50⟩) (.cons (.idx (.lst (.cons (.tup (.cons (.num 3 ⟨331, 54, 331, 55⟩) (.cons (.num 4 ⟨331, 57, 331, 58⟩) .nil)) ⟨331, 53, 331, 59⟩) (.cons (.tup (.cons (.num 1 ⟨331, 62, 331, 63⟩) (.cons (.num 1 ⟨331, 65, 331, 66⟩) .nil)) ⟨331, 61, 331, 67⟩) (.cons (.tup (.cons (.num 1 ⟨331, 70, 331, 71⟩) (.cons (.num 2 ⟨331, 73, 331, 74⟩) .nil)) ⟨331, 69, 331, 75⟩) (.cons (.tup (.cons (.num 9 ⟨331, 78, 331, 79⟩) (.cons (.num 10 ⟨331, 81, 331, 83⟩) .nil)) ⟨331, 77, 331, 84⟩) .nil)))) ⟨331, 52, 331, 85⟩) (.call (.glo "_law_raked" (.ref 364) ⟨331, 86, 331, 96⟩) (.cons (.loc 1 ⟨331, 97, 331, 101⟩) (.cons (.num 4 ⟨331, 103, 331, 104⟩) .nil)) ⟨331, 86, 331, 105⟩) ⟨331, 52, 331, 106⟩) .nil)) ⟨331, 4, 331, 23⟩ ⟨331, 26, 331, 107⟩ ⟨331, 4, 331, 107⟩)
 (.cons (.asg (.loc 6 ⟨332, 4, 332, 8⟩) (.comp (.comp (.bin .Sub (.call (.glo "_law_raked" (.ref 364) ⟨332, 13, 332, 23⟩) (.cons (.loc 1 ⟨332, 24, 332, 28⟩) (.cons (.num 9 ⟨332, 30, 332, 31⟩) .nil)) ⟨332, 13, 332, 32⟩) (.num 3 ⟨332, 35, 332, 36⟩) ⟨332, 13, 332, 36⟩) (.one 0 ⟨332, 41, 332, 45⟩) (.range1 (.loc 2 ⟨332, 55, 332, 59⟩) ⟨332, 49, 332, 54⟩ ⟨332, 49, 332, 60⟩) ⟨.function, [(".0", .local), ("spot", .local), ("_law_raked", .globalImplicit), ("heap", .free)], false, false, []⟩ ["spot", "heap"] [none, some 1] ⟨332, 12, 332, 61⟩) (.one 0 ⟨332, 66, 332, 70⟩) (.range1 (.loc 2 ⟨332, 80, 332, 84⟩) ⟨332, 74, 332, 79⟩ ⟨332, 74, 332, 85⟩) ⟨.function, [(".0", .local), ("turn", .local), ("range", .globalImplicit), ("heap", .free), ("many", .free)], false, false, []⟩ ["turn", "heap", "many"] [none, some 1, some 2] ⟨332, 11, 332, 86⟩) ⟨332, 4, 332, 86⟩)
 (.cons (.asgs [(.loc 7 ⟨333, 4, 333, 9⟩), (.loc 8 ⟨333, 11, 333, 16⟩), (.loc 9 ⟨333, 18, 333, 23⟩)] (.cons (.comp (.comp (.call (.glo "_law_signed" (.ref 371) ⟨333, 29, 333, 40⟩) (.cons (.loc 0 ⟨333, 41, 333, 47⟩) .nil) ⟨333, 29, 333, 48⟩) (.one 0 ⟨333, 53, 333, 59⟩) (.lst (.loc 0 ⟨333, 63, 333, 66⟩)) ⟨.function, [(".0", .local), ("number", .local), ("_law_signed", .globalImplicit)], false, false, []⟩ ["number"] [none] ⟨333, 28, 333, 67⟩) (.one 0 ⟨333, 72, 333, 75⟩) (.lst (.loc 6 ⟨333, 79, 333, 83⟩)) ⟨.function, [(".0", .local), ("row", .local)], false, false, []⟩ ["row"] [none] ⟨333, 27, 333, 84⟩) (.cons (.call (.glo "_law_worth" (.ref 381) ⟨333, 86, 333, 96⟩) (.cons (.loc 6 ⟨333, 97, 333, 101⟩) .nil) ⟨333, 86, 333, 102⟩) (.cons (.num 0 ⟨333, 104, 333, 105⟩) .nil))) ⟨333, 4, 333, 23⟩ ⟨333, 26, 333, 106⟩ ⟨333, 4, 333, 106⟩)
 (.cons (.asg (.loc 10 ⟨334, 4, 334, 11⟩) (.call (.glo "Lattice" (.ref 304) ⟨334, 14, 334, 21⟩) (.cons (.loc 7 ⟨334, 22, 334, 27⟩) (.cons (.loc 3 ⟨334, 29, 334, 32⟩) (.cons (.loc 4 ⟨334, 34, 334, 40⟩) (.cons (.num 8 ⟨334, 42, 334, 43⟩) (.cons (.glo "mul_school" (.ref 315) ⟨334, 45, 334, 55⟩) (.cons (.glo "divrem_school" (.ref 357) ⟨334, 57, 334, 70⟩) .nil)))))) ⟨334, 14, 334, 71⟩) ⟨334, 4, 334, 71⟩)
 .nil)))))
def bd_law_try : Sts :=
 (.cons (.forr (.one 11 ⟨336, 12, 336, 13⟩) (.range1 (.loc 2 ⟨336, 23, 336, 27⟩) ⟨336, 17, 336, 22⟩ ⟨336, 17, 336, 28⟩)
  (.cons (.expr (.meth (.loc 10 ⟨337, 12, 337, 19⟩) "take_in" 273 (.cons (.loc 11 ⟨337, 28, 337, 29⟩) .nil) ⟨337, 12, 337, 27⟩ ⟨337, 12, 337, 30⟩) ⟨337, 12, 337, 30⟩)
 .nil) ⟨336, 8, 337, 30⟩)
 .nil)
def bd_law_handler : Sts :=
 (.cons (.ret (.cmp .Eq (.loc 8 ⟨339, 15, 339, 20⟩) (.num 0 ⟨339, 24, 339, 25⟩) ⟨339, 15, 339, 25⟩) ⟨339, 8, 339, 25⟩)
 .nil)
def bd_law_2 : Sts :=
 (.cons (.asg (.loc 12 ⟨340, 4, 340, 9⟩) (.call (.glo "_law_sizes" (.ref 391) ⟨340, 12, 340, 22⟩) (.cons (.loc 10 ⟨340, 23, 340, 30⟩) .nil) ⟨340, 12, 340, 31⟩) ⟨340, 4, 340, 31⟩)
 (.cons (.cond (.disj (.cmp .Eq (.loc 8 ⟨341, 7, 341, 12⟩) (.num 0 ⟨341, 16, 341, 17⟩) ⟨341, 7, 341, 17⟩) (.cmp .NotEq (.idx (.loc 12 ⟨341, 21, 341, 26⟩) (.neg (.num 1 ⟨341, 28, 341, 29⟩) ⟨341, 27, 341, 29⟩) ⟨341, 21, 341, 30⟩) (.bin .Pow (.loc 8 ⟨341, 34, 341, 39⟩) (.num 2 ⟨341, 43, 341, 44⟩) ⟨341, 34, 341, 44⟩) ⟨341, 21, 341, 44⟩) ⟨341, 7, 341, 44⟩)
  (.cons (.ret (.boo false ⟨342, 15, 342, 20⟩) ⟨342, 8, 342, 20⟩)
 .nil)
  .nil ⟨341, 4, 342, 20⟩)
 (.cons (.forr (.one 5 ⟨343, 8, 343, 12⟩) (.range1 (.call (.glo "_law_raked" (.ref 364) ⟨343, 22, 343, 32⟩) (.cons (.loc 1 ⟨343, 33, 343, 37⟩) (.cons (.num 13 ⟨343, 39, 343, 41⟩) .nil)) ⟨343, 22, 343, 42⟩) ⟨343, 16, 343, 21⟩ ⟨343, 16, 343, 43⟩)
  (.cons (.asgs [(.loc 11 ⟨344, 8, 344, 9⟩), (.loc 13 ⟨344, 11, 344, 17⟩)] (.cons (.bin .Add (.num 1 ⟨344, 21, 344, 22⟩) (.call (.glo "_law_raked" (.ref 364) ⟨344, 25, 344, 35⟩) (.cons (.loc 1 ⟨344, 36, 344, 40⟩) (.cons (.bin .Sub (.loc 2 ⟨344, 42, 344, 46⟩) (.num 1 ⟨344, 49, 344, 50⟩) ⟨344, 42, 344, 50⟩) .nil)) ⟨344, 25, 344, 51⟩) ⟨344, 21, 344, 51⟩) (.cons (.call (.glo "_law_sizes" (.ref 391) ⟨344, 53, 344, 63⟩) (.cons (.loc 10 ⟨344, 64, 344, 71⟩) .nil) ⟨344, 53, 344, 72⟩) .nil)) ⟨344, 8, 344, 17⟩ ⟨344, 20, 344, 73⟩ ⟨344, 8, 344, 73⟩)
 (.cons (.asg (.loc 14 ⟨345, 8, 345, 9⟩) (.call (.glo "_law_raked" (.ref 364) ⟨345, 12, 345, 22⟩) (.cons (.loc 1 ⟨345, 23, 345, 27⟩) (.cons (.loc 11 ⟨345, 29, 345, 30⟩) .nil)) ⟨345, 12, 345, 31⟩) ⟨345, 8, 345, 31⟩)
 (.cons (.cond (.val (.meth (.loc 10 ⟨346, 11, 346, 18⟩) "is_upright" 287 (.cons (.loc 11 ⟨346, 30, 346, 31⟩) .nil) ⟨346, 11, 346, 29⟩ ⟨346, 11, 346, 32⟩))
  (.cons (.expr (.meth (.loc 10 ⟨347, 12, 347, 19⟩) "shorten" 280 (.cons (.loc 11 ⟨347, 28, 347, 29⟩) (.cons (.loc 14 ⟨347, 31, 347, 32⟩) .nil)) ⟨347, 12, 347, 27⟩ ⟨347, 12, 347, 33⟩) ⟨347, 12, 347, 33⟩)
 (.cons (.asg (.loc 15 ⟨348, 12, 348, 15⟩) (.loc 13 ⟨348, 18, 348, 24⟩) ⟨348, 12, 348, 24⟩)
 .nil))
  (.cons (.expr (.meth (.loc 10 ⟨350, 12, 350, 19⟩) "exchange" 294 (.cons (.loc 11 ⟨350, 29, 350, 30⟩) .nil) ⟨350, 12, 350, 28⟩ ⟨350, 12, 350, 31⟩) ⟨350, 12, 350, 31⟩)
 (.cons (.asgs [(.loc 15 ⟨351, 12, 351, 15⟩), (.loc 9 ⟨351, 17, 351, 22⟩)] (.cons (.bin .Add (.bin .Add (.slTo (.loc 13 ⟨351, 26, 351, 32⟩) (.loc 11 ⟨351, 34, 351, 35⟩) ⟨351, 33, 351, 35⟩ ⟨351, 26, 351, 36⟩) (.lst (.cons (.call (.glo "_law_plain" (.ref 376) ⟨351, 40, 351, 50⟩) (.cons (.idx (.attr (.loc 10 ⟨351, 51, 351, 58⟩) 6 ⟨351, 51, 351, 64⟩) (.loc 11 ⟨351, 65, 351, 66⟩) ⟨351, 51, 351, 67⟩) .nil) ⟨351, 40, 351, 68⟩) .nil) ⟨351, 39, 351, 69⟩) ⟨351, 26, 351, 69⟩) (.slFrom (.loc 13 ⟨351, 72, 351, 78⟩) (.bin .Add (.loc 11 ⟨351, 79, 351, 80⟩) (.num 1 ⟨351, 83, 351, 84⟩) ⟨351, 79, 351, 84⟩) ⟨351, 79, 351, 85⟩ ⟨351, 72, 351, 86⟩) ⟨351, 26, 351, 86⟩) (.cons (.bin .Add (.loc 9 ⟨351, 88, 351, 93⟩) (.num 1 ⟨351, 96, 351, 97⟩) ⟨351, 88, 351, 97⟩) .nil)) ⟨351, 12, 351, 22⟩ ⟨351, 25, 351, 98⟩ ⟨351, 12, 351, 98⟩)
 (.cons (.cond (.cmp .GtE (.bin .Mult (.loc 4 ⟨352, 15, 352, 21⟩) (.idx (.loc 15 ⟨352, 24, 352, 27⟩) (.loc 11 ⟨352, 28, 352, 29⟩) ⟨352, 24, 352, 30⟩) ⟨352, 15, 352, 30⟩) (.bin .Mult (.loc 3 ⟨352, 34, 352, 37⟩) (.idx (.loc 13 ⟨352, 40, 352, 46⟩) (.loc 11 ⟨352, 47, 352, 48⟩) ⟨352, 40, 352, 49⟩) ⟨352, 34, 352, 49⟩) ⟨352, 15, 352, 49⟩)
  (.cons (.ret (.boo false ⟨353, 23, 353, 28⟩) ⟨353, 16, 353, 28⟩)
 .nil)
  .nil ⟨352, 12, 353, 28⟩)
 .nil))) ⟨346, 8, 353, 28⟩)
 (.cons (.asg (.loc 16 ⟨354, 8, 354, 11⟩) (.call (.glo "_law_sizes" (.ref 391) ⟨354, 14, 354, 24⟩) (.cons (.loc 10 ⟨354, 25, 354, 32⟩) .nil) ⟨354, 14, 354, 33⟩) ⟨354, 8, 354, 33⟩)
 (.cons (.cond (.disj (.cmp .NotEq (.loc 16 ⟨355, 11, 355, 14⟩) (.loc 15 ⟨355, 18, 355, 21⟩) ⟨355, 11, 355, 21⟩) (.cmp .NotEq (.compIf (.loc 0 ⟨355, 26, 355, 29⟩) (.one 0 ⟨355, 34, 355, 37⟩) (.lst (.loc 16 ⟨355, 41, 355, 44⟩)) (.cmp .Lt (.loc 0 ⟨355, 48, 355, 51⟩) (.num 1 ⟨355, 54, 355, 55⟩) ⟨355, 48, 355, 55⟩) ⟨.function, [(".0", .local), ("one", .local)], false, false, []⟩ ["one"] [none] ⟨355, 25, 355, 56⟩) (.lst .nil ⟨355, 60, 355, 62⟩) ⟨355, 25, 355, 62⟩) ⟨355, 11, 355, 62⟩)
  (.cons (.ret (.boo false ⟨356, 19, 356, 24⟩) ⟨356, 12, 356, 24⟩)
 .nil)
  .nil ⟨355, 8, 356, 24⟩)
 (.cons (.cond (.cmp .Gt (.bin .Mult (.bin .Pow (.loc 4 ⟨357, 11, 357, 17⟩) (.loc 9 ⟨357, 21, 357, 26⟩) ⟨357, 11, 357, 26⟩) (.call (.glo "_law_product" (.ref 398) ⟨357, 29, 357, 41⟩) (.cons (.loc 16 ⟨357, 42, 357, 45⟩) .nil) ⟨357, 29, 357, 46⟩) ⟨357, 11, 357, 46⟩) (.bin .Mult (.bin .Pow (.loc 3 ⟨357, 49, 357, 52⟩) (.loc 9 ⟨357, 56, 357, 61⟩) ⟨357, 49, 357, 61⟩) (.call (.glo "_law_product" (.ref 398) ⟨357, 64, 357, 76⟩) (.cons (.loc 12 ⟨357, 77, 357, 82⟩) .nil) ⟨357, 64, 357, 83⟩) ⟨357, 49, 357, 83⟩) ⟨357, 11, 357, 83⟩)
  (.cons (.ret (.boo false ⟨358, 19, 358, 24⟩) ⟨358, 12, 358, 24⟩)
 .nil)
  .nil ⟨357, 8, 358, 24⟩)
 (.cons (.cond (.not (.val (.call (.glo "_law_is_same" (.ref 386) ⟨359, 15, 359, 27⟩) (.cons (.loc 6 ⟨359, 28, 359, 32⟩) (.cons (.comp (.comp (.call (.glo "_law_plain" (.ref 376) ⟨359, 36, 359, 46⟩) (.cons (.loc 0 ⟨359, 47, 359, 50⟩) .nil) ⟨359, 36, 359, 51⟩) (.one 0 ⟨359, 56, 359, 59⟩) (.lst (.loc 0 ⟨359, 63, 359, 66⟩)) ⟨.function, [(".0", .local), ("one", .local), ("_law_plain", .globalImplicit)], false, false, []⟩ ["one"] [none] ⟨359, 35, 359, 67⟩) (.one 0 ⟨359, 72, 359, 75⟩) (.lst (.attr (.loc 10 ⟨359, 79, 359, 86⟩) 0 ⟨359, 79, 359, 91⟩)) ⟨.function, [(".0", .local), ("row", .local)], false, false, []⟩ ["row"] [none] ⟨359, 34, 359, 92⟩) (.cons (.loc 8 ⟨359, 94, 359, 99⟩) .nil))) ⟨359, 15, 359, 100⟩)) ⟨359, 11, 359, 100⟩)
  (.cons (.ret (.boo false ⟨360, 19, 360, 24⟩) ⟨360, 12, 360, 24⟩)
 .nil)
  .nil ⟨359, 8, 360, 24⟩)
 .nil))))))) ⟨343, 4, 360, 24⟩)
 (.cons (.asg (.loc 17 ⟨361, 4, 361, 9⟩) (.call (.glo "_law_sizes" (.ref 391) ⟨361, 12, 361, 22⟩) (.cons (.loc 10 ⟨361, 23, 361, 30⟩) .nil) ⟨361, 12, 361, 31⟩) ⟨361, 4, 361, 31⟩)
 (.cons (.expr (.meth (.loc 10 ⟨362, 4, 362, 11⟩) "run" 301 .nil ⟨362, 4, 362, 15⟩ ⟨362, 4, 362, 17⟩) ⟨362, 4, 362, 17⟩)
 (.cons (.asgs [(.loc 18 ⟨363, 4, 363, 9⟩), (.loc 19 ⟨363, 11, 363, 14⟩)] (.cons (.comp (.comp (.call (.glo "_law_plain" (.ref 376) ⟨363, 20, 363, 30⟩) (.cons (.loc 0 ⟨363, 31, 363, 34⟩) .nil) ⟨363, 20, 363, 35⟩) (.one 0 ⟨363, 40, 363, 43⟩) (.lst (.loc 0 ⟨363, 47, 363, 50⟩)) ⟨.function, [(".0", .local), ("one", .local), ("_law_plain", .globalImplicit)], false, false, []⟩ ["one"] [none] ⟨363, 19, 363, 51⟩) (.one 0 ⟨363, 56, 363, 59⟩) (.lst (.attr (.loc 10 ⟨363, 63, 363, 70⟩) 0 ⟨363, 63, 363, 75⟩)) ⟨.function, [(".0", .local), ("row", .local)], false, false, []⟩ ["row"] [none] ⟨363, 18, 363, 76⟩) (.cons (.call (.glo "_law_sizes" (.ref 391) ⟨363, 78, 363, 88⟩) (.cons (.loc 10 ⟨363, 89, 363, 96⟩) .nil) ⟨363, 78, 363, 97⟩) .nil)) ⟨363, 4, 363, 14⟩ ⟨363, 17, 363, 98⟩ ⟨363, 4, 363, 98⟩)
 (.cons (.cond (.disj (.cmp .Gt (.call (.glo "_law_product" (.ref 398) ⟨364, 7, 364, 19⟩) (.cons (.loc 19 ⟨364, 20, 364, 23⟩) .nil) ⟨364, 7, 364, 24⟩) (.call (.glo "_law_product" (.ref 398) ⟨364, 27, 364, 39⟩) (.cons (.loc 17 ⟨364, 40, 364, 45⟩) .nil) ⟨364, 27, 364, 46⟩) ⟨364, 7, 364, 46⟩) (.not (.val (.call (.glo "_law_is_same" (.ref 386) ⟨364, 54, 364, 66⟩) (.cons (.loc 6 ⟨364, 67, 364, 71⟩) (.cons (.loc 18 ⟨364, 73, 364, 78⟩) (.cons (.loc 8 ⟨364, 80, 364, 85⟩) .nil))) ⟨364, 54, 364, 86⟩)) ⟨364, 50, 364, 86⟩) ⟨364, 7, 364, 86⟩)
  (.cons (.ret (.boo false ⟨365, 15, 365, 20⟩) ⟨365, 8, 365, 20⟩)
 .nil)
  .nil ⟨364, 4, 365, 20⟩)
 (.cons (.forr (.one 11 ⟨366, 8, 366, 9⟩) (.range2 (.num 1 ⟨366, 19, 366, 20⟩) (.loc 2 ⟨366, 22, 366, 26⟩) ⟨366, 13, 366, 18⟩ ⟨366, 13, 366, 27⟩)
  (.cons (.asg (.loc 20 ⟨367, 8, 367, 12⟩) (.call (.glo "_law_plain" (.ref 376) ⟨367, 15, 367, 25⟩) (.cons (.idx (.idx (.attr (.loc 10 ⟨367, 26, 367, 33⟩) 7 ⟨367, 26, 367, 39⟩) (.loc 11 ⟨367, 40, 367, 41⟩) ⟨367, 26, 367, 42⟩) (.bin .Sub (.loc 11 ⟨367, 43, 367, 44⟩) (.num 1 ⟨367, 47, 367, 48⟩) ⟨367, 43, 367, 48⟩) ⟨367, 26, 367, 49⟩) .nil) ⟨367, 15, 367, 50⟩) ⟨367, 8, 367, 50⟩)
 (.cons (.cond (.disj (.cmp .Lt (.bin .Mult (.loc 4 ⟨368, 11, 368, 17⟩) (.bin .Add (.bin .Mult (.idx (.loc 19 ⟨368, 21, 368, 24⟩) (.bin .Add (.loc 11 ⟨368, 25, 368, 26⟩) (.num 1 ⟨368, 29, 368, 30⟩) ⟨368, 25, 368, 30⟩) ⟨368, 21, 368, 31⟩) (.idx (.loc 19 ⟨368, 34, 368, 37⟩) (.bin .Sub (.loc 11 ⟨368, 38, 368, 39⟩) (.num 1 ⟨368, 42, 368, 43⟩) ⟨368, 38, 368, 43⟩) ⟨368, 34, 368, 44⟩) ⟨368, 21, 368, 44⟩) (.bin .Mult (.loc 20 ⟨368, 47, 368, 51⟩) (.loc 20 ⟨368, 54, 368, 58⟩) ⟨368, 47, 368, 58⟩) ⟨368, 21, 368, 58⟩) ⟨368, 11, 368, 59⟩) (.bin .Mult (.bin .Mult (.loc 3 ⟨368, 62, 368, 65⟩) (.idx (.loc 19 ⟨368, 68, 368, 71⟩) (.loc 11 ⟨368, 72, 368, 73⟩) ⟨368, 68, 368, 74⟩) ⟨368, 62, 368, 74⟩) (.idx (.loc 19 ⟨368, 77, 368, 80⟩) (.loc 11 ⟨368, 81, 368, 82⟩) ⟨368, 77, 368, 83⟩) ⟨368, 62, 368, 83⟩) ⟨368, 11, 368, 83⟩) (.cmp .Gt (.bin .Mult (.num 2 ⟨368, 87, 368, 88⟩) (.bif .abs (.cons (.loc 20 ⟨368, 95, 368, 99⟩) .nil) ⟨368, 91, 368, 94⟩ ⟨368, 91, 368, 100⟩) ⟨368, 87, 368, 100⟩) (.idx (.loc 19 ⟨368, 103, 368, 106⟩) (.loc 11 ⟨368, 107, 368, 108⟩) ⟨368, 103, 368, 109⟩) ⟨368, 87, 368, 109⟩) ⟨368, 11, 368, 109⟩)
  (.cons (.ret (.boo false ⟨369, 19, 369, 24⟩) ⟨369, 12, 369, 24⟩)
 .nil)
  .nil ⟨368, 8, 369, 24⟩)
 .nil)) ⟨366, 4, 369, 24⟩)
 (.cons (.ret (.cmp .Eq (.loc 7 ⟨370, 11, 370, 16⟩) (.comp (.comp (.call (.glo "_law_signed" (.ref 371) ⟨370, 22, 370, 33⟩) (.cons (.loc 0 ⟨370, 34, 370, 40⟩) .nil) ⟨370, 22, 370, 41⟩) (.one 0 ⟨370, 46, 370, 52⟩) (.lst (.loc 0 ⟨370, 56, 370, 59⟩)) ⟨.function, [(".0", .local), ("number", .local), ("_law_signed", .globalImplicit)], false, false, []⟩ ["number"] [none] ⟨370, 21, 370, 60⟩) (.one 0 ⟨370, 65, 370, 68⟩) (.lst (.loc 6 ⟨370, 72, 370, 76⟩)) ⟨.function, [(".0", .local), ("row", .local)], false, false, []⟩ ["row"] [none] ⟨370, 20, 370, 77⟩) ⟨370, 11, 370, 77⟩) ⟨370, 4, 370, 77⟩)
 .nil)))))))))
end Mine
end
section
set_option maxRecDepth 100000
namespace Mine
open PySem PySem.W PyProof.Rows PySem.Calls

def LAT : Addr := 304

def FieldsAre (es : List DictEntry) (vs : List V) : Prop :=
  es.length = vs.length ∧ ∀ (i : Nat) e, es[i]? = some e → (∃ t, e.key = .str (nmAt fieldNames i) t) ∧ vs[i]? = some (abst e.val)

def Mt (h : Heap) (a : Addr) : AObj → Prop
  | .list vs => ∃ xs, h.PlainList a xs ∧ xs.toList.map abst = vs ∧ vs.length ≤ LIM
  | .tup vs => ∃ xs n, h.get? a = some { cls := .type "tuple", data := .seq xs n } ∧ xs.toList.map abst = vs ∧ vs.length ≤ LIM
  | .inst dx => h.get? a = some (instObj LAT dx)
  | .dict vs => ∃ es n, h.get? a = some (dictOf es n) ∧ FieldsAre es vs ∧ vs.length ≤ 8

theorem Mt.there {h : Heap} {a : Addr} {o : AObj} (m : Mt h a o) : ∃ ob, h.get? a = some ob := by
  cases o with
  | list => obtain ⟨_, ⟨n, e⟩, _⟩ := m; exact ⟨_, e⟩
  | tup => obtain ⟨_, n, e, _⟩ := m; exact ⟨_, e⟩
  | inst => exact ⟨_, m⟩
  | dict => obtain ⟨es, n, e, _⟩ := m; exact ⟨_, e⟩
theorem Mt.at' {h h' : Heap} {a : Addr} {o : AObj} (m : Mt h a o) (k : ∀ ob, h.get? a = some ob → h'.get? a = some ob) : Mt h' a o := by
  cases o with
  | list => obtain ⟨xs, ⟨n, e⟩, q⟩ := m; exact ⟨xs, ⟨n, k _ e⟩, q⟩
  | tup => obtain ⟨xs, n, e, q⟩ := m; exact ⟨xs, n, k _ e, q⟩
  | inst => exact k _ m
  | dict => obtain ⟨es, n, e, q⟩ := m; exact ⟨es, n, k _ e, q⟩

structure Ok (h0 : Heap) (σ : AHeap) (s : Shared) : Prop where
  base : ∀ b o, h0.get? b = some o → s.heap.get? b = some o
  sat : ∀ a o, σ a = some o → Mt s.heap a o

def Bs (h0 : Heap) : Addr → Prop := fun a => h0.get? a = none

structure Post (h0 : Heap) (own : Addr → Prop) (σ : AHeap) (s : Shared) (σ' : AHeap) (s' : Shared) : Prop where
  sat : ∀ a o, σ' a = some o → Mt s'.heap a o
  keep : ∀ a o, s.heap.get? a = some o → (σ a = none ∨ h0.get? a ≠ none) → ¬ own a → s'.heap.get? a = some o
  live : ∀ a o, s.heap.get? a = some o → ∃ o', s'.heap.get? a = some o'
  dom : ∀ a, σ' a ≠ none → σ a ≠ none ∨ s.heap.get? a = none
  os : s'.os = s.os
  gens : s'.gens = s.gens

def nobody : Addr → Prop := fun _ => False

variable {h0 : Heap}

theorem Ok.fresh {σ : AHeap} {s : Shared} (k : Ok h0 σ s) {a : Addr} (h : s.heap.get? a = none) : σ a = none := by
  cases e : σ a with
  | none => rfl
  | some o => obtain ⟨ob, q⟩ := (k.sat a o e).there; rw [h] at q; cases q
theorem Ok.bs {σ : AHeap} {s : Shared} (k : Ok h0 σ s) {a : Addr} (h : s.heap.get? a = none) : Bs h0 a := by
  cases e : h0.get? a with
  | none => exact e
  | some o => have := k.base a o e; rw [h] at this; cases this
theorem get?_size (h : Heap) : h.get? h.objs.size = none := by
  cases e : h.get? h.objs.size with
  | none => rfl
  | some o => exact absurd (Heap.lt_size e) (Nat.lt_irrefl _)

theorem Ok.post {own : Addr → Prop} {σ σ' : AHeap} {s s' : Shared} (k : Ok h0 σ s) (p : Post h0 own σ s σ' s') (ho : ∀ a, own a → Bs h0 a) : Ok h0 σ' s' where
  base := fun b o e => p.keep b o (k.base b o e) (.inr (by rw [e]; simp)) fun q => by have := ho b q; rw [Bs, e] at this; cases this
  sat := p.sat

theorem Post.refl {own : Addr → Prop} {σ : AHeap} {s : Shared} (k : Ok h0 σ s) : Post h0 own σ s σ s := ⟨k.sat, fun _ _ e _ _ => e, fun _ o e => ⟨o, e⟩, fun _ h => .inl h, rfl, rfl⟩
theorem Post.toks {own : Addr → Prop} {σ : AHeap} {s : Shared} {n : Nat} (k : Ok h0 σ s) : Post h0 own σ s σ { s with toks := n } := ⟨k.sat, fun _ _ e _ _ => e, fun _ o e => ⟨o, e⟩, fun _ h => .inl h, rfl, rfl⟩
theorem Post.trans {own : Addr → Prop} {σ σ₁ σ₂ : AHeap} {s s₁ s₂ : Shared} (p : Post h0 own σ s σ₁ s₁) (q : Post h0 own σ₁ s₁ σ₂ s₂) : Post h0 own σ s σ₂ s₂ where
  sat := q.sat
  keep := fun a o e h ho => q.keep a o (p.keep a o e h ho) (by
    rcases h with h | h
    · left
      cases e1 : σ₁ a with
      | none => rfl
      | some x =>
        rcases p.dom a (by rw [e1]; simp) with z | z
        · exact absurd h z
        · rw [e] at z; cases z
    · exact .inr h) ho
  live := fun a o e => by obtain ⟨o', e'⟩ := p.live a o e; exact q.live a o' e'
  dom := fun a h => by
    rcases q.dom a h with z | z
    · exact p.dom a z
    · right
      cases e : s.heap.get? a with
      | none => rfl
      | some o => obtain ⟨o', e'⟩ := p.live a o e; rw [z] at e'; cases e'
  os := q.os.trans p.os
  gens := q.gens.trans p.gens
theorem Post.widen {own own' : Addr → Prop} {σ σ₁ : AHeap} {s s₁ : Shared} (p : Post h0 own σ s σ₁ s₁) (w : ∀ a, own a → own' a) : Post h0 own' σ s σ₁ s₁ :=
  ⟨p.sat, fun a o e h ho => p.keep a o e h fun q => ho (w a q), p.live, p.dom, p.os, p.gens⟩
theorem Post.wide {own : Addr → Prop} {σ σ₁ : AHeap} {s s₁ : Shared} (p : Post h0 nobody σ s σ₁ s₁) : Post h0 own σ s σ₁ s₁ := p.widen fun _ h => h.elim
theorem Post.toksL {own : Addr → Prop} {σ σ₁ : AHeap} {s s₁ : Shared} {n : Nat} (p : Post h0 own σ { s with toks := n } σ₁ s₁) : Post h0 own σ s σ₁ s₁ := ⟨p.sat, p.keep, p.live, p.dom, p.os, p.gens⟩
theorem Post.toksR {own : Addr → Prop} {σ σ₁ : AHeap} {s s₁ : Shared} {n : Nat} (p : Post h0 own σ s σ₁ s₁) : Post h0 own σ s σ₁ { s₁ with toks := n } := ⟨p.sat, p.keep, p.live, p.dom, p.os, p.gens⟩

def AHeap.put (σ : AHeap) (a : Addr) (o : AObj) : AHeap := fun b => if b = a then some o else σ b
theorem AHeap.put_self (σ : AHeap) (a : Addr) (o : AObj) : σ.put a o a = some o := if_pos rfl
theorem AHeap.put_ne (σ : AHeap) {a b : Addr} (o : AObj) (h : b ≠ a) : σ.put a o b = σ b := if_neg h
theorem ext_put {σ : AHeap} {a : Addr} {o : AObj} (h : σ a = none) : Ext σ (σ.put a o) := fun b x e => by
  by_cases q : b = a
  · subst q; rw [h] at e; cases e
  · rw [AHeap.put_ne σ o q]; exact e
theorem extBut_put {σ : AHeap} {a : Addr} {o : AObj} : ExtBut a σ (σ.put a o) := fun b x n e => by rw [AHeap.put_ne σ o n]; exact e

theorem Post.made {own : Addr → Prop} {σ : AHeap} {s : Shared} (k : Ok h0 σ s) {h' : Heap} {tk : Nat} {r : Addr} {o : AObj} (hk : ∀ b ob, s.heap.get? b = some ob → h'.get? b = some ob) (hr : s.heap.get? r = none) (m : Mt h' r o) :
    Post h0 own σ s (σ.put r o) { s with heap := h', toks := tk } where
  sat := fun a x e => by
    by_cases q : a = r
    · subst q; rw [AHeap.put_self] at e; cases e; exact m
    · rw [AHeap.put_ne _ _ q] at e
      exact (k.sat a x e).at' fun _ => hk _ _
  keep := fun a o e _ _ => hk _ _ e
  live := fun a o e => ⟨o, hk _ _ e⟩
  dom := fun a h => by
    by_cases q : a = r
    · subst q; exact .inr hr
    · rw [AHeap.put_ne _ _ q] at h; exact .inl h
  os := rfl
  gens := rfl
theorem Post.alloc {own : Addr → Prop} {σ : AHeap} {s : Shared} (k : Ok h0 σ s) {ob : Obj} {o : AObj} (m : Mt (s.heap.push ob) s.heap.objs.size o) :
    Post h0 own σ s (σ.put s.heap.objs.size o) { s with heap := s.heap.push ob } := .made k (fun _ _ e => Heap.get?_push_of_some _ e) (get?_size _) m
theorem Post.junk {own : Addr → Prop} {σ : AHeap} {s : Shared} (k : Ok h0 σ s) {h' : Heap} {tk : Nat} (hk : ∀ b ob, s.heap.get? b = some ob → h'.get? b = some ob) : Post h0 own σ s σ { s with heap := h', toks := tk } where
  sat := fun a x e => (k.sat a x e).at' fun _ => hk _ _
  keep := fun a o e _ _ => hk _ _ e
  live := fun a o e => ⟨o, hk _ _ e⟩
  dom := fun a h => .inl h
  os := rfl
  gens := rfl

theorem SameBut.live {x : Addr} {h h' : Heap} (hs : Heap.SameBut x h h') (hx : ∃ o', h'.get? x = some o') (a : Addr) (o : Obj) (e : h.get? a = some o) : ∃ o', h'.get? a = some o' := by
  by_cases z : a = x
  · subst z; exact hx
  · exact ⟨o, (hs.2 a z).trans e⟩

theorem Post.upd {own : Addr → Prop} {σ : AHeap} {s : Shared} (k : Ok h0 σ s) {x : Addr} {o o' : AObj} {h' : Heap} {tk : Nat} (e : σ x = some o) (hx : Bs h0 x) (hs : Heap.SameBut x s.heap h') (m : Mt h' x o') :
    Post h0 own σ s (σ.put x o') { s with heap := h', toks := tk } where
  sat := fun a y q => by
    by_cases z : a = x
    · subst z; rw [AHeap.put_self] at q; cases q; exact m
    · rw [AHeap.put_ne _ _ z] at q
      exact (k.sat a y q).at' fun _ e => (hs.2 a z).trans e
  keep := fun a y q h _ => (hs.2 a (fun z => by
    subst z
    rcases h with h | h
    · rw [e] at h; cases h
    · exact h hx)).trans q
  live := SameBut.live hs m.there
  dom := fun a h => by
    by_cases z : a = x
    · subst z; left; rw [e]; simp
    · rw [AHeap.put_ne _ _ z] at h; exact .inl h
  os := rfl
  gens := rfl

theorem Post.own {own : Addr → Prop} {σ : AHeap} {s : Shared} (k : Ok h0 σ s) {x : Addr} {h' : Heap} {tk : Nat} (e : σ x = none) (hx : own x) (hs : Heap.SameBut x s.heap h') (hl : ∃ o', h'.get? x = some o') :
    Post h0 own σ s σ { s with heap := h', toks := tk } where
  sat := fun a y q => (k.sat a y q).at' fun _ e' => (hs.2 a (fun z => by subst z; rw [e] at q; cases q)).trans e'
  keep := fun a y q _ ho => (hs.2 a fun z => ho (z ▸ hx)).trans q
  live := SameBut.live hs hl
  dom := fun a h => .inl h
  os := rfl
  gens := rfl

structure EnvOk (h0 : Heap) (env : Env) : Prop where
  kind : env.scope.kind = .function
  glob : env.globals = mainGlobals
  bi : env.builtins = builtinsNs
  loc : Bs h0 env.locals
  cel : ∀ n c, (n, c) ∈ env.cells → Bs h0 c
  lk : ∀ x, env.kindOf x = some .cell → ∃ c, env.cells.lookup x = some c
  lc : ∀ n c, (n, c) ∈ env.cells → env.locals ≠ c

def ownOfEnv (env : Env) : Addr → Prop := fun a => a = env.locals ∨ ∃ n, (n, a) ∈ env.cells
theorem EnvOk.own {env : Env} (e : EnvOk h0 env) : ∀ a, ownOfEnv env a → Bs h0 a := fun a h => by
  rcases h with rfl | ⟨n, h⟩
  · exact e.loc
  · exact e.cel n a h

structure Fm (env : Env) (nm : List Str) (ρ : Loc) (σ : AHeap) (h : Heap) : Prop where
  ns : ∃ m, h.Ns env.locals m ∧ ∀ i x v, nm[i]? = some x → env.kindOf x = some .local → ρ.getD i none = some v → ∃ u, m x = some u ∧ abst u = v
  cell : ∀ i x v, nm[i]? = some x → env.kindOf x = some .cell → ρ.getD i none = some v → ∃ c u, env.cells.lookup x = some c ∧ h.IsCell c (some u) ∧ abst u = v
  any : ∀ x c, (x, c) ∈ env.cells → ∃ v, h.IsCell c v
  off : ∀ a, ownOfEnv env a → σ a = none

theorem Fm.post {env : Env} {nm : List Str} {ρ : Loc} {σ σ' : AHeap} {s s' : Shared} (f : Fm env nm ρ σ s.heap) (p : Post h0 nobody σ s σ' s') : Fm env nm ρ σ' s'.heap := by
  have kp : ∀ a, ownOfEnv env a → ∀ o, s.heap.get? a = some o → s'.heap.get? a = some o := fun a ha o e => p.keep a o e (.inl (f.off a ha)) id
  obtain ⟨m, hn, hm⟩ := f.ns
  refine ⟨⟨m, hn.at' fun o e => kp _ (.inl rfl) o e, hm⟩, fun i x v e1 e2 e3 => ?_, fun x c hc => ?_, fun a ha => ?_⟩
  · obtain ⟨c, u, h1, ⟨o, h2, h3⟩, h4⟩ := f.cell i x v e1 e2 e3
    exact ⟨c, u, h1, ⟨o, kp c (.inr ⟨x, mem_of_lookup h1⟩) o h2, h3⟩, h4⟩
  · obtain ⟨v, o, h2, h3⟩ := f.any x c hc
    exact ⟨v, o, kp c (.inr ⟨x, hc⟩) o h2, h3⟩
  · cases e : σ' a with
    | none => rfl
    | some y =>
      rcases p.dom a (by rw [e]; simp) with z | z
      · exact absurd (f.off a ha) z
      · exfalso
        rcases ha with rfl | ⟨n, hc⟩
        · obtain ⟨_, _, _, q, _⟩ := hn; rw [z] at q; cases q
        · obtain ⟨v, o, q, _⟩ := f.any n a hc; rw [z] at q; cases q

structure Room (A : Around) (n : Nat) : Prop where
  depth : A.depth + n ≤ 900
  units : A.units + 100 * n ≤ 5000
  handled : A.handled = none

end Mine
end
section
set_option maxRecDepth 100000
namespace Mine
open PySem PySem.W PyProof.Rows PySem.Calls

variable {h0 : Heap} {prog : Program} {w : World} {A : Around} {E : Value → Shared → Prop}

theorem abst_int {v : Value} {i : Int} (e : abst v = .int i) : ∃ t, v = .int i t := by
  cases v <;> simp [abst] at e; subst e; exact ⟨_, rfl⟩
theorem abst_bool {v : Value} {b : Bool} (e : abst v = .bool b) : v = .bool b := by
  cases v <;> simp [abst] at e; subst e; rfl
theorem abst_ref {v : Value} {a : Addr} (e : abst v = .ref a) : v = .ref a := by
  cases v <;> simp [abst] at e; subst e; rfl
theorem abst_none {v : Value} (e : abst v = .none) : v = .none := by
  cases v <;> simp [abst] at e; rfl

def Rs (h0 : Heap) (Q : V → AHeap → Prop) (σ : AHeap) (s : Shared) : Value → Shared → Prop := fun v s' => ∃ σ', Q (abst v) σ' ∧ Post h0 nobody σ s σ' s'
def Rb (h0 : Heap) (Q : Bool → AHeap → Prop) (σ : AHeap) (s : Shared) : Bool → Shared → Prop := fun v s' => ∃ σ', Q v σ' ∧ Post h0 nobody σ s σ' s'

theorem Rs.up {Q : V → AHeap → Prop} {σ σ₁ : AHeap} {s s₁ : Shared} (p : Post h0 nobody σ s σ₁ s₁) {v : Value} {s' : Shared} (r : Rs h0 Q σ₁ s₁ v s') : Rs h0 Q σ s v s' := by
  obtain ⟨σ', q, p'⟩ := r; exact ⟨σ', q, p.trans p'⟩
theorem Rb.up {Q : Bool → AHeap → Prop} {σ σ₁ : AHeap} {s s₁ : Shared} (p : Post h0 nobody σ s σ₁ s₁) {v : Bool} {s' : Shared} (r : Rb h0 Q σ₁ s₁ v s') : Rb h0 Q σ s v s' := by
  obtain ⟨σ', q, p'⟩ := r; exact ⟨σ', q, p.trans p'⟩
theorem up {t : Sem Value} {Q : V → AHeap → Prop} {σ σ₁ : AHeap} {s s₁ : Shared} {M : Model} (p : Post h0 nobody σ s σ₁ s₁) (h : wpAny M A t (Rs h0 Q σ₁ s₁) E s₁) : wpAny M A t (Rs h0 Q σ s) E s₁ :=
  wpAny_mono h (fun _ _ r => r.up p) fun _ _ e => e
theorem upb {t : Sem Bool} {Q : Bool → AHeap → Prop} {σ σ₁ : AHeap} {s s₁ : Shared} {M : Model} (p : Post h0 nobody σ s σ₁ s₁) (h : wpAny M A t (Rb h0 Q σ₁ s₁) E s₁) : wpAny M A t (Rb h0 Q σ s) E s₁ :=
  wpAny_mono h (fun _ _ r => r.up p) fun _ _ e => e
theorem Ok.post0 {σ σ' : AHeap} {s s' : Shared} (k : Ok h0 σ s) (p : Post h0 nobody σ s σ' s') : Ok h0 σ' s' := k.post p fun _ h => h.elim

theorem Rs.here {Q : V → AHeap → Prop} {σ : AHeap} {s : Shared} (k : Ok h0 σ s) {v : Value} {n : Nat} (q : Q (abst v) σ) : Rs h0 Q σ s v { s with toks := n } := ⟨σ, q, .toks k⟩
theorem Rs.now {Q : V → AHeap → Prop} {σ : AHeap} {s : Shared} (k : Ok h0 σ s) {v : Value} (q : Q (abst v) σ) : Rs h0 Q σ s v s := ⟨σ, q, .refl k⟩
theorem Rb.here {Q : Bool → AHeap → Prop} {σ : AHeap} {s : Shared} (k : Ok h0 σ s) {v : Bool} {n : Nat} (q : Q v σ) : Rb h0 Q σ s v { s with toks := n } := ⟨σ, q, .toks k⟩
theorem Rb.now {Q : Bool → AHeap → Prop} {σ : AHeap} {s : Shared} (k : Ok h0 σ s) {v : Bool} (q : Q v σ) : Rb h0 Q σ s v s := ⟨σ, q, .refl k⟩

theorem mulOk {a b : Int} (h : mulFits a b) : IntMulOk a b := by
  rcases h with h | h | h
  · exact IntMulOk.of_left h
  · exact IntMulOk.of_right h
  · unfold IntMulOk Builtin.Int.intTooBig
    have : ¬ (Builtin.Int.intBits a + Builtin.Int.intBits b > bitsLine) := by rw [bitsLine_eq]; unfold bitsI at h; omega
    simp only [Bool.and_eq_true, decide_eq_true_eq, not_and]
    intro _ _; omega

theorem Rs.list {Q : V → AHeap → Prop} {σ : AHeap} {s : Shared} (k : Ok h0 σ s) {xs : Array Value} (hz : xs.size ≤ LIM) (q : allocW (Bs h0) (.list (xs.toList.map abst)) σ Q) :
    Rs h0 Q σ s (.ref s.heap.objs.size) { s with heap := s.heap.push { cls := .type "list", data := .seq xs } } :=
  ⟨σ.put s.heap.objs.size (.list (xs.toList.map abst)), q _ _ (k.bs (get?_size _)) (k.fresh (get?_size _)) (ext_put (k.fresh (get?_size _))) (AHeap.put_self ..),
    .alloc k ⟨xs, ⟨0, Heap.get?_push_size _ rfl⟩, rfl, by simpa using hz⟩⟩
theorem Rs.tup {Q : V → AHeap → Prop} {σ : AHeap} {s : Shared} (k : Ok h0 σ s) {xs : Array Value} (hz : xs.size ≤ LIM) (q : allocW (Bs h0) (.tup (xs.toList.map abst)) σ Q) :
    Rs h0 Q σ s (.ref s.heap.objs.size) { s with heap := s.heap.push { cls := .type "tuple", data := .seq xs } } :=
  ⟨σ.put s.heap.objs.size (.tup (xs.toList.map abst)), q _ _ (k.bs (get?_size _)) (k.fresh (get?_size _)) (ext_put (k.fresh (get?_size _))) (AHeap.put_self ..),
    .alloc k ⟨xs, 0, Heap.get?_push_size _ rfl, rfl, by simpa using hz⟩⟩

theorem bin_sound {o : Operator} {a b : Value} {σ : AHeap} {s : Shared} {Q : V → AHeap → Prop} (k : Ok h0 σ s) (h : binW (Bs h0) o (abst a) (abst b) σ Q) :
    wpAny (model prog w) A (binaryOp o a b) (Rs h0 Q σ s) E s := by
  unfold binW at h
  split at h
  · rename_i e1 e2; obtain ⟨t, rfl⟩ := abst_int e1; obtain ⟨u, rfl⟩ := abst_int e2; exact P.add_int (Rs.here k h)
  · rename_i e1 e2; obtain ⟨t, rfl⟩ := abst_int e1; obtain ⟨u, rfl⟩ := abst_int e2; exact P.sub_int (Rs.here k h)
  · rename_i e1 e2; obtain ⟨t, rfl⟩ := abst_int e1; obtain ⟨u, rfl⟩ := abst_int e2; exact P.mul_int (Rs.here k h.2) (mulOk h.1)
  · rename_i e1 e2; obtain ⟨t, rfl⟩ := abst_int e1; obtain ⟨u, rfl⟩ := abst_int e2; exact floordiv_int h.1.1 (Rs.here k h.2) (.inl (PyProof.noPylong_small h.1.2))
  · rename_i e1 e2; obtain ⟨t, rfl⟩ := abst_int e1; obtain ⟨u, rfl⟩ := abst_int e2; exact mod_int' h.1 (Rs.here k h.2)
  · rename_i e1 e2; obtain ⟨t, rfl⟩ := abst_int e1; obtain ⟨u, rfl⟩ := abst_int e2; exact lshift_int h.1.1 (by have := h.1.2; unfold bitsI at this; omega) (Rs.here k h.2)
  · rename_i e1 e2; obtain ⟨t, rfl⟩ := abst_int e1; obtain ⟨u, rfl⟩ := abst_int e2; exact rshift_int h.1 (Rs.here k h.2)
  · rename_i e1 e2; obtain ⟨t, rfl⟩ := abst_int e1; obtain ⟨u, rfl⟩ := abst_int e2; exact and_int (Rs.here k h)
  · rename_i e1 e2; obtain ⟨t, rfl⟩ := abst_int e1; obtain ⟨u, rfl⟩ := abst_int e2; exact or_int (Rs.here k h)
  · rename_i e1 e2; obtain ⟨t, rfl⟩ := abst_int e1; obtain ⟨u, rfl⟩ := abst_int e2; exact pow_int h.1.1 (by have := h.1.2; unfold bitsI at this; omega) (Rs.here k h.2)
  · rename_i x y e1 e2
    rw [abst_ref e1, abst_ref e2]
    obtain ⟨xs, ys, ⟨hx, hy, hl⟩, h⟩ := h
    obtain ⟨xa, ⟨n, gx⟩, rfl, _⟩ := k.sat _ _ hx
    obtain ⟨ya, ⟨m, gy⟩, rfl, _⟩ := k.sat _ _ hy
    have hl' : xa.size + ya.size ≤ LIM := by simpa using hl
    refine P.add_list gx gy (Rs.list k (by rw [Array.size_append]; exact hl') ?_) (by rw [sizeLine_eq]; exact hl')
    rw [Array.toList_append, List.map_append]; exact h
  · rename_i x n e1 e2
    obtain ⟨u, rfl⟩ := abst_int e2
    rw [abst_ref e1]
    obtain ⟨v, ⟨hx, hn0, hn⟩, h⟩ := h
    obtain ⟨xa, ⟨m, gx⟩, ex, _⟩ := k.sat _ _ hx
    obtain ⟨u', hu⟩ : ∃ u', xa.toList = [u'] := by
      cases q : xa.toList with
      | nil => rw [q] at ex; cases ex
      | cons y r => rw [q] at ex; cases r with
        | nil => exact ⟨y, rfl⟩
        | cons _ _ => cases ex
    have hxa : xa = #[u'] := by rw [← Array.toArray_toList (xs := xa), hu]
    rw [hu] at ex
    have ev : abst u' = v := by simpa using ex
    subst hxa
    have hn' : n ≤ 16777216 := hn
    have h1 : n.toNat ≤ LIM := by show n.toNat ≤ 16777216; omega
    refine wpAny_binaryOp_repeat_ref (T := "list") (U := "int") (by decide) ⟨_, gx, rfl⟩ (fun s' => typeIs_int s' n u) noFill_list_mul F.fills_int_mul F.slot_int_rmul repeat_list F.slot_int_index.lookup
        (call_meets F.slot_int_rmul (typeIs_int s n u) F.entry_int_rmul (F.args_int_rmul_2 _ _) (int___rmul___int_list n u x #[u'] m)
          ⟨gx, rfl, ⟨_, gx, rfl⟩, call_meets F.slot_list_mul ⟨_, gx, rfl⟩ F.entry_list_mul (F.args_list_mul_2 _ _)
            (AutoListH.list___mul___list_int_3 x #[u'] m n u (by simp [Builtin.List.listFitsIndex]; omega) (by simp; omega) (by simp [Builtin.List.listTooLong, sizeLine]; omega))
            ⟨gx, ?_⟩⟩)
    have e0 : List.foldl (fun (x1 x2 : Array Value) => x1 ++ x2) #[] (List.replicate (if (#[u'] : Array Value).isEmpty = true then 0 else n.toNat) #[u']) = (List.replicate n.toNat u').toArray := by
      rw [listMul_foldl_if]; rw [lm_rep_flat_one]
    rw [e0]
    refine Rs.list k (by simpa using h1) ?_
    simpa [ev] using h
  · exact h.elim

end Mine
end
section
set_option maxRecDepth 100000
namespace Mine
open PySem PySem.W PyProof.Rows PySem.Calls

variable {h0 : Heap} {prog : Program} {w : World} {A : Around} {E : Value → Shared → Prop}

theorem inpl_sound {o : Operator} {a b : Value} {σ : AHeap} {s : Shared} {Q : V → AHeap → Prop} (k : Ok h0 σ s) (ho : o = .Add ∨ o = .Sub ∨ o = .RShift ∨ o = .Mod ∨ o = .BitOr) (hi : ∃ i, abst a = .int i)
    (h : binW (Bs h0) o (abst a) (abst b) σ Q) : wpAny (model prog w) A (inplaceOp o a b) (Rs h0 Q σ s) E s := by
  obtain ⟨i, hi⟩ := hi
  obtain ⟨t, rfl⟩ := abst_int hi
  rw [hi] at h
  cases hb : abst b with
  | int j =>
    obtain ⟨u, rfl⟩ := abst_int hb
    rw [hb] at h
    rcases ho with rfl | rfl | rfl | rfl | rfl
    · exact P.iadd_int (Rs.here k h)
    · exact P.isub_int (Rs.here k h)
    · exact irshift_int h.1 (Rs.here k h.2)
    · exact imod_int h.1 (Rs.here k h.2)
    · exact ior_int (Rs.here k h)
  | none => rw [hb] at h; rcases ho with rfl | rfl | rfl | rfl | rfl <;> exact h.elim
  | bool _ => rw [hb] at h; rcases ho with rfl | rfl | rfl | rfl | rfl <;> exact h.elim
  | ref _ => rw [hb] at h; rcases ho with rfl | rfl | rfl | rfl | rfl <;> exact h.elim
  | oth _ => rw [hb] at h; rcases ho with rfl | rfl | rfl | rfl | rfl <;> exact h.elim

theorem neg_sound {a : Value} {σ : AHeap} {s : Shared} {Q : V → AHeap → Prop} (k : Ok h0 σ s) (h : negW (abst a) fun v => Q v σ) : wpAny (model prog w) A (unaryOp .USub a) (Rs h0 Q σ s) E s := by
  unfold negW at h
  split at h
  · rename_i e; obtain ⟨t, rfl⟩ := abst_int e; exact P.neg_int (Rs.here k h)
  · exact h.elim

theorem truth_sound {a : Value} {σ : AHeap} {s : Shared} {Q : Bool → AHeap → Prop} (k : Ok h0 σ s) (h : truthW (abst a) fun t => Q t σ) : wpAny (model prog w) A (truthy a) (Rb h0 Q σ s) E s := by
  unfold truthW at h
  split at h
  · rename_i e; rw [abst_bool e]; exact wpAny_truthy_bool (Rb.now k h)
  · rename_i e; obtain ⟨t, rfl⟩ := abst_int e; exact P.truthy_int (Rb.now k h)
  · exact h.elim

theorem intsAre_of : ∀ {vs : List Value} {ns : List Int}, vs.map abst = ns.map V.int → IntsAre vs ns
  | [], [], _ => .nil
  | [], _ :: _, e => by cases e
  | _ :: _, [], e => by cases e
  | v :: vs, n :: ns, e => by
    simp only [List.map_cons, List.cons.injEq] at e
    obtain ⟨t, rfl⟩ := abst_int e.1
    exact .cons n t (intsAre_of e.2)

theorem all_reads {h : Heap} : ∀ (vs : List Value) (ds : List PyData), vs.length = ds.length → (∀ (i : Nat) v d, vs[i]? = some v → ds[i]? = some d → ∃ as, Reads h v d as) → ∃ as, ReadsAll h vs ds as
  | [], [], _, _ => ⟨_, .nil⟩
  | [], _ :: _, e, _ => by cases e
  | _ :: _, [], e, _ => by cases e
  | v :: vs, d :: ds, e, f => by
    obtain ⟨as, r⟩ := f 0 v d rfl rfl
    obtain ⟨bs, q⟩ := all_reads vs ds (by simpa using e) fun i v d h1 h2 => f (i + 1) v d (by simpa using h1) (by simpa using h2)
    exact ⟨_, .cons r q⟩
theorem canAll : ∀ (ds : List PyData), (∀ d ∈ ds, d.canLay0 = true) → PyData.canLayAll0 ds = true
  | [], _ => by simp [PyData.canLayAll0]
  | d :: ds, h => by simp only [PyData.canLayAll0, h d (.head _), canAll ds fun e m => h e (.tail _ m), Bool.and_self]
theorem depAll (n : Nat) : ∀ (ds : List PyData), (∀ d ∈ ds, d.depth ≤ n) → PyData.depthAll ds ≤ n
  | [], _ => by simp [PyData.depthAll]
  | d :: ds, h => by
    have h1 := h d (.head _)
    have h2 := depAll n ds fun e m => h e (.tail _ m)
    simp only [PyData.depthAll]; omega

theorem trIs_reads {σ : AHeap} {s : Shared} (k : Ok h0 σ s) : ∀ (n : Nat) (v : Value) (d : PyData), TrIs σ n (abst v) d → (∃ as, Reads s.heap v d as) ∧ d.canLay0 = true ∧ d.depth ≤ n := by
  intro n
  induction n with
  | zero =>
    intro v d h
    cases hv : abst v <;> cases d <;> rw [hv] at h <;> simp only [TrIs] at h
    · subst h; rw [abst_bool hv]; exact ⟨⟨_, .bool _⟩, by simp [PyData.canLay0], by simp [PyData.depth]⟩
    · subst h; obtain ⟨t, rfl⟩ := abst_int hv; exact ⟨⟨_, .int _ _⟩, by simp [PyData.canLay0], by simp [PyData.depth]⟩
  | succ n ih =>
    intro v d h
    cases hv : abst v <;> cases d <;> rw [hv] at h <;> simp only [TrIs] at h
    · subst h; rw [abst_bool hv]; exact ⟨⟨_, .bool _⟩, by simp [PyData.canLay0], by simp [PyData.depth]⟩
    · subst h; obtain ⟨t, rfl⟩ := abst_int hv; exact ⟨⟨_, .int _ _⟩, by simp [PyData.canLay0], by simp [PyData.depth]⟩
    all_goals
      rename_i a ds
      obtain ⟨vs, hs, hl, hi⟩ := h
      rw [abst_ref hv]
    · obtain ⟨xs, ⟨m, g⟩, rfl, _⟩ := k.sat _ _ hs
      have one : ∀ (i : Nat) x d, xs.toList[i]? = some x → ds[i]? = some d → (∃ as, Reads s.heap x d as) ∧ d.canLay0 = true ∧ d.depth ≤ n := fun i x d h1 h2 => ih x d (hi i _ d (by rw [List.getElem?_map, h1]; rfl) h2)
      have mem : ∀ d ∈ ds, d.canLay0 = true ∧ d.depth ≤ n := fun d hd => by
        obtain ⟨i, hi', e⟩ := List.mem_iff_getElem.mp hd
        have hl' : i < xs.toList.length := by rw [List.length_map] at hl; omega
        exact (one i xs.toList[i] d (List.getElem?_eq_getElem hl') (by rw [List.getElem?_eq_getElem hi', e])).2
      obtain ⟨as, r⟩ := all_reads xs.toList ds (by simpa using hl) fun i x d h1 h2 => (one i x d h1 h2).1
      refine ⟨⟨_, reads_list_at g rfl rfl r⟩, by simpa [PyData.canLay0] using canAll ds fun d hd => (mem d hd).1, ?_⟩
      have := depAll n ds fun d hd => (mem d hd).2
      simp only [PyData.depth]; omega
    · obtain ⟨xs, m, g, rfl, _⟩ := k.sat _ _ hs
      have one : ∀ (i : Nat) x d, xs.toList[i]? = some x → ds[i]? = some d → (∃ as, Reads s.heap x d as) ∧ d.canLay0 = true ∧ d.depth ≤ n := fun i x d h1 h2 => ih x d (hi i _ d (by rw [List.getElem?_map, h1]; rfl) h2)
      have mem : ∀ d ∈ ds, d.canLay0 = true ∧ d.depth ≤ n := fun d hd => by
        obtain ⟨i, hi', e⟩ := List.mem_iff_getElem.mp hd
        have hl' : i < xs.toList.length := by rw [List.length_map] at hl; omega
        exact (one i xs.toList[i] d (List.getElem?_eq_getElem hl') (by rw [List.getElem?_eq_getElem hi', e])).2
      obtain ⟨as, r⟩ := all_reads xs.toList ds (by simpa using hl) fun i x d h1 h2 => (one i x d h1 h2).1
      refine ⟨⟨_, reads_tuple_at g rfl rfl r⟩, by simpa [PyData.canLay0] using canAll ds fun d hd => (mem d hd).1, ?_⟩
      have := depAll n ds fun d hd => (mem d hd).2
      simp only [PyData.depth]; omega

theorem cmp_sound {o : CmpOp} {a b : Value} {σ : AHeap} {s : Shared} {Q : V → AHeap → Prop} {n : Nat} (k : Ok h0 σ s) (R : Room A n) (h : cmpW o (abst a) (abst b) σ fun t => Q (.bool t) σ) :
    wpAny (model prog w) A (compareOp o a b) (Rs h0 Q σ s) E s := by
  have hu : A.units + 64 < cLine := by have := R.units; show A.units + 64 < 9900; omega
  unfold cmpW at h
  split at h
  · rename_i e1 e2; obtain ⟨t, rfl⟩ := abst_int e1; obtain ⟨u, rfl⟩ := abst_int e2; exact P.lt_int (Rs.now k h)
  · rename_i e1 e2; obtain ⟨t, rfl⟩ := abst_int e1; obtain ⟨u, rfl⟩ := abst_int e2; exact P.le_int (Rs.now k h)
  · rename_i e1 e2; obtain ⟨t, rfl⟩ := abst_int e1; obtain ⟨u, rfl⟩ := abst_int e2; exact P.gt_int (Rs.now k h)
  · rename_i e1 e2; obtain ⟨t, rfl⟩ := abst_int e1; obtain ⟨u, rfl⟩ := abst_int e2; exact P.ge_int (Rs.now k h)
  · rename_i i j e1 e2; obtain ⟨t, rfl⟩ := abst_int e1; obtain ⟨u, rfl⟩ := abst_int e2; exact P.eq_int (Rs.now k (by show Q (.bool (i == j)) σ; rw [show (i == j) = decide (i = j) from by rw [Bool.eq_iff_iff]; simp]; exact h))
  · rename_i i j e1 e2; obtain ⟨t, rfl⟩ := abst_int e1; obtain ⟨u, rfl⟩ := abst_int e2; exact P.ne_int (Rs.now k (by show Q (.bool (i != j)) σ; rw [show (i != j) = decide (i ≠ j) from by rw [Bool.eq_iff_iff]; simp]; exact h))
  · rename_i i j e1 e2; rw [abst_bool e1, abst_bool e2]; exact eq_bool (Rs.now k (by show Q (.bool (i == j)) σ; rw [show (i == j) = decide (i = j) from by rw [Bool.eq_iff_iff]; simp]; exact h))
  · rename_i i j e1 e2; rw [abst_bool e1, abst_bool e2]; exact ne_bool (Rs.now k (by show Q (.bool (i != j)) σ; rw [show (i != j) = decide (i ≠ j) from by rw [Bool.eq_iff_iff]; simp]; exact h))
  · rename_i x y e1 e2
    rw [abst_ref e1, abst_ref e2]
    obtain ⟨xs, ys, ⟨hx, hy⟩, h⟩ := h
    obtain ⟨xa, gx, ex, _⟩ := k.sat _ _ hx
    obtain ⟨ya, gy, ey, _⟩ := k.sat _ _ hy
    refine ke_ne_ints (xs := xa.toList) (ys := ya.toList) (by simpa using gx.isList) (by simpa using gy.isList) (intsAre_of ex) (intsAre_of ey) hu (Rs.now k ?_)
    show Q (.bool (!decide (xs = ys))) σ
    rw [show (!decide (xs = ys)) = decide (xs ≠ ys) from by simp]; exact h
  · rename_i x y e1 e2
    obtain ⟨t, ⟨hx, hy⟩, h⟩ := h
    rw [← e1] at hx
    rw [← e2] at hy
    obtain ⟨⟨as, ra⟩, ca, da⟩ := trIs_reads k 6 a t hx
    obtain ⟨⟨bs, rb⟩, _, _⟩ := trIs_reads k 6 b t hy
    refine SeqAt.compareEq_reads ra rb ca ca (by omega) (Rs.now k ?_)
    rw [SeqAt.eqv_refl t ca]; exact h
  · exact h.elim

theorem seqIdx_ok {n : Int} {len j : Nat} (h : seqIdx n len j) (hj : j < len) : seqIndex? n len = some j := by
  unfold seqIndex?
  rcases h with h | h
  · have : ¬ n < 0 := by omega
    simp only [this, if_false]
    rw [if_pos (by simp; omega)]; simp; omega
  · have : n < 0 := by omega
    simp only [this, if_true]
    rw [if_pos (by simp; omega)]; simp; omega

theorem getItem_sound {a b : Value} {σ : AHeap} {s : Shared} {Q : V → AHeap → Prop} (k : Ok h0 σ s) (h : idxW (abst a) (abst b) σ fun v => Q v σ) : wpAny (model prog w) A (getItem a b) (Rs h0 Q σ s) E s := by
  unfold idxW at h
  split at h
  · rename_i x n e1 e2
    obtain ⟨t, rfl⟩ := abst_int e2
    rw [abst_ref e1]
    obtain ⟨xs, j, v, ⟨hs, hi, hv⟩, h⟩ := h
    have hj : j < xs.length := by
      rcases Nat.lt_or_ge j xs.length with q | q
      · exact q
      · rw [List.getElem?_eq_none q] at hv; cases hv
    rcases hs with hs | hs
    · obtain ⟨xa, g, rfl, hl⟩ := k.sat _ _ hs
      rw [List.getElem?_map] at hv
      obtain ⟨u, hu, rfl⟩ := Option.map_eq_some_iff.mp hv
      have hl' : (xa.toList.map abst).length ≤ 16777216 := hl
      have hsz : xa.size = (xa.toList.map abst).length := by simp
      rcases hi with hi | hi
      · refine wpAny_getItem_list g.isList (by omega) (by omega) (x := u) ?_ (Rs.now k h)
        rw [hi]; simpa using hu
      · refine wpAny_getItem_list_neg g.isList (by omega) (by omega) (by omega) (x := u) ?_ (Rs.now k h)
        rw [show (n + (xa.size : Int)).toNat = j by omega]; simpa using hu
    · obtain ⟨xa, m, g, rfl, hl⟩ := k.sat _ _ hs
      rw [List.getElem?_map] at hv
      obtain ⟨u, hu, rfl⟩ := Option.map_eq_some_iff.mp hv
      have hl' : (xa.toList.map abst).length ≤ 16777216 := hl
      have hsz : xa.size = (xa.toList.map abst).length := by simp
      have hlo : -(2 ^ 63 : Int) ≤ n := by rcases hi with hi | hi <;> omega
      have hhi : n < 2 ^ 63 := by rcases hi with hi | hi <;> omega
      exact getItem_tuple (ht := (⟨_, g, rfl, m, rfl⟩ : IsTup s.heap x xa)) hlo hhi (seqIdx_ok (by rw [hsz]; exact hi) (by rw [hsz]; exact hj)) (by simpa using hu) (Rs.now k h)
  · exact h.elim

theorem cut_eq (xs : Array Value) (lo hi : Option Int) : (slicePick xs lo hi none).toList.map abst = cut (xs.toList.map abst) lo hi := by
  rw [kms_pick_eq]
  simp only [kms_pick, cut, List.map_take, List.map_drop, List.length_map]
  have e1 : ∀ n, kms_lo lo n = cutLo lo n := fun n => by cases lo <;> rfl
  have e2 : ∀ n, kms_hi hi n = cutHi hi n := fun n => by cases hi <;> rfl
  rw [e1, e2]

theorem setItem_sound {a b v : Value} {σ : AHeap} {s : Shared} {Q : AHeap → Prop} (k : Ok h0 σ s) (h : storeIdxW (Bs h0) (abst a) (abst b) (abst v) σ Q) :
    wpAny (model prog w) A (setItem a b v) (fun _ s' => ∃ σ', Q σ' ∧ Post h0 nobody σ s σ' s') E s := by
  unfold storeIdxW at h
  split at h
  · rename_i x n e1 e2
    obtain ⟨t, rfl⟩ := abst_int e2
    rw [abst_ref e1]
    obtain ⟨xs, j, ⟨hb, hs, rfl, hj⟩, h⟩ := h
    obtain ⟨xa, ⟨m, g⟩, rfl, hl⟩ := k.sat _ _ hs
    have hl' : (xa.toList.map abst).length ≤ 16777216 := hl
    have hsz : xa.size = (xa.toList.map abst).length := by simp
    refine ki_setAt g (by omega) (by omega) (by omega) ?_
    have e : (s.heap.update x (Obj.mapSeq (·.setIfInBounds j v))).get? x = some { cls := .type "list", data := .seq (xa.setIfInBounds j v) m } := by
      rw [Heap.get?_update_self _ g (by simp [Obj.mapSeq, Obj.isFreed])]
      simp [Obj.mapSeq]
    refine ⟨_, h (σ.put x (.list ((xa.toList.map abst).set j (abst v)))) extBut_put (AHeap.put_self ..), .upd (tk := s.toks) k hs hb (Heap.SameBut.update ..) ⟨_, ⟨m, e⟩, ?_, by simpa using hl⟩⟩
    simp [List.map_set]
  · exact h.elim

theorem append_sound {a v : Value} {σ : AHeap} {s : Shared} {Q : V → AHeap → Prop} (k : Ok h0 σ s) (h : appW (Bs h0) (abst a) (abst v) σ Q) :
    wpAny (model prog w) A (call (.builtin "list.append") [a, v]) (Rs h0 Q σ s) E s := by
  unfold appW at h
  split at h
  · rename_i x e1
    rw [abst_ref e1]
    obtain ⟨xs, ⟨hb, hs, hl⟩, h⟩ := h
    obtain ⟨xa, g, rfl, _⟩ := k.sat _ _ hs
    have hl' : (xa.toList.map abst).length < 16777216 := hl
    have hsz : xa.size = (xa.toList.map abst).length := by simp
    refine wpAny_list_append_plain g (fun h' g' hs' => ?_) (by rw [sizeLine_eq]; omega)
    refine ⟨_, h (σ.put x (.list (xa.toList.map abst ++ [abst v]))) extBut_put (AHeap.put_self ..), .upd (tk := s.toks) k hs hb hs' ⟨_, g', by simp, ?_⟩⟩
    show (xa.toList.map abst ++ [abst v]).length ≤ 16777216
    rw [List.length_append, List.length_singleton]; omega
  · exact h.elim

end Mine
end
section
set_option maxRecDepth 100000
namespace Mine
open PySem PySem.W PyProof.Rows PySem.Calls

variable {h0 : Heap} {prog : Program} {w : World} {A : Around} {E : Value → Shared → Prop}

def bifV : Bif → Value
  | .len => .builtin "len" | .abs => .builtin "abs" | .int => .type "int" | .min => .builtin "min" | .max => .builtin "max" | .sum => .builtin "sum"

theorem Post.moved {own : Addr → Prop} {σ : AHeap} {s s' : Shared} (k : Ok h0 σ s) (hk : ∀ b ob, s.heap.get? b = some ob → s'.heap.get? b = some ob) (ho : s'.os = s.os) (hg : s'.gens = s.gens) : Post h0 own σ s σ s' where
  sat := fun a x e => (k.sat a x e).at' fun _ => hk _ _
  keep := fun a o e _ _ => hk _ _ e
  live := fun a o e => ⟨o, hk _ _ e⟩
  dom := fun a h => .inl h
  os := ho
  gens := hg

theorem preSum_eq (ns : List Int) : ∀ j, j ≤ ns.length → preSum (fun i => ns.getD i 0) j = (ns.take j).sum := by
  intro j
  induction j with
  | zero => intro _; simp [preSum]
  | succ j ih =>
    intro h
    rw [preSum, ih (by omega)]
    have : ns[j]? = some (ns[j]'(by omega)) := List.getElem?_eq_getElem (by omega)
    rw [List.take_add_one, this]
    simp [List.sum_append, List.getD, this, -List.take_append_getElem]

theorem map_one {α β : Type} {f : α → β} {l : List α} {b : β} (e : l.map f = [b]) : ∃ a, l = [a] ∧ f a = b := by
  cases l with
  | nil => cases e
  | cons x r => cases r with
    | nil => exact ⟨x, rfl, by simpa using e⟩
    | cons _ _ => cases e
theorem map_two {α β : Type} {f : α → β} {l : List α} {b c : β} (e : l.map f = [b, c]) : ∃ a d, l = [a, d] ∧ f a = b ∧ f d = c := by
  cases l with
  | nil => cases e
  | cons x r =>
    simp only [List.map_cons, List.cons.injEq] at e
    obtain ⟨y, rfl, q⟩ := map_one e.2
    exact ⟨x, y, rfl, e.1, q⟩

theorem bif_sound {b : Bif} {vs : List Value} {σ : AHeap} {s : Shared} {Q : V → AHeap → Prop} {n : Nat} (k : Ok h0 σ s) (R : Room A n) (h : bifW b (vs.map abst) σ fun v => Q v σ) :
    wpAny (model prog w) A (call (bifV b) vs) (Rs h0 Q σ s) E s := by
  unfold bifW at h
  split at h
  · rename_i a e
    obtain ⟨v, rfl, e1⟩ := map_one e
    rw [abst_ref e1]
    obtain ⟨xs, hs, h⟩ := h
    obtain ⟨xa, g, rfl, hl⟩ := k.sat _ _ hs
    have hl' : (xa.toList.map abst).length ≤ 16777216 := hl
    have hsz : xa.size = (xa.toList.map abst).length := by simp
    refine call_len_list g.isList (by omega) (Rs.here (n := s.toks + 1 + 1) k ?_)
    show Q (.int xa.size) σ
    rw [hsz]; exact h
  · rename_i i e
    obtain ⟨v, rfl, e1⟩ := map_one e
    obtain ⟨t, rfl⟩ := abst_int e1
    refine call_abs_int fun u tk => Rs.here k ?_
    show Q (.int _) σ
    rw [show (if i < 0 then -i else i) = (i.natAbs : Int) by split <;> omega]; exact h
  · rename_i i e
    obtain ⟨v, rfl, e1⟩ := map_one e
    obtain ⟨t, rfl⟩ := abst_int e1
    exact call_int_int (Rs.now k h)
  · rename_i i j e
    obtain ⟨v, u, rfl, e1, e2⟩ := map_two e
    obtain ⟨t, rfl⟩ := abst_int e1
    obtain ⟨t', rfl⟩ := abst_int e2
    refine min_two_ints R.handled fun h' tk hk => ⟨σ, ?_, .junk k hk⟩
    rw [show min i j = (if j < i then j else i) by simp only [Int.min_def]; split <;> split <;> omega] at h
    by_cases q : j < i
    · rw [if_pos q] at h ⊢; exact h
    · rw [if_neg q] at h ⊢; exact h
  · rename_i i j e
    obtain ⟨v, u, rfl, e1, e2⟩ := map_two e
    obtain ⟨t, rfl⟩ := abst_int e1
    obtain ⟨t', rfl⟩ := abst_int e2
    refine max_two_ints R.handled fun h' tk hk => ⟨σ, ?_, .junk k hk⟩
    rw [show max i j = (if j > i then j else i) by simp only [Int.max_def]; split <;> split <;> omega] at h
    by_cases q : j > i
    · rw [if_pos q] at h ⊢; exact h
    · rw [if_neg q] at h ⊢; exact h
  · rename_i a e
    obtain ⟨v, rfl, e1⟩ := map_one e
    rw [abst_ref e1]
    obtain ⟨ns, hs, h⟩ := h
    obtain ⟨xa, g, ex, hl⟩ := k.sat _ _ hs
    have hlen : xa.size = ns.length := by have := congrArg List.length ex; simpa using this
    have lt : a < s.heap.objs.size := by obtain ⟨m, g⟩ := g; exact Heap.lt_size g
    refine call_sum_walkAnyS (wpAny_pyIter_list g.isList ?_)
    refine ⟨s.heap.objs.size, [s.heap.objs.size, a], [s.heap.objs.size], _, xa.size, _, _, fun i => ns.getD i 0, rfl, (Walks.list (A := A.in1) R.handled s.heap.objs.size a (Nat.ne_of_lt lt) xa).toS,
      ⟨⟨_, Heap.get?_push_size _ rfl, rfl, rfl⟩, ?_⟩, ?_, ?_, ?_⟩
    · obtain ⟨m, g⟩ := g
      exact ⟨_, Heap.get?_push_of_some _ g, rfl, m, rfl⟩
    · intro b hb
      rw [Heap.size_push]
      simp only [List.mem_cons, List.not_mem_nil, or_false] at hb
      rcases hb with rfl | rfl
      · exact Nat.lt_succ_self _
      · exact Nat.lt_succ_of_lt lt
    · intro i v hv
      have : (xa.toList.map abst)[i]? = some (abst v) := by rw [List.getElem?_map]; simp [hv]
      rw [ex, List.getElem?_map] at this
      obtain ⟨m, hm, e2⟩ := Option.map_eq_some_iff.mp this
      obtain ⟨t, rfl⟩ := abst_int e2.symm
      exact ⟨t, by simp [List.getD, hm]⟩
    · intro s' t' M
      refine ⟨σ, ?_, .moved k (fun b ob e => M.heap b ob (fun hm => ?_) (Heap.get?_push_of_some _ e)) M.os M.gens⟩
      · show Q (.int (preSum _ _)) σ
        rw [hlen, preSum_eq ns _ (Nat.le_refl _), List.take_length]; exact h
      · have := Heap.lt_size e
        rw [List.mem_singleton.mp hm] at this
        exact absurd this (Nat.lt_irrefl _)
  · exact h.elim

end Mine
end
section
set_option maxRecDepth 100000
namespace Mine
open PySem PySem.W PyProof.Rows PySem.Calls

def GT0 : List (String × Nat) := [("OutOfRange", 49), ("normal", 58), ("nat_of", 65), ("compare", 72), ("add", 79), ("sub", 86), ("add_limb", 93), ("divrem_limb", 100), ("shift_left", 107), ("shift_right", 114), ("bits", 121), ("low", 128), ("signed", 135), ("s_of", 142), ("s_neg", 149), ("s_abs", 156), ("s_sign", 163), ("s_compare", 170), ("s_add", 177), ("s_sub", 184), ("s_mul", 191), ("tdiv", 198), ("fdiv", 205), ("s_shift", 212), ("NOUGHT", 214), ("dot", 221), ("row_less", 226), ("nearest_quotient", 233), ("Lattice", 304), ("mul_school", 315), ("divrem_small", 322), ("guessed_limb", 329), ("take_away", 336), ("put_back", 343), ("divide_rows", 350), ("divrem_school", 357), ("_law_raked", 364), ("_law_signed", 371), ("_law_plain", 376), ("_law_worth", 381), ("_law_is_same", 386), ("_law_sizes", 391), ("_law_product", 398)]
def GT : List (Str × Addr) := GT0.map fun x => (Str.ofString x.1, x.2)
def MT : List (Str × Addr) := [("product_of", 252), ("exact", 259), ("crossed", 266), ("take_in", 273), ("shorten", 280), ("is_upright", 287), ("exchange", 294), ("run", 301)]

def okL (kd : Str → Option NameKind) (nm : List Str) (i : Nat) : Bool := decide (i < nm.length) && (kd (nmAt nm i) == some .local || kd (nmAt nm i) == some .cell) && nmAt nm i != ("__debug__" : Str)
def okB (kd : Str → Option NameKind) (x : Str) : Bool := kd x == some .globalImplicit
def relabK (kd : Str → Option NameKind) (sc : Scope) (x : Str) : Option NameKind := (sc.names.map fun (n, k) => if (k == .free && kd n == some .cell) then (n, .cell) else (n, k)).lookup x
def nodupS : List Str → Bool
  | [] => true
  | x :: r => !r.contains x && nodupS r
def okTg (kd : Str → Option NameKind) (nm : List Str) : Tg → Bool
  | .one i _ => decide (i < nm.length) && kd (nmAt nm i) == some .local
  | .two i _ j _ _ => decide (i < nm.length) && kd (nmAt nm i) == some .local && decide (j < nm.length) && kd (nmAt nm j) == some .local
def okCap (kd : Str → Option NameKind) (nm : List Str) (sc : Scope) (cn : List Str) (cap : List (Option Nat)) : Bool :=
  sc.kind == .function && nodupS (sc.names.map (·.1)) && (sc.names.all fun (n, k) => k != .cell && (k != .local || sc.names.lookup n == some .local) && (k != .free || kd n == some .cell)) && nodupS cn && cn.length == cap.length &&
    ((cn.zip cap).all fun (x, c) => match c with
      | some j => decide (j < nm.length) && nmAt nm j == x && sc.names.lookup x == some .free
      | none => sc.names.lookup x == some .local)
def noCall : Ex → Bool
  | .call .. | .bif .. => false
  | _ => true
def plainTest : Ex → Bool
  | .loc .. | .glo .. | .idx .. | .call .. | .meth .. | .attr .. | .bif .. => true
  | _ => false
def exsLen : Exs → Nat
  | .nil => 0
  | .cons _ r => exsLen r + 1

def tgKind : Tg → Src → Bool
  | .one .., .range1 .. | .one .., .range2 .. | .one .., .range3 .. | .one .., .lst .. => true
  | .two .., .enum .. | .two .., .zip .. => true
  | _, _ => false

def okOp : Operator → Bool := fun _ => true
mutual
def okE (kd : Str → Option NameKind) (nm : List Str) : Ex → Bool
  | .loc i _ => okL kd nm i
  | .glo x v _ => okB kd x && x != ("__debug__" : Str) && (match v with | .ref a => GT.lookup x == some a | _ => false)
  | .num .. => true
  | .boo .. => true
  | .bin _ l r _ => okE kd nm l && okE kd nm r
  | .neg e _ => okE kd nm e
  | .not e _ => okE kd nm e
  | .conj l r _ => okE kd nm l && okE kd nm r
  | .cmp _ l r _ => okE kd nm l && okE kd nm r
  | .ite c a b _ => okT kd nm c && okE kd nm a && okE kd nm b
  | .attr e k _ => noCall e && decide (k < 8) && okE kd nm e
  | .idx e i _ => okE kd nm e && okE kd nm i
  | .slAll e _ _ => okE kd nm e
  | .slTo e h _ _ => okE kd nm e && okE kd nm h
  | .slFrom e l _ _ => okE kd nm e && okE kd nm l
  | .slBoth e l h _ _ => okE kd nm e && okE kd nm l && okE kd nm h
  | .tup es _ => decide (exsLen es < 20) && okEs kd nm es
  | .lst es _ => decide (exsLen es < 20) && okEs kd nm es
  | .call f as _ => (match f with | .attr .. => false | _ => true) && decide (exsLen as < 20) && okE kd nm f && okEs kd nm as
  | .meth e x f as q p => noCall e && MT.lookup x == some f && decide (exsLen as < 20) && q.endLine == p.line && okE kd nm e && okEs kd nm as
  | .app e a q p => noCall e && q.endLine == p.line && okE kd nm e && okE kd nm a
  | .bitl e q p => noCall e && q.endLine == p.line && okE kd nm e
  | .bif b as _ _ => okB kd b.name && decide (exsLen as < 20) && okEs kd nm as
  | .comp el tg s sc cn cap _ => tgKind tg s && okSrc kd nm s && okCap kd nm sc cn cap && okTg (relabK kd sc) cn tg && okE (relabK kd sc) cn el
  | .compIf el tg s c sc cn cap _ => tgKind tg s && okSrc kd nm s && okCap kd nm sc cn cap && okTg (relabK kd sc) cn tg && okT (relabK kd sc) cn c && okE (relabK kd sc) cn el
def okEs (kd : Str → Option NameKind) (nm : List Str) : Exs → Bool
  | .nil => true
  | .cons e r => okE kd nm e && okEs kd nm r
def okT (kd : Str → Option NameKind) (nm : List Str) : Tst → Bool
  | .cmp o l r _ => (o != .In && o != .NotIn) && okE kd nm l && okE kd nm r
  | .conj l r _ => okT kd nm l && okT kd nm r
  | .disj l r _ => okT kd nm l && okT kd nm r
  | .not c _ => okT kd nm c
  | .val e => plainTest e && okE kd nm e
def okSrc (kd : Str → Option NameKind) (nm : List Str) : Src → Bool
  | .range1 e _ _ => okB kd "range" && okE kd nm e
  | .range2 a b _ _ => okB kd "range" && okE kd nm a && okE kd nm b
  | .range3 a b c _ _ => okB kd "range" && okE kd nm a && okE kd nm b && okE kd nm c
  | .lst e => okE kd nm e
  | .enum e _ _ => okB kd "enumerate" && okE kd nm e
  | .zip a b _ _ => okB kd "zip" && okE kd nm a && okE kd nm b
end

structure KF (K : Frag) : Prop where
  glo : ∀ x a, GT.lookup x = some a → nsIn K mainGlobals x = some (some (.ref a))
  bfs : ∀ b : Bif, nsIn K mainGlobals b.name = some none
  rng : nsIn K mainGlobals "range" = some none
  enu : nsIn K mainGlobals "enumerate" = some none
  zip : nsIn K mainGlobals "zip" = some none
  meth : ∀ x f, MT.lookup x = some f → findIn K (.ref LAT) x = some (some (.ref f)) ∧ typeIn K (.ref f) = some (.type "function")
  ga : findIn K (.ref LAT) "__getattribute__" = some (some (.builtin "object.__getattribute__"))
  gat : findIn K (.ref LAT) "__getattr__" = some none
  hd : hasDictIn K LAT = true
  fld : ∀ k, k < 8 → findIn K (.ref LAT) (nmAt fieldNames k) = some none
  setA : findIn K (.ref LAT) "__setattr__" = some (some (.builtin "object.__setattr__"))
  over : plainOver K LAT = true

structure Gd (K : Frag) (h0 : Heap) (mg mb : Str → Option Value) : Prop where
  X : K.In h0
  g : h0.Ns mainGlobals mg
  b : h0.Ns builtinsNs mb
  lim : h0.NoLimit
  boot : ∀ x : Str, x ≠ "__name__" → mb x = bootBuiltins x
  kf : KF K

def SemCall (prog : Program) (w : World) (K : Frag) (h0 : Heap) (n : Nat) (f : V) (vs : List V) (σ : AHeap) (Q : V → AHeap → Prop) : Prop :=
  ∃ a, f = .ref a ∧ keepIn K (.ref a) = true ∧ ∀ (A : Around) (s : Shared) (vals : List Value), Room A n → Ok h0 σ s → vals.map abst = vs →
    codeAny (model prog w) A (.call (.ref a) ⟨vals, []⟩) (fun r s' => ∃ v σ', r = .ok (.ret v) ∧ Q (abst v) σ' ∧ Post h0 nobody σ s σ' s') s

section
variable {h0 : Heap} {prog : Program} {w : World} {K : Frag} {mg mb : Str → Option Value} (G : Gd K h0 mg mb) {n : Nat}

def SndE (prog : Program) (w : World) (K : Frag) (h0 : Heap) (n : Nat) (e : Ex) : Prop :=
  ∀ {env : Env} {nm : List Str} {ρ : Loc} {σ : AHeap} {Q : V → AHeap → Prop} {s : Shared} {A : Around} {E : Value → Shared → Prop}, okE env.kindOf nm e = true → EnvOk h0 env → Room A n → Ok h0 σ s → Fm env nm ρ σ s.heap →
    wpE (Bs h0) (SemCall prog w K h0 n) e ρ σ Q → wpAny (model prog w) A (eval (trE nm e) env) (Rs h0 Q σ s) E s
def SndEs (prog : Program) (w : World) (K : Frag) (h0 : Heap) (n : Nat) (es : Exs) : Prop :=
  ∀ {env : Env} {nm : List Str} {ρ : Loc} {σ : AHeap} {Q : List V → AHeap → Prop} {s : Shared} {A : Around} {E : Value → Shared → Prop} {pos : Pos}, okEs env.kindOf nm es = true → EnvOk h0 env → Room A n → Ok h0 σ s → Fm env nm ρ σ s.heap →
    wpEs (Bs h0) (SemCall prog w K h0 n) es ρ σ Q → wpAny (model prog w) A (spliced (backTo pos (starEach (trEs nm es) env))) (fun vs s' => ∃ σ', vs.length = exsLen es ∧ Q (vs.map abst) σ' ∧ Post h0 nobody σ s σ' s') E s
def SndT (prog : Program) (w : World) (K : Frag) (h0 : Heap) (n : Nat) (c : Tst) : Prop :=
  ∀ {env : Env} {nm : List Str} {ρ : Loc} {σ : AHeap} {Q : Bool → AHeap → Prop} {s : Shared} {A : Around} {E : Value → Shared → Prop}, okT env.kindOf nm c = true → EnvOk h0 env → Room A n → Ok h0 σ s → Fm env nm ρ σ s.heap →
    wpT (Bs h0) (SemCall prog w K h0 n) c ρ σ Q → wpAny (model prog w) A (isTrue (trT nm c) env (eval (trT nm c) env)) (Rb h0 Q σ s) E s

theorem nmAt_get {nm : List Str} {i : Nat} (h : i < nm.length) : nm[i]? = some (nmAt nm i) := by
  unfold nmAt; rw [List.getD_eq_getElem?_getD, List.getElem?_eq_getElem h]; rfl

theorem snd_loc (i : Nat) (p : Pos) : SndE prog w K h0 n (.loc i p) := by
  intro env nm ρ σ Q s A E ok eo R k F h
  simp only [okE, okL, Bool.and_eq_true, Bool.or_eq_true, decide_eq_true_eq, beq_iff_eq, bne_iff_ne, ne_eq] at ok
  obtain ⟨⟨hi, hk⟩, hd⟩ := ok
  have hd' : (nmAt nm i == ("__debug__" : Str)) = false := by simpa using hd
  unfold wpE at h
  split at h
  · rename_i v hv
    rcases hk with hk | hk
    · obtain ⟨m, hn, hm⟩ := F.ns
      obtain ⟨u, e1, e2⟩ := hm i _ v (nmAt_get hi) hk hv
      exact wpAny_Name (wpAny_loadName_local eo.kind hk hn e1 (Rs.now k (e2 ▸ h))) hd'
    · obtain ⟨c, u, e1, e2, e3⟩ := F.cell i _ v (nmAt_get hi) hk hv
      exact wpAny_Name (wpAny_loadName_cell eo.kind hk e1 e2 (Rs.now k (e3 ▸ h))) hd'
  · exact h.elim

include G in
theorem snd_glo (x : Str) (v : V) (p : Pos) : SndE prog w K h0 n (.glo x v p) := by
  intro env nm ρ σ Q s A E ok eo R k F h
  simp only [okE, okB, Bool.and_eq_true, beq_iff_eq, bne_iff_ne, ne_eq] at ok
  obtain ⟨⟨hk, hd⟩, hv⟩ := ok
  have hd' : (x == ("__debug__" : Str)) = false := by simpa using hd
  cases v with
  | ref a =>
    simp only [beq_iff_eq] at hv
    refine Name_function_global eo.kind hk (loadGlobal_global (by rw [eo.glob]; exact G.g.keeps k.base) (mg_of G.X G.g (G.kf.glo x a hv)) (Rs.now k ?_)) hd'
    exact h
  | _ => cases hv

theorem snd_num (i : Int) (p : Pos) : SndE prog w K h0 n (.num i p) := by
  intro env nm ρ σ Q s A E ok eo R k F h
  exact wpAny_Constant_int (Rs.here k h)
theorem snd_boo (b : Bool) (p : Pos) : SndE prog w K h0 n (.boo b p) := by
  intro env nm ρ σ Q s A E ok eo R k F h
  show wpAny _ _ (constValue env (.bool b)) _ _ _
  exact wpAny_pure (Rs.now k h)

theorem snd_bin (o : Operator) {l r : Ex} (hl : SndE prog w K h0 n l) (hr : SndE prog w K h0 n r) (p : Pos) : SndE prog w K h0 n (.bin o l r p) := by
  intro env nm ρ σ Q s A E ok eo R k F h
  simp only [okE, Bool.and_eq_true] at ok
  refine wpAny_BinOp (wpAny_mono (hl ok.1 eo R k F h) (fun a s1 ⟨σ1, h1, p1⟩ => ?_) fun _ _ e => e)
  have k1 := k.post0 p1
  refine wpAny_mono (hr ok.2 eo R k1 (F.post p1) h1) (fun b s2 ⟨σ2, h2, p2⟩ => ?_) fun _ _ e => e
  exact up (p1.trans p2) (bin_sound (k1.post0 p2) h2)

theorem snd_neg {e : Ex} (he : SndE prog w K h0 n e) (p : Pos) : SndE prog w K h0 n (.neg e p) := by
  intro env nm ρ σ Q s A E ok eo R k F h
  refine UnaryOp_ (wpAny_mono (he ok eo R k F h) (fun a s1 ⟨σ1, h1, p1⟩ => ?_) fun _ _ e => e)
  exact up p1 (neg_sound (k.post0 p1) h1)
theorem snd_not {e : Ex} (he : SndE prog w K h0 n e) (p : Pos) : SndE prog w K h0 n (.not e p) := by
  intro env nm ρ σ Q s A E ok eo R k F h
  refine UnaryOp_ (wpAny_mono (he ok eo R k F h) (fun a s1 ⟨σ1, h1, p1⟩ => ?_) fun _ _ e => e)
  refine not_of (wpAny_mono (truth_sound (Q := fun t σ => Q (.bool (!t)) σ) (k.post0 p1) h1) (fun t s2 ⟨σ2, h2, p2⟩ => ?_) fun _ _ e => e)
  exact ⟨σ2, h2, p1.trans p2⟩

theorem snd_conj {l r : Ex} (hl : SndE prog w K h0 n l) (hr : SndE prog w K h0 n r) (p : Pos) : SndE prog w K h0 n (.conj l r p) := by
  intro env nm ρ σ Q s A E ok eo R k F h
  simp only [okE, Bool.and_eq_true] at ok
  refine BoolOp_and (wpAny_mono (hl ok.1 eo R k F h) (fun a s1 ⟨σ1, h1, p1⟩ => ?_) fun _ _ e => e)
  have k1 := k.post0 p1
  refine wpAny_mono (truth_sound (Q := fun t σ => (t = true → wpE (Bs h0) (SemCall prog w K h0 n) r ρ σ Q) ∧ (t = false → Q (abst a) σ)) k1 h1) (fun t s2 ⟨σ2, h2, p2⟩ => ?_) fun _ _ e => e
  cases t with
  | true =>
    rw [if_pos rfl]
    exact BoolOp_one (up (p1.trans p2) (hr ok.2 eo R (k1.post0 p2) ((F.post p1).post p2) (h2.1 rfl)))
  | false =>
    rw [if_neg (by decide)]
    exact ⟨σ2, h2.2 rfl, p1.trans p2⟩

theorem behind_no {o : CmpOp} {nm : List Str} : ∀ (r : Ex), behindInMarks o (trE nm r) = false := by
  intro r; cases r <;> rfl

theorem snd_cmp (o : CmpOp) {l r : Ex} (hl : SndE prog w K h0 n l) (hr : SndE prog w K h0 n r) (p : Pos) : SndE prog w K h0 n (.cmp o l r p) := by
  intro env nm ρ σ Q s A E ok eo R k F h
  simp only [okE, Bool.and_eq_true] at ok
  refine wpAny_Compare1 (wpAny_mono (hl ok.1 eo R k F h) (fun a s1 ⟨σ1, h1, p1⟩ => ?_) fun _ _ e => e) (behind_no r)
  have k1 := k.post0 p1
  refine wpAny_mono (hr ok.2 eo R k1 (F.post p1) h1) (fun b s2 ⟨σ2, h2, p2⟩ => ?_) fun _ _ e => e
  exact up (p1.trans p2) (cmp_sound (k1.post0 p2) R h2)

theorem snd_ite {c : Tst} {a b : Ex} (hc : SndT prog w K h0 n c) (ha : SndE prog w K h0 n a) (hb : SndE prog w K h0 n b) (p : Pos) : SndE prog w K h0 n (.ite c a b p) := by
  intro env nm ρ σ Q s A E ok eo R k F h
  simp only [okE, Bool.and_eq_true] at ok
  refine IfExp_ (wpAny_mono (hc ok.1.1 eo R k F h) (fun t s1 ⟨σ1, h1, p1⟩ => ?_) fun _ _ e => e)
  have k1 := k.post0 p1
  cases t with
  | true => rw [if_pos rfl]; exact up p1 (ha ok.1.2 eo R k1 (F.post p1) (h1.1 rfl))
  | false => rw [if_neg (by decide)]; exact up p1 (hb ok.2 eo R k1 (F.post p1) (h1.2 rfl))

theorem tail_sound {value slice : Expr} {a b : Value} {σ : AHeap} {s : Shared} {Q : V → AHeap → Prop} {A : Around} {E : Value → Shared → Prop} (k : Ok h0 σ s) (hs : subscripted slice false a b = operate [a, b] (getItem a b)) (h : idxW (abst a) (abst b) σ fun v => Q v σ) :
    wpAny (model prog w) A (subscriptTail value slice a b) (Rs h0 Q σ s) E s := by
  have g := getItem_sound (prog := prog) (w := w) (A := A) (E := E) k h
  unfold idxW at h
  split at h
  · rename_i x i e1 e2
    obtain ⟨xs, j, v, ⟨hx, _⟩, _⟩ := h
    rw [abst_ref e1] at g hs ⊢
    rcases hx with hx | hx
    · obtain ⟨xa, ⟨m, gg⟩, _⟩ := k.sat _ _ hx
      exact tail_any (T := "list") ⟨_, gg, rfl⟩ slot_list_getitem.lookup g hs
    · obtain ⟨xa, m, gg, _⟩ := k.sat _ _ hx
      exact tail_any (T := "tuple") ⟨_, gg, rfl⟩ slot_tuple_getitem.lookup g hs
  · exact h.elim

theorem sub_plain {nm : List Str} (i : Ex) (a b : Value) : subscripted (trE nm i) false a b = operate [a, b] (getItem a b) := by cases i <;> rfl

theorem snd_idx {e i : Ex} (he : SndE prog w K h0 n e) (hi : SndE prog w K h0 n i) (p : Pos) : SndE prog w K h0 n (.idx e i p) := by
  intro env nm ρ σ Q s A E ok eo R k F h
  simp only [okE, Bool.and_eq_true] at ok
  refine Subscript_ (wpAny_mono (he ok.1 eo R k F h) (fun a s1 ⟨σ1, h1, p1⟩ => ?_) fun _ _ e => e)
  have k1 := k.post0 p1
  refine wpAny_mono (hi ok.2 eo R k1 (F.post p1) h1) (fun b s2 ⟨σ2, h2, p2⟩ => ?_) fun _ _ e => e
  exact up (p1.trans p2) (tail_sound (k1.post0 p2) (sub_plain i a b) h2)

theorem sub_slice {env : Env} {value : Expr} {lower upper : Option Expr} {p pos : Pos} {Q : Value → Shared → Prop} {s : Shared} {A : Around} {E : Value → Shared → Prop}
    (h : wpAny (model prog w) A (eval value env) (fun o s₁ => wpAny (model prog w) A (evalPart lower env) (fun vl s₂ => wpAny (model prog w) A (evalPart upper env) (fun vu s₃ =>
      ∃ l items lo hi, o = .ref l ∧ s₃.heap.IsList l items ∧ items.size ≤ sizeLine ∧ IsPart vl lo ∧ IsPart vu hi ∧
        Q (.ref (s₃.heap.objs.size + 1)) { s₃ with heap := (s₃.heap.push { cls := .type "slice", data := .fields #[vl, vu, .none] }).push { cls := .type "list", data := .seq (slicePick items lo hi none) } }) E s₂) E s₁) E s) :
    wpAny (model prog w) A (eval (.Subscript value (.Slice lower upper none p) pos) env) Q E s := by
  refine Subscript_ (wpAny_mono h (fun o s₁ h₁ => wpAny_Slice (wpAny_mono h₁ (fun vl s₂ h₂ => wpAny_mono h₂ (fun vu s₃ h₃ => ?_) fun _ _ e => e) fun _ _ e => e)) fun _ _ e => e)
  obtain ⟨l, items, lo, hi, rfl, hl, hsz, pl, pu, hQ⟩ := h₃
  rw [evalPart_none]
  refine wpAny_pure (tail_any (T := "list") (hl.push _).typeIs slot_list_getitem.lookup ?_ (ops := [.ref s₃.heap.objs.size, .ref l]) rfl)
  refine wpAny_getItem_list_slice (hl.push _) (Heap.IsSliceOf.new ..) pl pu .none (by simp) ?_ hsz
  rw [Heap.size_push]
  exact hQ

theorem slice_end {a vl vu : Value} {lo hi : Option Int} {σ : AHeap} {s : Shared} {Q : V → AHeap → Prop} (k : Ok h0 σ s) (pl : IsPart vl lo) (pu : IsPart vu hi) (h : slW (Bs h0) (abst a) lo hi σ Q) :
    ∃ l items, a = .ref l ∧ s.heap.IsList l items ∧ items.size ≤ sizeLine ∧
        Rs h0 Q σ s (.ref (s.heap.objs.size + 1)) { s with heap := (s.heap.push { cls := .type "slice", data := .fields #[vl, vu, .none] }).push { cls := .type "list", data := .seq (slicePick items lo hi none) } } := by
  unfold slW at h
  split at h
  · rename_i x e
    obtain ⟨xs, hx, h⟩ := h
    obtain ⟨xa, g, rfl, hl⟩ := k.sat _ _ hx
    have hl' : (xa.toList.map abst).length ≤ 16777216 := hl
    have hsz : xa.size = (xa.toList.map abst).length := by simp
    refine ⟨x, xa, abst_ref e, g.isList, by rw [sizeLine_eq]; omega, ?_⟩
    have j := Post.junk (own := nobody) (σ := σ) (tk := s.toks) k (fun b ob e => Heap.get?_push_of_some ({ cls := .type "slice", data := .fields #[vl, vu, .none] } : Obj) e)
    have r := Rs.list (Q := Q) (k.post0 j) (xs := slicePick xa lo hi none) (by have := slicePick_size_le xa lo hi none; show _ ≤ 16777216; omega) (by rw [cut_eq]; exact h)
    have r' := r.up j
    rw [show ({ s with heap := s.heap.push { cls := .type "slice", data := .fields #[vl, vu, .none] } } : Shared).heap.objs.size = s.heap.objs.size + 1 from Heap.size_push _ _] at r'
    exact r'
  · exact h.elim

theorem snd_slAll {e : Ex} (he : SndE prog w K h0 n e) (q p : Pos) : SndE prog w K h0 n (.slAll e q p) := by
  intro env nm ρ σ Q s A E ok eo R k F h
  refine sub_slice (wpAny_mono (he ok eo R k F h) (fun a s1 ⟨σ1, h1, p1⟩ => ?_) fun _ _ e => e)
  refine evalPart_none_step (evalPart_none_step ?_)
  obtain ⟨l, its, e1, e2, e3, r⟩ := slice_end (k.post0 p1) .none .none h1
  exact ⟨l, its, none, none, e1, e2, e3, .none, .none, r.up p1⟩
theorem snd_slTo {e u : Ex} (he : SndE prog w K h0 n e) (hu : SndE prog w K h0 n u) (q p : Pos) : SndE prog w K h0 n (.slTo e u q p) := by
  intro env nm ρ σ Q s A E ok eo R k F h
  simp only [okE, Bool.and_eq_true] at ok
  refine sub_slice (wpAny_mono (he ok.1 eo R k F h) (fun a s1 ⟨σ1, h1, p1⟩ => ?_) fun _ _ e => e)
  have k1 := k.post0 p1
  refine evalPart_none_step (evalPart_some_step (wpAny_mono (hu ok.2 eo R k1 (F.post p1) h1) (fun b s2 ⟨σ2, h2, p2⟩ => ?_) fun _ _ e => e))
  replace h2 := h2
  dsimp only at h2
  unfold intW at h2
  split at h2
  · rename_i i ei
    obtain ⟨t, rfl⟩ := abst_int ei
    obtain ⟨l, its, e1, e2, e3, r⟩ := slice_end (k1.post0 p2) .none (.int i t) h2
    exact ⟨l, its, none, some i, e1, e2, e3, .none, .int i t, r.up (p1.trans p2)⟩
  · exact h2.elim
theorem snd_slFrom {e u : Ex} (he : SndE prog w K h0 n e) (hu : SndE prog w K h0 n u) (q p : Pos) : SndE prog w K h0 n (.slFrom e u q p) := by
  intro env nm ρ σ Q s A E ok eo R k F h
  simp only [okE, Bool.and_eq_true] at ok
  refine sub_slice (wpAny_mono (he ok.1 eo R k F h) (fun a s1 ⟨σ1, h1, p1⟩ => ?_) fun _ _ e => e)
  have k1 := k.post0 p1
  refine evalPart_some_step (wpAny_mono (hu ok.2 eo R k1 (F.post p1) h1) (fun b s2 ⟨σ2, h2, p2⟩ => ?_) fun _ _ e => e)
  replace h2 := h2
  dsimp only at h2
  unfold intW at h2
  split at h2
  · rename_i i ei
    obtain ⟨t, rfl⟩ := abst_int ei
    obtain ⟨l, its, e1, e2, e3, r⟩ := slice_end (k1.post0 p2) (.int i t) .none h2
    exact evalPart_none_step ⟨l, its, some i, none, e1, e2, e3, .int i t, .none, r.up (p1.trans p2)⟩
  · exact h2.elim
theorem snd_slBoth {e l u : Ex} (he : SndE prog w K h0 n e) (hl : SndE prog w K h0 n l) (hu : SndE prog w K h0 n u) (q p : Pos) : SndE prog w K h0 n (.slBoth e l u q p) := by
  intro env nm ρ σ Q s A E ok eo R k F h
  simp only [okE, Bool.and_eq_true] at ok
  refine sub_slice (wpAny_mono (he ok.1.1 eo R k F h) (fun a s1 ⟨σ1, h1, p1⟩ => ?_) fun _ _ e => e)
  have k1 := k.post0 p1
  refine evalPart_some_step (wpAny_mono (hl ok.1.2 eo R k1 (F.post p1) h1) (fun b s2 ⟨σ2, h2, p2⟩ => ?_) fun _ _ e => e)
  have k2 := k1.post0 p2
  replace h2 := h2
  dsimp only at h2
  unfold intW at h2
  split at h2
  · rename_i i ei
    obtain ⟨t, rfl⟩ := abst_int ei
    refine evalPart_some_step (wpAny_mono (hu ok.2 eo R k2 ((F.post p1).post p2) h2) (fun c s3 ⟨σ3, h3, p3⟩ => ?_) fun _ _ e => e)
    dsimp only at h3
    split at h3
    · rename_i j ej
      obtain ⟨t', rfl⟩ := abst_int ej
      obtain ⟨l, its, e1, e2, e3, r⟩ := slice_end (k2.post0 p3) (.int i t) (.int j t') h3
      exact ⟨l, its, some i, some j, e1, e2, e3, .int i t, .int j t', r.up ((p1.trans p2).trans p3)⟩
    · exact h3.elim
  · exact h2.elim

theorem star_tr {nm : List Str} {env : Env} {l : List Expr} : ∀ (e : Ex), starEach (trE nm e :: l) env = (false, eval (trE nm e) env) :: starEach l env := by
  intro e; cases e <;> rfl
theorem star_all {nm : List Str} {env : Env} {pos : Pos} : ∀ (es : Exs), (backTo pos (starEach (trEs nm es) env)).any (·.1) = false
  | .nil => rfl
  | .cons e r => by
    have := star_all (nm := nm) (env := env) (pos := pos) r
    show (backTo pos (starEach (trE nm e :: trEs nm r) env)).any (·.1) = false
    rw [star_tr]
    simpa [backTo] using this
theorem trEs_len {nm : List Str} : ∀ (es : Exs), (trEs nm es).length = exsLen es
  | .nil => rfl
  | .cons _ r => by rw [trEs, List.length_cons, trEs_len r, exsLen]

theorem snds_nil : SndEs prog w K h0 n .nil := by
  intro env nm ρ σ Q s A E pos ok eo R k F h
  exact spliced_none ⟨σ, rfl, h, .refl k⟩
theorem snds_cons {e : Ex} {r : Exs} (he : SndE prog w K h0 n e) (hr : SndEs prog w K h0 n r) : SndEs prog w K h0 n (.cons e r) := by
  intro env nm ρ σ Q s A E pos ok eo R k F h
  simp only [okEs, Bool.and_eq_true] at ok
  refine spliced_more (wpAny_mono (he ok.1 eo R k F h) (fun a s1 ⟨σ1, h1, p1⟩ => ?_) fun _ _ e => e) (star_tr e)
  have k1 := k.post0 p1
  refine wpAny_mono (hr ok.2 eo R k1 (F.post p1) h1) (fun vs s2 ⟨σ2, hl, h2, p2⟩ => ?_) fun _ _ e => e
  exact ⟨σ2, by rw [List.length_cons, hl, exsLen], h2, p1.trans p2⟩

theorem snd_tup {es : Exs} (he : SndEs prog w K h0 n es) (p : Pos) : SndE prog w K h0 n (.tup es p) := by
  intro env nm ρ σ Q s A E ok eo R k F h
  simp only [okE, Bool.and_eq_true, decide_eq_true_eq] at ok
  refine Tuple_ (wpAny_mono (he ok.2 eo R k F h) (fun vs s1 ⟨σ1, hl, h1, p1⟩ => ?_) fun _ _ e => e)
  refine up p1 (wpAny_newTuple (Rs.tup (k.post0 p1) (by rw [List.size_toArray]; show _ ≤ 16777216; omega) (by simpa using h1)) (by rw [sizeLine_eq]; omega))
theorem snd_lst {es : Exs} (he : SndEs prog w K h0 n es) (p : Pos) : SndE prog w K h0 n (.lst es p) := by
  intro env nm ρ σ Q s A E ok eo R k F h
  simp only [okE, Bool.and_eq_true, decide_eq_true_eq] at ok
  refine List_ (wpAny_mono (he ok.2 eo R k F h) (fun vs s1 ⟨σ1, hl, h1, p1⟩ => ?_) fun _ _ e => e)
  refine up p1 (wpAny_newList (Rs.list (k.post0 p1) (by rw [List.size_toArray]; show _ ≤ 16777216; omega) (by simpa using h1)) (by rw [sizeLine_eq]; omega))

end
end Mine
end
section
set_option maxRecDepth 100000
namespace Mine
open PySem PySem.W PyProof.Rows PySem.Calls

section
variable {h0 : Heap} {prog : Program} {w : World} {K : Frag} {mg mb : Str → Option Value} (G : Gd K h0 mg mb) {n : Nat}

theorem isStr_name {i j : Nat} {t : Tok} (hi : i < 8) (hj : j < 8) : (Value.str (nmAt fieldNames i) t).isStr (nmAt fieldNames j) = decide (i = j) := by
  have : ∀ i : Fin 8, ∀ j : Fin 8, (nmAt fieldNames i.val == nmAt fieldNames j.val) = decide (i.val = j.val) := by decide +kernel
  exact this ⟨i, hi⟩ ⟨j, hj⟩

theorem find_at {α : Type} {p : α → Bool} : ∀ {l : List α} {k : Nat} {e : α}, l[k]? = some e → p e = true → (∀ j e', j < k → l[j]? = some e' → p e' = false) → l.find? p = some e
  | [], _, _, h, _, _ => by simp at h
  | x :: l, 0, e, h, hp, _ => by
    simp only [List.getElem?_cons_zero, Option.some.injEq] at h; subst h
    rw [List.find?_cons, hp]
  | x :: l, k + 1, e, h, hp, hn => by
    rw [List.find?_cons, hn 0 x (Nat.succ_pos _) rfl]
    exact find_at (l := l) (k := k) (by simpa using h) hp fun j e' hj he => hn (j + 1) e' (Nat.succ_lt_succ hj) (by simpa using he)
theorem find_not {α : Type} {p : α → Bool} : ∀ {l : List α}, (∀ (j : Nat) e', l[j]? = some e' → p e' = false) → l.find? p = none
  | [], _ => rfl
  | x :: l, hn => by
    rw [List.find?_cons, hn 0 x rfl]
    exact find_not fun j e' he => hn (j + 1) e' (by simpa using he)

theorem fields_get {es : List DictEntry} {vs : List V} {k : Nat} {v : V} (f : FieldsAre es vs) (h8 : vs.length ≤ 8) (hk : vs[k]? = some v) : ∃ u, getL (nmAt fieldNames k) es = some (some u) ∧ abst u = v := by
  have hlt : k < vs.length := by
    rcases Nat.lt_or_ge k vs.length with q | q
    · exact q
    · rw [List.getElem?_eq_none q] at hk; cases hk
  have hle : k < es.length := by rw [f.1]; exact hlt
  obtain ⟨⟨t, ek⟩, ev⟩ := f.2 k es[k] (List.getElem?_eq_getElem hle)
  refine ⟨es[k].val, ?_, by rw [hk] at ev; cases ev; rfl⟩
  unfold getL
  rw [find_at (p := fun x => x.key.isStr (nmAt fieldNames k)) (k := k) (List.getElem?_eq_getElem hle) (by rw [ek, isStr_name (by omega) (by omega)]; simp) fun j e' hj he => ?_]
  obtain ⟨⟨t', ek'⟩, _⟩ := f.2 j e' he
  rw [ek', isStr_name (by omega) (by omega)]; simp; omega

theorem fields_no {es : List DictEntry} {vs : List V} {x : Str} (f : FieldsAre es vs) (h8 : vs.length ≤ 8) (hx : ∀ i, i < vs.length → nmAt fieldNames i ≠ x) : getL x es = some none := by
  unfold getL
  have nf : es.find? (fun e => e.key.isStr x) = none := find_not fun j e' he => ?_
  rw [nf]
  · have : es.any (·.refKey) = false := by
      rw [List.any_eq_false]
      intro e he
      obtain ⟨j, hj, rfl⟩ := List.mem_iff_getElem.mp he
      obtain ⟨⟨t, ek⟩, _⟩ := f.2 j es[j] (List.getElem?_eq_getElem hj)
      unfold DictEntry.refKey; rw [ek]; simp
    simp only [this, Bool.false_eq_true, if_false]
  · obtain ⟨⟨t', ek'⟩, ev⟩ := f.2 j e' he
    have hj : j < vs.length := by
      rcases Nat.lt_or_ge j vs.length with q | q
      · exact q
      · rw [List.getElem?_eq_none q] at ev; cases ev
    rw [ek']
    show (nmAt fieldNames j == x) = false
    exact beq_eq_false_iff_ne.mpr (hx j hj)

theorem inst_at {σ : AHeap} {s : Shared} (k : Ok h0 σ s) {x dx : Addr} {vs : List V} (hx : σ x = some (.inst dx)) (hd : σ dx = some (.dict vs)) : ∃ es n, FieldsAre es vs ∧ vs.length ≤ 8 ∧ s.heap.get? dx = some (dictOf es n) ∧ s.heap.get? x = some (instObj LAT dx) ∧
    PySem.W.InstAt s.heap x (instObj LAT dx) LAT (some (dictOf es n)) := by
  have gx := k.sat _ _ hx
  obtain ⟨es, n, gd, f, h8⟩ := k.sat _ _ hd
  exact ⟨es, n, f, h8, gd, gx, ⟨gx, rfl, rfl, gd⟩⟩

include G in
theorem attr_sound {a : Value} {kx : Nat} {σ : AHeap} {s : Shared} {Q : V → AHeap → Prop} {A : Around} {E : Value → Shared → Prop} (k : Ok h0 σ s) (hk : kx < 8) (h : attrW (abst a) kx σ fun v => Q v σ) {b : Bool} :
    wpAny (model prog w) A (getAttr a (nmAt fieldNames kx) b) (Rs h0 Q σ s) E s := by
  unfold attrW at h
  split at h
  · rename_i x e
    rw [abst_ref e]
    obtain ⟨dx, vs, v, ⟨hx, hd, hv, hp⟩, h⟩ := h
    obtain ⟨es, m, f, h8, gd, gx, I⟩ := inst_at k hx hd
    obtain ⟨u, hu, eu⟩ := fields_get f h8 hv
    have X := G.X.keeps k.base
    have hh : handedIn u = true := by subst eu; cases u <;> first | rfl | exact hp.elim
    have fo : findObj K LAT (some (dictOf es m)) (nmAt fieldNames kx) = some (.value u) := findObj_own G.kf.hd (G.kf.fld kx hk) rfl (by rw [lookIn_dict]; exact hu)
    exact get_value X I G.kf.ga fo hh (Rs.here k (eu ▸ h))
  · exact h.elim

theorem base_of {nm : List Str} {env : Env} {attr : Str} {whole : Sem Value} (e : Ex) (h : noCall e = true) : attributeBase (trE nm e) attr env whole = whole := by
  cases e <;> first | rfl | (exfalso; revert h; decide) | cases h

include G in
theorem snd_attr {e : Ex} (he : SndE prog w K h0 n e) (kx : Nat) (p : Pos) : SndE prog w K h0 n (.attr e kx p) := by
  intro env nm ρ σ Q s A E ok eo R k F h
  simp only [okE, Bool.and_eq_true, decide_eq_true_eq] at ok
  show wpAny _ _ (eval (.Attribute (trE nm e) (nmAt fieldNames kx) p) env) _ _ _
  rw [arm_eval_Attribute, base_of e ok.1.1]
  refine wpAny_bind (wpAny_mono (he ok.2 eo R k F h) (fun a s1 ⟨σ1, h1, p1⟩ => ?_) fun _ _ e => e)
  refine wpAny_bind (wpAny_standAt (wpAny_bind (wpAny_holding (wpAny_mono (attr_sound G (k.post0 p1) ok.1.2 h1) (fun r s2 r2 => ?_) fun _ _ e => e))))
  exact wpAny_bind (wpAny_letTemporaryGo (wpAny_pure (r2.up p1)))

theorem evalArgs_nil' {M : Model} {A : Around} {E : Value → Shared → Prop} {s : Shared} {f : Value} {Q : Args → Shared → Prop} (h : wpAny M A (spliced []) (fun vs s' => Q ⟨vs, []⟩ s') E s) : wpAny M A (evalArgs f true [] []) Q E s := by
  unfold evalArgs
  show wpAny M A (spliced [] >>= _) Q E s
  refine wpAny_bind (wpAny_mono h (fun vs s1 h1 => ?_) fun _ _ e => e)
  refine wpAny_bind (wpAny_pure ?_)
  refine wpAny_holding ?_
  exact wpAny_bind (wpAny_pure (wpAny_bind (wpAny_pure (wpAny_pure h1))))

theorem keep_call {M : Model} {A : Around} {E : Value → Shared → Prop} {nm : List Str} {env : Env} {pos : Pos} {f : Value} {first : List Value} {as : Exs} {Q : Value → Shared → Prop} {s : Shared} {P : Heap → Prop}
    (hk : ∀ h, P h → ∃ k, (k = Keeper.frame ∨ k = Keeper.machine ∨ k = Keeper.boundFrame) ∧ Looks M h (keeperOf f) k)
    (h : wpAny M A (spliced (backTo pos (starEach (trEs nm as) env))) (fun vs s₁ => P s₁.heap ∧ wpAny M A (call f (first ++ vs)) Q E s₁) E s) :
    wpAny M A (callWith pos f first (backTo pos (starEach (trEs nm as) env)) []) Q E s := by
  refine callWith_of (P := P) (by rw [star_all]; rfl) hk ?_
  cases as with
  | nil => exact evalArgs_nil' h
  | cons e r =>
    show wpAny M A (evalArgs f true (backTo pos (starEach (trE nm e :: trEs nm r) env)) []) _ E s
    have h' : wpAny M A (spliced (backTo pos (starEach (trE nm e :: trEs nm r) env))) (fun vs s₁ => P s₁.heap ∧ wpAny M A (call f (first ++ vs)) Q E s₁) E s := h
    rw [star_tr] at h' ⊢
    exact evalArgs_plain h'

theorem cmpW_mono {o : CmpOp} {a b : V} {σ : AHeap} {Q Q' : Bool → Prop} (m : ∀ t, Q t → Q' t) (h : cmpW o a b σ Q) : cmpW o a b σ Q' := by
  unfold cmpW at h ⊢
  split at h
  all_goals first
    | exact m _ h
    | (obtain ⟨xs, ys, h1, h2⟩ := h; exact ⟨xs, ys, h1, m _ h2⟩)
    | (obtain ⟨xs, h1, h2⟩ := h; exact ⟨xs, h1, m _ h2⟩)
    | exact h.elim

theorem call_end {a : Addr} {vals : List Value} {σ : AHeap} {s : Shared} {Q : V → AHeap → Prop} {A : Around} {E : Value → Shared → Prop}
    (h : codeAny (model prog w) A (.call (.ref a) ⟨vals, []⟩) (fun r s' => ∃ v σ', r = .ok (.ret v) ∧ Q (abst v) σ' ∧ Post h0 nobody σ s σ' s') s) :
    wpAny (model prog w) A (call (.ref a) vals) (Rs h0 Q σ s) E s :=
  wpAny_call (codeAny_mono h fun r s' ⟨v, σ', e, q, p⟩ => by subst e; exact ⟨σ', q, p⟩)

theorem snd_call_core {nm : List Str} {env : Env} {pos : Pos} {first : List Value} {as : Exs} {ρ : Loc} (has : SndEs prog w K h0 n as) {g : Value} {fs : List V} {σ : AHeap} {Q : V → AHeap → Prop} {s : Shared} {A : Around} {E : Value → Shared → Prop}
    (X : K.In h0) (ok : okEs env.kindOf nm as = true) (eo : EnvOk h0 env) (R : Room A n) (k : Ok h0 σ s) (F : Fm env nm ρ σ s.heap) (hf : first.map abst = fs)
    (h : wpEs (Bs h0) (SemCall prog w K h0 n) as ρ σ fun vs σ => SemCall prog w K h0 n (abst g) (fs ++ vs) σ Q) :
    wpAny (model prog w) A (callWith pos g first (backTo pos (starEach (trEs nm as) env)) []) (Rs h0 Q σ s) E s := by
  refine keep_call (P := fun h => K.In h ∧ ∃ a, g = .ref a ∧ keepIn K (.ref a) = true) (fun hp x => by obtain ⟨x, a, rfl, hk⟩ := x; exact keeps_K hk hp x)
    (wpAny_mono (has ok eo R k F h) (fun vs s1 ⟨σ1, _, h1, p1⟩ => ?_) fun _ _ e => e)
  obtain ⟨b, eb, hk, hc⟩ := h1
  have eg := abst_ref eb
  subst eg
  refine ⟨⟨X.keeps (k.post0 p1).base, b, rfl, hk⟩, ?_⟩
  exact up p1 (call_end (hc A s1 (first ++ vs) R (k.post0 p1) (by rw [List.map_append, hf])))

include G in
theorem snd_call {f : Ex} {as : Exs} (hf : SndE prog w K h0 n f) (has : SndEs prog w K h0 n as) (p : Pos) : SndE prog w K h0 n (.call f as p) := by
  intro env nm ρ σ Q s A E ok eo R k F h
  simp only [okE, Bool.and_eq_true, decide_eq_true_eq] at ok
  obtain ⟨⟨⟨o1, o2⟩, o3⟩, o4⟩ := ok
  have e0 : eval (.Call (trE nm f) (trEs nm as) [] p) env = (eval (trE nm f) env >>= fun g => callWith p g [] (backTo p (starEach (trEs nm as) env)) (backToKw p (keywordEach [] env))) := by
    cases f <;> first | rfl | cases o1
  show wpAny _ _ (eval (.Call (trE nm f) (trEs nm as) [] p) env) _ _ _
  rw [e0]
  refine wpAny_bind (wpAny_mono (hf o3 eo R k F h) (fun g s1 ⟨σ1, h1, p1⟩ => ?_) fun _ _ e => e)
  exact up p1 (snd_call_core has G.X o4 eo R (k.post0 p1) (F.post p1) rfl h1)

theorem method_form {env : Env} {nm : List Str} {p : Pos} (as : Exs) (hl : exsLen as < 20) : methodCallForm ((trEs nm as).length + ([] : List Keyword).length) (backTo p (starEach (trEs nm as) env)) (backToKw p (keywordEach [] env)) = true := by
  unfold methodCallForm
  have h1 : (backTo p (starEach (trEs nm as) env)).all (fun x => !x.1) = true := by
    have := star_all (nm := nm) (env := env) (pos := p) as
    rw [List.any_eq_false] at this
    rw [List.all_eq_true]
    intro x hx
    simpa using this x hx
  rw [h1, trEs_len]
  simp [backToKw, keywordEach]; omega

theorem meth_open {env : Env} {nm : List Str} {e : Ex} {x : Str} {as : List Expr} {q p : Pos} {A : Around} {E : Value → Shared → Prop} {s : Shared} {Q : Value → Shared → Prop} (hb : noCall e = true) (hq : (q.endLine == p.line) = true)
    (hfm : methodCallForm (as.length + ([] : List Keyword).length) (backTo p (starEach as env)) (backToKw p (keywordEach [] env)) = true)
    (h : wpAny (model prog w) A (eval (trE nm e) env) (fun ov s₁ => ∀ pl, wpAny (model prog w) A (getMethod ov x pl) (fun r s₂ => wpAny (model prog w) A (callWith p r.1 r.2 (backTo p (starEach as env)) []) Q E s₂) E s₁) E s) :
    wpAny (model prog w) A (eval (.Call (.Attribute (trE nm e) x q) as [] p) env) Q E s := by
  rw [arm_eval_Call, base_of e hb]
  refine wpAny_bind (wpAny_mono h (fun ov s1 h1 => wpAny_bind (wpAny_standAt ?_)) fun _ _ e => e)
  have hpos : methodCallPos true (trE nm e) env q p = pure p := by unfold methodCallPos; simp [hq]
  unfold methodCall
  rw [hfm]
  refine wpAny_bind (wpAny_holding (wpAny_mono (h1 _) (fun r s2 h2 => ?_) fun _ _ e => e))
  exact wpAny_bind (wpAny_of_eq hpos h2)

theorem mt_field : ∀ i, i < 8 → ∀ x f, MT.lookup x = some f → nmAt fieldNames i ≠ x := by
  have a : ∀ i : Fin 8, MT.lookup (nmAt fieldNames i.val) = none := by decide +kernel
  intro i hi x f h e
  have := a ⟨i, hi⟩
  rw [e, h] at this; cases this

include G in
theorem snd_meth {e : Ex} {as : Exs} (he : SndE prog w K h0 n e) (has : SndEs prog w K h0 n as) (x : Str) (f : Addr) (q p : Pos) : SndE prog w K h0 n (.meth e x f as q p) := by
  intro env nm ρ σ Q s A E ok eo R k F h
  simp only [okE, Bool.and_eq_true, decide_eq_true_eq, beq_iff_eq] at ok
  obtain ⟨⟨⟨⟨⟨o1, o2⟩, o3⟩, o4⟩, o5⟩, o6⟩ := ok
  refine meth_open o1 (beq_iff_eq.mpr o4) (method_form as o3) (wpAny_mono (he o5 eo R k F h) (fun ov s1 ⟨σ1, h1, p1⟩ pl => ?_) fun _ _ e => e)
  have k1 := k.post0 p1
  obtain ⟨hi, h1⟩ := h1
  unfold isInst at hi
  split at hi
  · rename_i y ey
    obtain ⟨dx, vs, hx, hd⟩ := hi
    obtain ⟨es, m, fa, h8, gd, gx, I⟩ := inst_at k1 hx hd
    rw [abst_ref ey]
    obtain ⟨m1, m2⟩ := G.kf.meth x f o2
    refine method_fn (G.X.keeps k1.base) I G.kf.ga G.kf.gat m1 m2 (by show (lookIn x (dictOf es m)).map _ = _; rw [lookIn_dict, fields_no fa h8 fun i hi => mt_field i (by omega) x f o2]; rfl) ?_
    refine up p1 (snd_call_core (fs := [V.ref y]) has G.X o6 eo R k1 (F.post p1) rfl ?_)
    rw [ey] at h1
    exact h1
  · exact hi.elim

theorem snd_app {e a : Ex} (he : SndE prog w K h0 n e) (ha : SndE prog w K h0 n a) (q p : Pos) : SndE prog w K h0 n (.app e a q p) := by
  intro env nm ρ σ Q s A E ok eo R k F h
  simp only [okE, Bool.and_eq_true, beq_iff_eq] at ok
  obtain ⟨⟨⟨o1, o2⟩, o3⟩, o4⟩ := ok
  refine meth_open o1 (beq_iff_eq.mpr o2) (method_form (nm := nm) (.cons a .nil) (by show 1 < 20; omega)) (wpAny_mono (he o3 eo R k F h) (fun ov s1 ⟨σ1, h1, p1⟩ pl => ?_) fun _ _ e => e)
  have k1 := k.post0 p1
  obtain ⟨hi, h1⟩ := h1
  unfold isListV at hi
  split at hi
  · rename_i y ey
    obtain ⟨xs, hx⟩ := hi
    obtain ⟨xa, ⟨m, g⟩, _⟩ := k1.sat _ _ hx
    rw [abst_ref ey]
    refine getMethod_builtin (T := "list") ⟨_, g, rfl⟩ PySem.F.plainAttrs_list slot_list_append type_list_append (fun b eb => by cases eb; exact ⟨_, g, rfl⟩) ?_
    refine callWith_builtin (star_all (nm := nm) (.cons a .nil)) ?_
    show wpAny _ _ (evalArgs _ true (backTo p (starEach (trE nm a :: trEs nm .nil) env)) []) _ _ _
    rw [star_tr]
    refine evalArgs_plain (spliced_cons (wpAny_mono (ha o4 eo R k1 (F.post p1) h1) (fun v s2 ⟨σ2, h2, p2⟩ => spliced_nil ?_) fun _ _ e => e))
    rw [ey] at h2
    exact up (p1.trans p2) (append_sound (a := .ref y) (k1.post0 p2) h2)
  · exact hi.elim

theorem snd_bitl {e : Ex} (he : SndE prog w K h0 n e) (q p : Pos) : SndE prog w K h0 n (.bitl e q p) := by
  intro env nm ρ σ Q s A E ok eo R k F h
  simp only [okE, Bool.and_eq_true, beq_iff_eq] at ok
  obtain ⟨⟨o1, o2⟩, o3⟩ := ok
  refine meth_open o1 (beq_iff_eq.mpr o2) (method_form (nm := nm) .nil (by show 0 < 20; omega)) (wpAny_mono (he o3 eo R k F h) (fun ov s1 ⟨σ1, h1, p1⟩ pl => ?_) fun _ _ e => e)
  dsimp only at h1
  unfold intW at h1
  split at h1
  · rename_i i ei
    obtain ⟨t, rfl⟩ := abst_int ei
    refine getMethod_int_bit_length ?_
    exact callWith_method0 (call_int_bit_length ⟨σ1, h1, p1.toksR⟩)
  · exact h1.elim

include G in
theorem bif_name {b : Bif} {p : Pos} {env : Env} {Q : Value → Shared → Prop} {s : Shared} {A : Around} {E : Value → Shared → Prop} {σ : AHeap} (eo : EnvOk h0 env) (k : Ok h0 σ s) (hk : env.kindOf b.name = some .globalImplicit) (h : Q (bifV b) s) :
    wpAny (model prog w) A (eval (.Name b.name p) env) Q E s := by
  refine Name_function_global eo.kind hk (loadGlobal_builtin (by rw [eo.glob]; exact G.g.keeps k.base) (mg_none_of G.X G.g (G.kf.bfs b)) (by rw [eo.bi]; exact G.b.keeps k.base) ((G.boot _ ?_).trans ?_) h) ?_
  · cases b <;> decide
  · cases b <;> decide +kernel
  · cases b <;> decide

include G in
theorem snd_bif {as : Exs} (has : SndEs prog w K h0 n as) (b : Bif) (q p : Pos) : SndE prog w K h0 n (.bif b as q p) := by
  intro env nm ρ σ Q s A E ok eo R k F h
  simp only [okE, okB, Bool.and_eq_true, decide_eq_true_eq, beq_iff_eq] at ok
  obtain ⟨⟨o1, o2⟩, o3⟩ := ok
  show wpAny _ _ (eval (.Call (.Name b.name q) (trEs nm as) [] p) env) _ _ _
  refine wpAny_Call_Name_kw (bif_name G eo k o1 ?_)
  have fin : ∀ vs s1, (∃ σ1, vs.length = exsLen as ∧ (bifW b (vs.map abst) σ1 fun v => Q v σ1) ∧ Post h0 nobody σ s σ1 s1) → wpAny (model prog w) A (call (bifV b) vs) (Rs h0 Q σ s) E s1 := fun vs s1 ⟨σ1, _, h1, p1⟩ =>
    up p1 (bif_sound (k.post0 p1) R h1)
  have hs := has (pos := p) (E := E) (A := A) o3 eo R k F h
  cases b <;> first
    | (refine callWith_builtin (star_all as) ?_
       cases as with
       | nil => exact evalArgs_nil' (wpAny_mono hs (fun vs s1 r => fin vs s1 r) fun _ _ e => e)
       | cons e r =>
         show wpAny _ _ (evalArgs _ true (backTo p (starEach (trE nm e :: trEs nm r) env)) []) _ _ _
         have hs' : wpAny (model prog w) A (spliced (backTo p (starEach (trE nm e :: trEs nm r) env))) _ E s := hs
         rw [star_tr] at hs' ⊢
         exact evalArgs_plain (wpAny_mono hs' (fun vs s1 r => fin vs s1 r) fun _ _ e => e))
    | (refine PyProof.Rows.callWith_type (star_all as) ?_
       cases as with
       | nil => exact evalArgs_nil' (wpAny_mono hs (fun vs s1 r => fin vs s1 r) fun _ _ e => e)
       | cons e r =>
         show wpAny _ _ (evalArgs _ true (backTo p (starEach (trE nm e :: trEs nm r) env)) []) _ _ _
         have hs' : wpAny (model prog w) A (spliced (backTo p (starEach (trE nm e :: trEs nm r) env))) _ E s := hs
         rw [star_tr] at hs' ⊢
         exact evalArgs_plain (wpAny_mono hs' (fun vs s1 r => fin vs s1 r) fun _ _ e => e))

theorem sndT_cmp (o : CmpOp) {l r : Ex} (hl : SndE prog w K h0 n l) (hr : SndE prog w K h0 n r) (p : Pos) : SndT prog w K h0 n (.cmp o l r p) := by
  intro env nm ρ σ Q s A E ok eo R k F h
  simp only [okT, Bool.and_eq_true] at ok
  refine wpAny_isTrue_Compare1 (wpAny_mono (hl ok.1.2 eo R k F h) (fun a s1 ⟨σ1, h1, p1⟩ => ?_) fun _ _ e => e) (behind_no r)
  have k1 := k.post0 p1
  refine wpAny_mono (hr ok.2 eo R k1 (F.post p1) h1) (fun b s2 ⟨σ2, h2, p2⟩ => ?_) fun _ _ e => e
  have k2 := k1.post0 p2
  refine wpAny_mono (cmp_sound (Q := fun v σ => ∃ t, v = .bool t ∧ Q t σ) k2 R (cmpW_mono (fun t q => ⟨t, rfl, q⟩) h2)) (fun c s3 ⟨σ3, ⟨t, et, h3⟩, p3⟩ => ?_) fun _ _ e => e
  rw [abst_bool et]
  exact wpAny_truthy_bool ⟨σ3, h3, (p1.trans p2).trans p3⟩
theorem sndT_conj {l r : Tst} (hl : SndT prog w K h0 n l) (hr : SndT prog w K h0 n r) (p : Pos) : SndT prog w K h0 n (.conj l r p) := by
  intro env nm ρ σ Q s A E ok eo R k F h
  simp only [okT, Bool.and_eq_true] at ok
  refine isTrue_and (wpAny_mono (hl ok.1 eo R k F h) (fun t s1 ⟨σ1, h1, p1⟩ => ?_) fun _ _ e => e)
  cases t with
  | false => rw [if_neg (by decide)]; exact ⟨σ1, h1.2 rfl, p1⟩
  | true =>
    rw [if_pos rfl]
    refine isTrue_and (wpAny_mono (hr ok.2 eo R (k.post0 p1) (F.post p1) (h1.1 rfl)) (fun t s2 ⟨σ2, h2, p2⟩ => ?_) fun _ _ e => e)
    cases t with
    | false => rw [if_neg (by decide)]; exact ⟨σ2, h2, p1.trans p2⟩
    | true => rw [if_pos rfl]; exact isTrue_and_nil ⟨σ2, h2, p1.trans p2⟩
theorem sndT_disj {l r : Tst} (hl : SndT prog w K h0 n l) (hr : SndT prog w K h0 n r) (p : Pos) : SndT prog w K h0 n (.disj l r p) := by
  intro env nm ρ σ Q s A E ok eo R k F h
  simp only [okT, Bool.and_eq_true] at ok
  refine isTrue_or (wpAny_mono (hl ok.1 eo R k F h) (fun t s1 ⟨σ1, h1, p1⟩ => ?_) fun _ _ e => e)
  cases t with
  | true => rw [if_pos rfl]; exact ⟨σ1, h1.1 rfl, p1⟩
  | false =>
    rw [if_neg (by decide)]
    refine isTrue_or (wpAny_mono (hr ok.2 eo R (k.post0 p1) (F.post p1) (h1.2 rfl)) (fun t s2 ⟨σ2, h2, p2⟩ => ?_) fun _ _ e => e)
    cases t with
    | true => rw [if_pos rfl]; exact ⟨σ2, h2, p1.trans p2⟩
    | false => rw [if_neg (by decide)]; exact isTrue_or_nil ⟨σ2, h2, p1.trans p2⟩
theorem sndT_not {c : Tst} (hc : SndT prog w K h0 n c) (p : Pos) : SndT prog w K h0 n (.not c p) := by
  intro env nm ρ σ Q s A E ok eo R k F h
  exact isTrue_not (wpAny_mono (hc ok eo R k F h) (fun t s1 ⟨σ1, h1, p1⟩ => ⟨σ1, h1, p1⟩) fun _ _ e => e)
theorem sndT_val {e : Ex} (he : SndE prog w K h0 n e) : SndT prog w K h0 n (.val e) := by
  intro env nm ρ σ Q s A E ok eo R k F h
  simp only [okT, Bool.and_eq_true] at ok
  have hp : ∀ whole, isTrue (trE nm e) env whole = (do let v ← whole; standAt (trE nm e).pos; holding [v] (truthy v)) := by
    intro whole; cases e <;> first | rfl | cases ok.1
  refine isTrue_plain (wpAny_mono (he ok.2 eo R k F h) (fun v s1 ⟨σ1, h1, p1⟩ => ?_) fun _ _ e => e) (hp _)
  exact upb p1 (truth_sound (k.post0 p1) h1)
end
end Mine
end
section
set_option maxRecDepth 100000
namespace Mine
open PySem PySem.W PyProof.Rows PySem.Calls

section
variable {h0 : Heap} {prog : Program} {w : World} {K : Frag} {mg mb : Str → Option Value} (G : Gd K h0 mg mb) {n : Nat}

theorem nodup_ne : ∀ {l : List Str} {i j : Nat} {x y : Str}, nodupS l = true → l[i]? = some x → l[j]? = some y → i ≠ j → x ≠ y
  | [], _, _, _, _, _, h, _, _ => by simp at h
  | a :: l, 0, 0, _, _, _, _, _, h => absurd rfl h
  | a :: l, 0, j + 1, x, y, hn, h1, h2, _ => by
    simp only [nodupS, Bool.and_eq_true, Bool.not_eq_true'] at hn
    simp only [List.getElem?_cons_zero, Option.some.injEq] at h1
    simp only [List.getElem?_cons_succ] at h2
    subst h1; rintro rfl
    have := List.mem_of_getElem? h2
    have q := hn.1
    rw [List.contains_iff_mem.mpr this] at q; cases q
  | a :: l, i + 1, 0, x, y, hn, h1, h2, _ => by
    simp only [nodupS, Bool.and_eq_true, Bool.not_eq_true'] at hn
    simp only [List.getElem?_cons_zero, Option.some.injEq] at h2
    simp only [List.getElem?_cons_succ] at h1
    subst h2; rintro rfl
    have := List.mem_of_getElem? h1
    have q := hn.1
    rw [List.contains_iff_mem.mpr this] at q; cases q
  | a :: l, i + 1, j + 1, x, y, hn, h1, h2, h => by
    simp only [nodupS, Bool.and_eq_true, Bool.not_eq_true'] at hn
    simp only [List.getElem?_cons_succ] at h1 h2
    exact nodup_ne hn.2 h1 h2 fun e => h (by rw [e])

theorem getD_set_self {ρ : Loc} {i : Nat} {v u : V} (h : (ρ.set i (some v)).getD i none = some u) : u = v := by
  rw [List.getD_eq_getElem?_getD, List.getElem?_set_self'] at h
  cases e : ρ[i]? with
  | none => rw [e] at h; cases h
  | some x => rw [e] at h; simp at h; exact h.symm
theorem getD_set_ne {ρ : Loc} {i j : Nat} {v : Option V} (h : i ≠ j) : (ρ.set i v).getD j none = ρ.getD j none := by
  rw [List.getD_eq_getElem?_getD, List.getD_eq_getElem?_getD, List.getElem?_set_ne h]

theorem Fm.mono {env : Env} {nm : List Str} {ρ : Loc} {σ : AHeap} {h h' : Heap} (f : Fm env nm ρ σ h) (k : ∀ a, ownOfEnv env a → ∀ o, h.get? a = some o → h'.get? a = some o) : Fm env nm ρ σ h' := by
  obtain ⟨m, hn, hm⟩ := f.ns
  refine ⟨⟨m, hn.at' fun o e => k _ (.inl rfl) o e, hm⟩, fun i x v e1 e2 e3 => ?_, fun x c hc => ?_, f.off⟩
  · obtain ⟨c, u, h1, ⟨o, h2, h3⟩, h4⟩ := f.cell i x v e1 e2 e3
    exact ⟨c, u, h1, ⟨o, k c (.inr ⟨x, mem_of_lookup h1⟩) o h2, h3⟩, h4⟩
  · obtain ⟨v, o, h2, h3⟩ := f.any x c hc
    exact ⟨v, o, k c (.inr ⟨x, hc⟩) o h2, h3⟩

theorem store_loc {env : Env} {nm : List Str} {ρ : Loc} {σ : AHeap} {s : Shared} {i : Nat} {v : Value} {M : Model} {A : Around} {E : Value → Shared → Prop} {Q : Unit → Shared → Prop} (eo : EnvOk h0 env) (hnd : nodupS nm = true) (F : Fm env nm ρ σ s.heap)
    (hi : i < nm.length) (hk : env.kindOf (nmAt nm i) = some .local)
    (h : ∀ h' tk, Fm env nm (ρ.set i (some (abst v))) σ h' → Heap.SameBut env.locals s.heap h' → Q () { s with heap := h', toks := tk }) :
    wpAny M A (storeName env (nmAt nm i) v) Q E s := by
  obtain ⟨m, hn, hm⟩ := F.ns
  refine wpAny_storeName_local hk hn (fun h' hn' hs => h h' _ ⟨⟨_, hn', fun j x u e1 e2 e3 => ?_⟩, fun j x u e1 e2 e3 => ?_, fun x c hc => ?_, F.off⟩ hs) ?_
  · by_cases q : i = j
    · subst q
      have := getD_set_self e3; subst this
      have ex : x = nmAt nm i := by rw [nmAt_get hi] at e1; exact (Option.some.inj e1).symm
      exact ⟨v, by rw [if_pos ex], rfl⟩
    · rw [getD_set_ne q] at e3
      obtain ⟨u', h1, h2⟩ := hm j x u e1 e2 e3
      exact ⟨u', by rw [if_neg (nodup_ne hnd e1 (nmAt_get hi) (Ne.symm q))]; exact h1, h2⟩
  · have q : i ≠ j := fun q => by
      subst q; rw [nmAt_get hi] at e1; cases e1; rw [hk] at e2; cases e2
    rw [getD_set_ne q] at e3
    obtain ⟨c, u', h1, h2, h3⟩ := F.cell j x u e1 e2 e3
    exact ⟨c, u', h1, h2.sameBut hs (Ne.symm (eo.lc x c (mem_of_lookup h1))), h3⟩
  · obtain ⟨v', hv⟩ := F.any x c hc
    exact ⟨v', hv.sameBut hs (Ne.symm (eo.lc x c hc))⟩
  · rw [eo.kind]; rfl

def tgFits : Tg → List V → Prop
  | .one .., [_] => True
  | .two .., [_, _] => True
  | _, _ => False

def TgStore (h0 : Heap) (env : Env) (nm : List Str) (own : Addr → Prop) (i : Nat) : Prop :=
  ∀ {ρ : Loc} {σ : AHeap} {s : Shared} {v : Value} {M : Model} {A : Around} {E : Value → Shared → Prop} {Q : Unit → Shared → Prop}, Ok h0 σ s → Fm env nm ρ σ s.heap →
    (∀ h' tk, Fm env nm (ρ.set i (some (abst v))) σ h' → (∀ b o, ¬ own b → s.heap.get? b = some o → h'.get? b = some o) → (∀ b o, own b → s.heap.get? b = some o → ∃ o', h'.get? b = some o') → Q () { s with heap := h', toks := tk }) →
    wpAny M A (storeName env (nmAt nm i) v) Q E s
structure TgOk (h0 : Heap) (env : Env) (nm : List Str) (own : Addr → Prop) (t : Tg) : Prop where
  sub : ∀ a, own a → ownOfEnv env a
  st : match t with | .one i _ => TgStore h0 env nm own i | .two i _ j _ _ => TgStore h0 env nm own i ∧ TgStore h0 env nm own j
theorem tg_loc {env : Env} {nm : List Str} (eo : EnvOk h0 env) (hnd : nodupS nm = true) {i : Nat} (hi : i < nm.length) (hk : env.kindOf (nmAt nm i) = some .local) : TgStore h0 env nm (fun a => a = env.locals) i := by
  intro ρ σ s v M A E Q ok F h
  refine store_loc eo hnd F hi hk fun h' tk F' hs => h h' tk F' (fun b o hb e => (hs.2 b hb).trans e) fun b o hb _ => ?_
  subst hb
  obtain ⟨m, ⟨o', _, _, q, _⟩, _⟩ := F'.ns
  exact ⟨o', q⟩
theorem tg_ok {env : Env} {nm : List Str} (eo : EnvOk h0 env) (hnd : nodupS nm = true) {t : Tg} (h : okTg env.kindOf nm t = true) : TgOk h0 env nm (fun a => a = env.locals) t := by
  refine ⟨fun a ha => .inl ha, ?_⟩
  cases t with
  | one i p =>
    simp only [okTg, Bool.and_eq_true, decide_eq_true_eq, beq_iff_eq] at h
    exact tg_loc eo hnd h.1 h.2
  | two i pi j pj p =>
    simp only [okTg, Bool.and_eq_true, decide_eq_true_eq, beq_iff_eq] at h
    exact ⟨tg_loc eo hnd h.1.1.1 h.1.1.2, tg_loc eo hnd h.1.2 h.2⟩
theorem ok_wr {env : Env} {wr : List Addr} {σ : AHeap} {s : Shared} {h' : Heap} {tk : Nat} (ok : Ok h0 σ s) (hw : ∀ b ∈ wr, σ b = none ∧ ¬ ownOfEnv env b ∧ Bs h0 b) (hk' : ∀ b o, b ∉ wr → s.heap.get? b = some o → h'.get? b = some o) : Ok h0 σ { s with heap := h', toks := tk } :=
  ⟨fun b o e => hk' b o (fun hm => by have := (hw b hm).2.2; rw [Bs, e] at this; cases this) (ok.base b o e), fun a o e => (ok.sat a o e).at' fun ob q => hk' a ob (fun hm => by rw [(hw a hm).1] at e; cases e) q⟩
theorem ok_own {env : Env} {nm : List Str} {ρ : Loc} {own : Addr → Prop} {σ : AHeap} {s : Shared} {h' : Heap} {tk : Nat} (eo : EnvOk h0 env) (hsub : ∀ a, own a → ownOfEnv env a) (F : Fm env nm ρ σ s.heap) (ok : Ok h0 σ s) (hk' : ∀ b o, ¬ own b → s.heap.get? b = some o → h'.get? b = some o) : Ok h0 σ { s with heap := h', toks := tk } :=
  ⟨fun b o e => hk' b o (fun hm => by have := eo.own b (hsub b hm); rw [Bs, e] at this; cases this) (ok.base b o e), fun a o e => (ok.sat a o e).at' fun ob q => hk' a ob (fun hm => by rw [F.off a (hsub a hm)] at e; cases e) q⟩

structure IterOk (prog : Program) (w : World) (A : Around) (h0 : Heap) (env : Env) (nm : List Str) (own : Addr → Prop) (t : Tg) (I : Addr) (wr : List Addr) (items : List (List V)) (g : AHeap → Prop) (St : Nat → Heap → Prop) : Prop where
  turn : ∀ k (s : Shared) σ ρ it (N Q : Shared → Prop) (E : Value → Shared → Prop), items[k]? = some it → g σ → Ok h0 σ s → Fm env nm ρ σ s.heap → (∀ b ∈ wr, σ b = none ∧ ¬ ownOfEnv env b ∧ Bs h0 b) → St k s.heap →
    (∀ s2, Ok h0 σ s2 → Fm env nm (setTg t it ρ) σ s2.heap → St (k + 1) s2.heap → Post h0 (fun a => own a ∨ a ∈ wr) σ s σ s2 → Q s2) →
    wpAny (model prog w) A (pyNext (.ref I)) (fun r s1 => match r with
      | none => N s1
      | some v => wpAny (model prog w) A (letOwnedTupleGo (trTg nm t) (.ref I) v) (fun _ s1' => wpAny (model prog w) A (assign (trTg nm t) env v) (fun _ s2 => Q s2) E s1') E s1) E s
  done : ∀ (s : Shared) σ ρ (Q : Shared → Prop) (Y : Value → Shared → Prop) (E : Value → Shared → Prop), g σ → Ok h0 σ s → Fm env nm ρ σ s.heap → (∀ b ∈ wr, σ b = none ∧ ¬ ownOfEnv env b ∧ Bs h0 b) → St items.length s.heap →
    (∀ s2, Ok h0 σ s2 → Fm env nm ρ σ s2.heap → (∀ b ∈ wr, ∃ o, s.heap.get? b = some o) → (∀ b o, b ∉ wr → s.heap.get? b = some o → s2.heap.get? b = some o) → s2.os = s.os → s2.gens = s.gens → Q s2) →
    wpAny (model prog w) A (pyNext (.ref I)) (fun r s1 => match r with | none => Q s1 | some v => Y v s1) E s

theorem post_wr {own : Addr → Prop} {σ : AHeap} {s s' : Shared} (k : Ok h0 σ s) (hk : ∀ b o, ¬ own b → s.heap.get? b = some o → s'.heap.get? b = some o) (hl : ∀ b o, own b → s.heap.get? b = some o → ∃ o', s'.heap.get? b = some o') (hf : ∀ b, own b → σ b = none) (ho : s'.os = s.os) (hg : s'.gens = s.gens) :
    Post h0 own σ s σ s' where
  sat := fun a x e => (k.sat a x e).at' fun _ => hk _ _ fun q => by rw [hf a q] at e; cases e
  keep := fun a o e _ q => hk a o q e
  live := fun a o e => by
    by_cases q : own a
    · exact hl a o q e
    · exact ⟨o, hk a o q e⟩
  dom := fun a h => .inl h
  os := ho
  gens := hg

theorem Fm.off_locals {env : Env} {nm : List Str} {ρ : Loc} {σ : AHeap} {h : Heap} (f : Fm env nm ρ σ h) : σ env.locals = none := f.off _ (.inl rfl)

theorem iter_one {A : Around} {env : Env} {nm : List Str} {own : Addr → Prop} {i : Nat} {p : Pos} {I : Addr} {wr : List Addr} {vs : List V} {g : AHeap → Prop} {St : Nat → Heap → Prop} (eo : EnvOk h0 env) (ht : TgOk h0 env nm own (.one i p))
    (frame : ∀ k h h', (∀ b ∈ wr, ∀ o, h.get? b = some o → h'.get? b = some o) → St k h → St k h') (here : ∀ k h, St k h → ∀ b ∈ wr, ∃ o, h.get? b = some o)
    (item : ∀ k v (s : Shared) σ (Q : Option Value → Shared → Prop) (E : Value → Shared → Prop), vs[k]? = some v → g σ → Ok h0 σ s → St k s.heap →
      (∀ u h' tk, abst u = v → St (k + 1) h' → (∀ b o, b ∉ wr → s.heap.get? b = some o → h'.get? b = some o) → Q (some u) { s with heap := h', toks := tk }) → wpAny (model prog w) A (pyNext (.ref I)) Q E s)
    (done : ∀ (s : Shared) σ (Q : Option Value → Shared → Prop) (E : Value → Shared → Prop), g σ → Ok h0 σ s → St vs.length s.heap →
      (∀ h' tk, (∀ b o, b ∉ wr → s.heap.get? b = some o → h'.get? b = some o) → Q none { s with heap := h', toks := tk }) → wpAny (model prog w) A (pyNext (.ref I)) Q E s) :
    IterOk prog w A h0 env nm own (.one i p) I wr (vs.map fun v => [v]) g St where
  turn := fun k s σ ρ it N Q E hit hg ok F hw st hQ => by
    rw [List.getElem?_map] at hit
    obtain ⟨v, hv, rfl⟩ := Option.map_eq_some_iff.mp hit
    refine item k v s σ _ E hv hg ok st fun u h' tk eu st' hk' => ?_
    dsimp only
    show wpAny _ _ (letOwnedTupleGo (.Name (nmAt nm i) p) _ _) _ _ _
    refine wpAny_pure ?_
    show wpAny _ _ (assign (.Name (nmAt nm i) p) env u) _ _ _
    have F1 : Fm env nm ρ σ h' := F.mono fun a ha o e => hk' a o (fun hm => (hw a hm).2.1 ha) e
    refine wpAny_assign_Name (ht.st (s := { s with heap := h', toks := tk }) (ok_wr ok hw hk') F1 fun h2 tk2 F2 hs hl => ?_)
    have hLw : ∀ b ∈ wr, ¬ own b := fun b hm q => (hw b hm).2.1 (ht.sub b q)
    have keep : ∀ b o, ¬ own b → b ∉ wr → s.heap.get? b = some o → h2.get? b = some o := fun b o b1 b2 e => hs b o b1 (hk' b o b2 e)
    have st2 : St (k + 1) h2 := frame _ _ _ (fun b hb o e => hs b o (hLw b hb) e) st'
    have P : Post h0 (fun a => own a ∨ a ∈ wr) σ s σ { s with heap := h2, toks := tk2 } := post_wr ok (fun b o hb e => keep b o (fun q => hb (.inl q)) (fun q => hb (.inr q)) e)
      (fun b o hb e => by
        rcases hb with hb | hb
        · exact hl b o hb (hk' b o (fun q => hLw b q hb) e)
        · exact here _ _ st2 b hb)
      (fun b hb => by rcases hb with hb | hb; exact F.off b (ht.sub b hb); exact (hw b hb).1) rfl rfl
    refine hQ _ (ok.post P fun a ha => ?_) (by rw [eu] at F2; exact F2) st2 P
    rcases ha with ha | ha
    · exact eo.own a (ht.sub a ha)
    · exact (hw a ha).2.2
  done := fun s σ ρ Q Y E hg ok F hw st hQ => by
    rw [List.length_map] at st
    refine done s σ _ E hg ok st fun h' tk hk' => ?_
    refine hQ _ ⟨fun b o e => ?_, fun a o e => (ok.sat a o e).at' fun ob q => hk' a ob (fun hm => by rw [(hw a hm).1] at e; cases e) q⟩ (F.mono fun a ha o e => hk' a o (fun hm => (hw a hm).2.1 ha) e) (here _ _ st) hk' rfl rfl
    exact hk' b o (fun hm => by have := (hw b hm).2.2; rw [Bs, e] at this; cases this) (ok.base b o e)

theorem iter_two {A : Around} {env : Env} {nm : List Str} {own : Addr → Prop} {i j : Nat} {p pi pj : Pos} {I : Addr} {wr : List Addr} {vs : List (V × V)} {g : AHeap → Prop} {St : Nat → Heap → Prop} {Mid : Nat → Addr → Heap → Prop} {m : Nat} (R : Room A m) (eo : EnvOk h0 env) (htg : TgOk h0 env nm own (.two i pi j pj p))
    (frame : ∀ k h h', (∀ b ∈ wr, ∀ o, h.get? b = some o → h'.get? b = some o) → St k h → St k h') (here : ∀ k h, St k h → ∀ b ∈ wr, ∃ o, h.get? b = some o)
    (item : ∀ k v (s : Shared) σ (Q : Option Value → Shared → Prop) (E : Value → Shared → Prop), vs[k]? = some v → g σ → Ok h0 σ s → St k s.heap →
      (∀ T u u' h' tk, abst u = v.1 → abst u' = v.2 → s.heap.objs.size ≤ T → h'.IsTuple T #[u, u'] → Mid k T h' → T ∉ wr → (∀ b o, b ∉ wr → s.heap.get? b = some o → h'.get? b = some o) → Q (some (.ref T)) { s with heap := h', toks := tk }) → wpAny (model prog w) A (pyNext (.ref I)) Q E s)
    (go : ∀ (elts : List Expr) (c : Nat) (pos : Pos) k T (s : Shared) (Q : Unit → Shared → Prop) (E : Value → Shared → Prop), Mid k T s.heap →
      (∀ h', St (k + 1) h' → (∀ b o, b ∉ wr → s.heap.get? b = some o → h'.get? b = some o) → Q () { s with heap := h' }) → wpAny (model prog w) A (letOwnedTupleGo (.Tuple elts c pos) (.ref I) (.ref T)) Q E s)
    (done : ∀ (s : Shared) σ (Q : Option Value → Shared → Prop) (E : Value → Shared → Prop), g σ → Ok h0 σ s → St vs.length s.heap →
      (∀ h' tk, (∀ b o, b ∉ wr → s.heap.get? b = some o → h'.get? b = some o) → Q none { s with heap := h', toks := tk }) → wpAny (model prog w) A (pyNext (.ref I)) Q E s) :
    IterOk prog w A h0 env nm own (.two i pi j pj p) I wr (vs.map fun v => [v.1, v.2]) g St where
  turn := fun k s σ ρ it N Q E hit hg ok F hw st hQ => by
    rw [List.getElem?_map] at hit
    obtain ⟨v, hv, rfl⟩ := Option.map_eq_some_iff.mp hit
    refine item k v s σ _ E hv hg ok st fun T u u' h' tk eu eu' hT ht hm hTw hk' => ?_
    dsimp only
    have hLw : ∀ b ∈ wr, ¬ own b := fun b hm q => (hw b hm).2.1 (htg.sub b q)
    refine go _ _ _ k T { s with heap := h', toks := tk } _ E hm fun h1 st1 hk1 => ?_
    have ht1 : h1.IsTuple T #[u, u'] := by
      obtain ⟨o, q, r⟩ := ht; exact ⟨o, hk1 T o hTw q, r⟩
    refine wpAny_assign_Tuple (items := #[u, u']) R.handled ht1 rfl rfl fun h2 hx => ?_
    have F1 : Fm env nm ρ σ h1 := F.mono fun a ha o e => hk1 a o (fun hm => (hw a hm).2.1 ha) (hk' a o (fun hm => (hw a hm).2.1 ha) e)
    have F2 : Fm env nm ρ σ h2 := F1.mono fun a ha o e => hx a o (Nat.ne_of_lt (Heap.lt_size e)) e
    have k2 : ∀ b o, b ∉ wr → s.heap.get? b = some o → h2.get? b = some o := fun b o hb e => by
      have e1 := hk1 b o hb (hk' b o hb e)
      exact hx b o (Nat.ne_of_lt (Heap.lt_size e1)) e1
    have ok2 : Ok h0 σ { s with heap := h2, toks := tk } := ok_wr ok hw k2
    refine assignInOrder_cons (wpAny_assign_Name (htg.st.1 (s := { s with heap := h2, toks := tk }) ok2 F2 fun h3 tk3 F3 hs3 hl3 => ?_))
    have ok3 : Ok h0 σ { s with heap := h3, toks := tk3 } := ok_own (s := { s with heap := h2, toks := tk }) eo htg.sub F2 ok2 hs3
    refine assignInOrder_cons (wpAny_assign_Name (htg.st.2 (s := { s with heap := h3, toks := tk3 }) ok3 F3 fun h4 tk4 F4 hs4 hl4 => ?_))
    refine assignInOrder_nil ?_
    have keep : ∀ b o, ¬ own b → b ∉ wr → s.heap.get? b = some o → h4.get? b = some o := fun b o b1 b2 e => hs4 b o b1 (hs3 b o b1 (k2 b o b2 e))
    have st2 : St (k + 1) h4 := frame _ _ _ (fun b hb o e => hs4 b o (hLw b hb) (hs3 b o (hLw b hb) (hx b o (Nat.ne_of_lt (Heap.lt_size e)) e))) st1
    have P : Post h0 (fun a => own a ∨ a ∈ wr) σ s σ { s with heap := h4, toks := tk4 } := post_wr ok (fun b o hb e => keep b o (fun q => hb (.inl q)) (fun q => hb (.inr q)) e)
      (fun b o hb e => by
        rcases hb with hb | hb
        · obtain ⟨o3, e3⟩ := hl3 b o hb (k2 b o (fun q => hLw b q hb) e)
          exact hl4 b o3 hb e3
        · exact here _ _ st2 b hb)
      (fun b hb => by rcases hb with hb | hb; exact F.off b (htg.sub b hb); exact (hw b hb).1) rfl rfl
    refine hQ _ (ok.post P fun a ha => ?_) (by rw [eu, eu'] at F4; exact F4) st2 P
    rcases ha with ha | ha
    · exact eo.own a (htg.sub a ha)
    · exact (hw a ha).2.2
  done := fun s σ ρ Q Y E hg ok F hw st hQ => by
    rw [List.length_map] at st
    refine done s σ _ E hg ok st fun h' tk hk' => ?_
    refine hQ _ ⟨fun b o e => ?_, fun a o e => (ok.sat a o e).at' fun ob q => hk' a ob (fun hm => by rw [(hw a hm).1] at e; cases e) q⟩ (F.mono fun a ha o e => hk' a o (fun hm => (hw a hm).2.1 ha) e) (here _ _ st) hk' rfl rfl
    exact hk' b o (fun hm => by have := (hw b hm).2.2; rw [Bs, e] at this; cases this) (ok.base b o e)
end
end Mine
end
section
set_option maxRecDepth 100000
namespace Mine
open PySem PySem.W PyProof.Rows PySem.Calls

section
variable {h0 : Heap} {prog : Program} {w : World} {K : Frag} {mg mb : Str → Option Value} (G : Gd K h0 mg mb) {n : Nat}

structure SrcRes (prog : Program) (w : World) (A : Around) (h0 : Heap) (src : Src) (σ : AHeap) (s : Shared) (Q : List (List V) → (AHeap → Prop) → AHeap → Prop) (it : Value) (s2 : Shared) (I : Addr) (wr : List Addr) (items : List (List V)) (g : AHeap → Prop) (St : Nat → Heap → Prop) (σ2 : AHeap) : Prop where
  it : it = .ref I
  q : Q items g σ2
  post : Post h0 nobody σ s σ2 s2
  fresh : ∀ b ∈ wr, s.heap.get? b = none ∧ σ2 b = none
  start : St 0 s2.heap
  frame : ∀ k h h', (∀ b ∈ wr, ∀ o, h.get? b = some o → h'.get? b = some o) → St k h → St k h'
  here : ∀ k h, St k h → ∀ b ∈ wr, ∃ o, h.get? b = some o
  self : ∀ k (s : Shared) (Q : Value → Shared → Prop) (E : Value → Shared → Prop), St k s.heap → Q (.ref I) s → wpAny (model prog w) A (pyIter (.ref I)) Q E s
  iter : ∀ env nm own t, tgKind t src = true → EnvOk h0 env → TgOk h0 env nm own t → IterOk prog w A h0 env nm own t I wr items g St

def SndSrc (prog : Program) (w : World) (K : Frag) (h0 : Heap) (n : Nat) (src : Src) : Prop :=
  ∀ {env : Env} {nm : List Str} {ρ : Loc} {σ : AHeap} {Q : List (List V) → (AHeap → Prop) → AHeap → Prop} {s : Shared} {A : Around} {E : Value → Shared → Prop}, okSrc env.kindOf nm src = true → EnvOk h0 env → Room A n → Ok h0 σ s → Fm env nm ρ σ s.heap →
    wpSrc (Bs h0) (SemCall prog w K h0 n) src ρ σ Q →
    wpAny (model prog w) A (eval (trSrc nm src) env) (fun x s1 => wpAny (model prog w) A (pyIter x) (fun it s2 => ∃ I wr items g St σ2, SrcRes prog w A h0 src σ s Q it s2 I wr items g St σ2) E s1) E s

theorem Post.fresh0 {own : Addr → Prop} {σ σ1 : AHeap} {s s1 : Shared} (p : Post h0 own σ s σ1 s1) {b : Addr} (h : s1.heap.get? b = none) : s.heap.get? b = none := by
  cases e : s.heap.get? b with
  | none => rfl
  | some o => obtain ⟨o', e'⟩ := p.live b o e; rw [h] at e'; cases e'

theorem SrcRes.up {A : Around} {src : Src} {σ σ1 : AHeap} {s s1 : Shared} {Q : List (List V) → (AHeap → Prop) → AHeap → Prop} {it : Value} {s2 : Shared} {I : Addr} {wr : List Addr} {items : List (List V)} {g : AHeap → Prop} {St : Nat → Heap → Prop} {σ2 : AHeap}
    (p : Post h0 nobody σ s σ1 s1) (r : SrcRes prog w A h0 src σ1 s1 Q it s2 I wr items g St σ2) : SrcRes prog w A h0 src σ s Q it s2 I wr items g St σ2 :=
  { r with post := p.trans r.post, fresh := fun b hb => ⟨p.fresh0 (r.fresh b hb).1, (r.fresh b hb).2⟩ }

theorem src_list {A : Around} {E : Value → Shared → Prop} {src : Src} {x : Addr} {xs : List V} {σ : AHeap} {s : Shared} {Q : List (List V) → (AHeap → Prop) → AHeap → Prop} {m : Nat} (R : Room A m) (hsrc : ∀ t, tgKind t src = true → ∃ i p, t = .one i p) (k : Ok h0 σ s) (hx : σ x = some (.list xs))
    (h : Q (xs.map fun v => [v]) (fun σ => σ x = some (.list xs)) σ) :
    wpAny (model prog w) A (pyIter (.ref x)) (fun it s2 => ∃ I wr items g St σ2, SrcRes prog w A h0 src σ s Q it s2 I wr items g St σ2) E s := by
  obtain ⟨xa, gx, rfl, hl⟩ := k.sat _ _ hx
  refine wpAny_pyIter_list gx.isList ⟨s.heap.objs.size, [s.heap.objs.size], (xa.toList.map abst).map fun v => [v], fun σ => σ x = some (.list (xa.toList.map abst)), fun k h => h.IsListIter s.heap.objs.size x k, σ, ?_⟩
  have fr := get?_size s.heap
  refine ⟨rfl, h, .junk (tk := s.toks) k fun b o e => Heap.get?_push_of_some _ e, ?_, ⟨_, Heap.get?_push_size _ rfl, rfl, rfl⟩, ?_, ?_, ?_, ?_⟩
  · intro b hb; rw [List.mem_singleton.mp hb]; exact ⟨fr, k.fresh fr⟩
  · intro k h h' hk st; exact st.at fun o e => hk _ (.head _) o e
  · intro k h st b hb; rw [List.mem_singleton.mp hb]; obtain ⟨o, e, _⟩ := st; exact ⟨o, e⟩
  · intro k s Q E st q; exact wpAny_pyIter_listiter st q
  · intro env nm own t ht eo hok
    obtain ⟨i, p, rfl⟩ := hsrc t ht
    refine iter_one eo hok (fun k h h' hk st => st.at fun o e => hk _ (.head _) o e) (fun k h st b hb => by rw [List.mem_singleton.mp hb]; obtain ⟨o, e, _⟩ := st; exact ⟨o, e⟩) ?_ ?_
    · intro j v s' σ' Q' E' hv hg ok st hQ
      obtain ⟨ya, gy, ey, _⟩ := ok.sat _ _ hg
      rw [← ey, List.getElem?_map] at hv
      obtain ⟨u, hu, eu⟩ := Option.map_eq_some_iff.mp hv
      refine wpAny_pyNext_list_item st gy.isList (x := u) (by simpa using hu) fun h' st' hs => hQ u h' s'.toks eu st' fun b o hb e => ?_
      exact (hs.2 b fun q => hb (by rw [q]; exact .head _)).trans e
    · intro s' σ' Q' E' hg ok st hQ
      obtain ⟨ya, gy, ey, _⟩ := ok.sat _ _ hg
      have : ya.size = (xa.toList.map abst).length := by rw [← ey]; simp
      refine wpAny_pyNext_list_end R.handled st gy.isList (by rw [Array.getElem?_eq_none_iff]; omega) fun h' hs => hQ h' s'.toks fun b o hb e => ?_
      exact hs b o (fun q => hb (by rw [q]; exact .head _)) e

theorem snd_srcLst {e : Ex} (he : SndE prog w K h0 n e) : SndSrc prog w K h0 n (.lst e) := by
  intro env nm ρ σ Q s A E ok eo R k F h
  refine wpAny_mono (he (E := E) ok eo R k F h) (fun a s1 ⟨σ1, h1, p1⟩ => ?_) fun _ _ e => e
  dsimp only at h1
  unfold refW at h1
  split at h1
  · rename_i x ex
    obtain ⟨xs, hx, h1⟩ := h1
    rw [abst_ref ex]
    refine wpAny_mono (src_list R (fun t ht => ?_) (k.post0 p1) hx h1) (fun it s2 ⟨I, wr, items, g, St, σ2, r⟩ => ⟨I, wr, items, g, St, σ2, r.up p1⟩) fun _ _ e => e
    cases t with
    | one i p => exact ⟨i, p, rfl⟩
    | two => cases ht
  · exact h1.elim

theorem src_range {A : Around} {E : Value → Shared → Prop} {src : Src} {r : Addr} {a b c : Int} {t u v : Tok} {vs : List V} {σ : AHeap} {s : Shared} {Q : List (List V) → (AHeap → Prop) → AHeap → Prop} {m : Nat} (R : Room A m) (hsrc : ∀ t, tgKind t src = true → ∃ i p, t = .one i p) (k : Ok h0 σ s)
    (hr : IsRange s.heap r a b c t u v) (hs : Builtin.Range.small a b c = true) (hn : (vs.length : Int) = Builtin.Range.rangeSize a b c) (hv : ∀ (i : Nat) x, vs[i]? = some x → x = .int (a + i * c)) (h : Q (vs.map fun v => [v]) (fun _ => True) σ) :
    wpAny (model prog w) A (pyIter (.ref r)) (fun it s2 => ∃ I wr items g St σ2, SrcRes prog w A h0 src σ s Q it s2 I wr items g St σ2) E s := by
  refine wpAny_pyIter_range hr hs ⟨s.heap.objs.size, [s.heap.objs.size], vs.map fun v => [v], fun _ => True, fun k h => IsRangeIter h s.heap.objs.size (a + (k : Nat) * c) ((vs.length : Int) - (k : Nat)) c, σ, ?_⟩
  have fr := get?_size s.heap
  have W := Walks.range (prog := prog) (w := w) (A := A) R.handled s.heap.objs.size a c vs.length
  refine ⟨rfl, h, .junk (tk := s.toks) k fun b o e => Heap.get?_push_of_some _ e, ?_, ?_, ?_, ?_, ?_, ?_⟩
  · intro b hb; rw [List.mem_singleton.mp hb]; exact ⟨fr, k.fresh fr⟩
  · show (s.heap.push _).get? s.heap.objs.size = some _
    rw [Heap.get?_push_size _ rfl, hn]
    simp
  · intro k h h' hk st; exact hk _ (.head _) _ st
  · intro k h st b hb; rw [List.mem_singleton.mp hb]; exact ⟨_, st⟩
  · intro k s Q E st q; exact W.self k s Q E st q
  · intro env nm own t ht eo hok
    obtain ⟨i, p, rfl⟩ := hsrc t ht
    refine iter_one eo hok (fun k h h' hk st => hk _ (.head _) _ st) (fun k h st b hb => by rw [List.mem_singleton.mp hb]; exact ⟨_, st⟩) ?_ ?_
    · intro j v s' σ' Q' E' hv' hg ok st hQ
      have hj : j < vs.length := by
        rcases Nat.lt_or_ge j vs.length with q | q
        · exact q
        · rw [List.getElem?_eq_none q] at hv'; cases hv'
      refine W.item j s' Q' E' hj st fun u h' tk hP st' hk => hQ u h' tk ?_ st' hk
      obtain ⟨t, rfl⟩ := hP
      exact (hv j v hv').symm
    · intro s' σ' Q' E' hg ok st hQ
      exact W.done s' Q' E' st hQ

include G in
theorem range_name {p : Pos} {env : Env} {Q : Value → Shared → Prop} {s : Shared} {A : Around} {E : Value → Shared → Prop} {σ : AHeap} (eo : EnvOk h0 env) (k : Ok h0 σ s) (hk : env.kindOf "range" = some .globalImplicit) (h : Q (.type "range") s) :
    wpAny (model prog w) A (eval (.Name "range" p) env) Q E s :=
  Name_function_global eo.kind hk (loadGlobal_builtin (by rw [eo.glob]; exact G.g.keeps k.base) (mg_none_of G.X G.g G.kf.rng) (by rw [eo.bi]; exact G.b.keeps k.base) ((G.boot _ (by decide)).trans boot_range) h) (by decide)
include G in
theorem enum_name {p : Pos} {env : Env} {Q : Value → Shared → Prop} {s : Shared} {A : Around} {E : Value → Shared → Prop} {σ : AHeap} (eo : EnvOk h0 env) (k : Ok h0 σ s) (hk : env.kindOf "enumerate" = some .globalImplicit) (h : Q (.type "enumerate") s) :
    wpAny (model prog w) A (eval (.Name "enumerate" p) env) Q E s :=
  Name_function_global eo.kind hk (loadGlobal_builtin (by rw [eo.glob]; exact G.g.keeps k.base) (mg_none_of G.X G.g G.kf.enu) (by rw [eo.bi]; exact G.b.keeps k.base) ((G.boot _ (by decide)).trans boot_enumerate) h) (by decide)
include G in
theorem zip_name {p : Pos} {env : Env} {Q : Value → Shared → Prop} {s : Shared} {A : Around} {E : Value → Shared → Prop} {σ : AHeap} (eo : EnvOk h0 env) (k : Ok h0 σ s) (hk : env.kindOf "zip" = some .globalImplicit) (h : Q (.type "zip") s) :
    wpAny (model prog w) A (eval (.Name "zip" p) env) Q E s :=
  Name_function_global eo.kind hk (loadGlobal_builtin (by rw [eo.glob]; exact G.g.keeps k.base) (mg_none_of G.X G.g G.kf.zip) (by rw [eo.bi]; exact G.b.keeps k.base) ((G.boot _ (by decide)).trans boot_zip) h) (by decide)

theorem fitsL {x : Int} (h1 : -(2 ^ 62) ≤ x) (h2 : x ≤ 2 ^ 62) : Builtin.Range.rangeFitsLong x = true := by
  unfold Builtin.Range.rangeFitsLong; simp; omega
theorem small_up {a b : Int} (ha : small a) (hb : small b) : Builtin.Range.small a b 1 = true ∧ Builtin.Range.rangeSize a b 1 = ((b - a).toNat : Int) := by
  unfold small at ha hb
  have e : Builtin.Range.rangeSize a b 1 = ((b - a).toNat : Int) := by
    unfold Builtin.Range.rangeSize
    rw [if_pos (by decide)]
    split <;> simp <;> omega
  refine ⟨?_, e⟩
  unfold Builtin.Range.small
  rw [e, fitsL (by omega) (by omega), fitsL (by omega) (by omega), fitsL (by omega) (by omega), fitsL (by omega) (by omega)]
  simp only [Bool.true_and, Bool.or_eq_true]
  right
  rw [if_pos (by decide)]; exact fitsL (by omega) (by omega)
theorem small_down {a b : Int} (ha : small a) (hb : small b) : Builtin.Range.small a b (-1) = true ∧ Builtin.Range.rangeSize a b (-1) = ((a - b).toNat : Int) := by
  unfold small at ha hb
  have e : Builtin.Range.rangeSize a b (-1) = ((a - b).toNat : Int) := by
    unfold Builtin.Range.rangeSize
    rw [if_neg (by decide)]
    split <;> simp <;> omega
  refine ⟨?_, e⟩
  unfold Builtin.Range.small
  rw [e, fitsL (by omega) (by omega), fitsL (by omega) (by omega), fitsL (by omega) (by omega), fitsL (by omega) (by omega)]
  simp only [Bool.true_and, Bool.or_eq_true]
  right
  rw [if_neg (by decide)]; exact fitsL (by omega) (by omega)

theorem upTo_eq (a b : Int) : upTo a b = ((List.range (b - a).toNat).map fun (i : Nat) => V.int (a + i)).map fun v => [v] := by
  unfold upTo; rw [List.map_map]; rfl
theorem downTo_eq (a b : Int) : downTo a b = ((List.range (a - b).toNat).map fun (i : Nat) => V.int (a - i)).map fun v => [v] := by
  unfold downTo; rw [List.map_map]; rfl
theorem upTo_at {a b : Int} (i : Nat) (x : V) (h : ((List.range (b - a).toNat).map fun (i : Nat) => V.int (a + i))[i]? = some x) : x = .int (a + i * 1) := by
  rw [List.getElem?_map] at h
  obtain ⟨j, hj, rfl⟩ := Option.map_eq_some_iff.mp h
  rw [List.getElem?_range (by rcases Nat.lt_or_ge i (b - a).toNat with q | q; exact q; rw [List.getElem?_eq_none (by simpa using q)] at hj; cases hj)] at hj
  cases hj; rw [Int.mul_one]
theorem downTo_at {a b : Int} (i : Nat) (x : V) (h : ((List.range (a - b).toNat).map fun (i : Nat) => V.int (a - i))[i]? = some x) : x = .int (a + i * (-1)) := by
  rw [List.getElem?_map] at h
  obtain ⟨j, hj, rfl⟩ := Option.map_eq_some_iff.mp h
  rw [List.getElem?_range (by rcases Nat.lt_or_ge i (a - b).toNat with q | q; exact q; rw [List.getElem?_eq_none (by simpa using q)] at hj; cases hj)] at hj
  cases hj; congr 1; omega

theorem one_of {src : Src} (h : ∀ i pi j pj p, tgKind (.two i pi j pj p) src = false) : ∀ t, tgKind t src = true → ∃ i p, t = .one i p := fun t ht => by
  cases t with
  | one i p => exact ⟨i, p, rfl⟩
  | two i pi j pj p => rw [h i pi j pj p] at ht; cases ht

theorem type_args {nm : List Str} {env : Env} {pos : Pos} {T : String} {as : Exs} {Q : Value → Shared → Prop} {s : Shared} {A : Around} {E : Value → Shared → Prop}
    (h : wpAny (model prog w) A (spliced (backTo pos (starEach (trEs nm as) env))) (fun vs s₁ => wpAny (model prog w) A (call (.type T) vs) Q E s₁) E s) :
    wpAny (model prog w) A (callWith pos (.type T) [] (backTo pos (starEach (trEs nm as) env)) []) Q E s := by
  refine PyProof.Rows.callWith_type (star_all as) ?_
  cases as with
  | nil => exact evalArgs_nil' h
  | cons e r =>
    show wpAny _ _ (evalArgs _ true (backTo pos (starEach (trE nm e :: trEs nm r) env)) []) _ _ _
    have h' : wpAny (model prog w) A (spliced (backTo pos (starEach (trE nm e :: trEs nm r) env))) _ E s := h
    rw [star_tr] at h' ⊢
    exact evalArgs_plain h'

include G in
theorem snd_range1 {e : Ex} (he : SndE prog w K h0 n e) (q p : Pos) : SndSrc prog w K h0 n (.range1 e q p) := by
  intro env nm ρ σ Q s A E ok eo R k F h
  simp only [okSrc, okB, Bool.and_eq_true, beq_iff_eq] at ok
  refine wpAny_Call_Name_kw (range_name G eo k ok.1 (type_args (as := .cons e .nil) ?_))
  refine spliced_more (wpAny_mono (he ok.2 eo R k F h) (fun a s1 ⟨σ1, h1, p1⟩ => spliced_none ?_) fun _ _ e => e) (star_tr e)
  have k1 := k.post0 p1
  dsimp only at h1
  unfold intW at h1
  split at h1
  · rename_i i ei
    obtain ⟨t, rfl⟩ := abst_int ei
    have e0 := small_up (a := 0) (b := i) ⟨by decide, by decide⟩ h1.1
    refine call_range_1 ?_
    have j := Post.junk (own := nobody) (σ := σ1) (tk := s1.toks + 1 + 1) k1 (fun b ob e => Heap.get?_push_of_some ({ cls := .type "range", data := .fields #[.int 0 s1.toks, .int i t, .int 1 (s1.toks + 1)] } : Obj) e)
    have h2 := h1.2
    rw [upTo_eq] at h2
    refine wpAny_mono (src_range (src := .range1 e q p) (s := { s1 with heap := _, toks := s1.toks + 1 + 1 }) R (one_of fun _ _ _ _ _ => rfl) (k1.post0 j) (Heap.get?_push_size _ rfl) e0.1 (by rw [e0.2]; simp) upTo_at h2) (fun it s2 ⟨I, wr, items, g, St, σ2, r⟩ => ⟨I, wr, items, g, St, σ2, r.up (p1.trans j)⟩) fun _ _ e => e
  · exact h1.elim

include G in
theorem snd_range2 {e f : Ex} (he : SndE prog w K h0 n e) (hf : SndE prog w K h0 n f) (q p : Pos) : SndSrc prog w K h0 n (.range2 e f q p) := by
  intro env nm ρ σ Q s A E ok eo R k F h
  simp only [okSrc, okB, Bool.and_eq_true, beq_iff_eq] at ok
  refine wpAny_Call_Name_kw (range_name G eo k ok.1.1 (type_args (as := .cons e (.cons f .nil)) ?_))
  refine spliced_more (wpAny_mono (he ok.1.2 eo R k F h) (fun a s1 ⟨σ1, h1, p1⟩ => ?_) fun _ _ e => e) (star_tr e)
  have k1 := k.post0 p1
  dsimp only at h1
  unfold intW at h1
  split at h1
  · rename_i i ei
    obtain ⟨t, rfl⟩ := abst_int ei
    refine spliced_more (wpAny_mono (hf ok.2 eo R k1 (F.post p1) h1) (fun b s2 ⟨σ2, h2, p2⟩ => spliced_none ?_) fun _ _ e => e) (star_tr f)
    have k2 := k1.post0 p2
    dsimp only at h2
    split at h2
    · rename_i i' ei'
      obtain ⟨u, rfl⟩ := abst_int ei'
      have e0 := small_up h2.1.1 h2.1.2
      refine call_range_2 ?_
      have j := Post.junk (own := nobody) (σ := σ2) (tk := s2.toks + 1) k2 (fun b ob e => Heap.get?_push_of_some ({ cls := .type "range", data := .fields #[.int i t, .int i' u, .int 1 s2.toks] } : Obj) e)
      have h3 := h2.2
      rw [upTo_eq] at h3
      refine wpAny_mono (src_range (src := .range2 e f q p) (s := { s2 with heap := _, toks := s2.toks + 1 }) R (one_of fun _ _ _ _ _ => rfl) (k2.post0 j) (Heap.get?_push_size _ rfl) e0.1 (by rw [e0.2]; simp) upTo_at h3) (fun it s3 ⟨I, wr, items, g, St, σ3, r⟩ => ⟨I, wr, items, g, St, σ3, r.up ((p1.trans p2).trans j)⟩) fun _ _ e => e
    · exact h2.elim
  · exact h1.elim

include G in
theorem snd_range3 {e f c : Ex} (he : SndE prog w K h0 n e) (hf : SndE prog w K h0 n f) (hc : SndE prog w K h0 n c) (q p : Pos) : SndSrc prog w K h0 n (.range3 e f c q p) := by
  intro env nm ρ σ Q s A E ok eo R k F h
  simp only [okSrc, okB, Bool.and_eq_true, beq_iff_eq] at ok
  refine wpAny_Call_Name_kw (range_name G eo k ok.1.1.1 (type_args (as := .cons e (.cons f (.cons c .nil))) ?_))
  refine spliced_more (wpAny_mono (he ok.1.1.2 eo R k F h) (fun a s1 ⟨σ1, h1, p1⟩ => ?_) fun _ _ e => e) (star_tr e)
  have k1 := k.post0 p1
  dsimp only at h1
  unfold intW at h1
  split at h1
  · rename_i i ei
    obtain ⟨t, rfl⟩ := abst_int ei
    refine spliced_more (wpAny_mono (hf ok.1.2 eo R k1 (F.post p1) h1) (fun b s2 ⟨σ2, h2, p2⟩ => ?_) fun _ _ e => e) (star_tr f)
    have k2 := k1.post0 p2
    dsimp only at h2
    split at h2
    · rename_i i' ei'
      obtain ⟨u, rfl⟩ := abst_int ei'
      refine spliced_more (wpAny_mono (hc ok.2 eo R k2 ((F.post p1).post p2) h2) (fun b s3 ⟨σ3, h3, p3⟩ => spliced_none ?_) fun _ _ e => e) (star_tr c)
      have k3 := k2.post0 p3
      dsimp only at h3
      split at h3
      · rename_i i'' ei''
        obtain ⟨v, rfl⟩ := abst_int ei''
        obtain ⟨⟨s1', s2', rfl⟩, h4⟩ := h3
        have e0 := small_down s1' s2'
        refine call_range_3 (by decide) ?_
        have j := Post.junk (own := nobody) (σ := σ3) (tk := s3.toks) k3 (fun b ob e => Heap.get?_push_of_some ({ cls := .type "range", data := .fields #[.int i t, .int i' u, .int (-1) v] } : Obj) e)
        rw [downTo_eq] at h4
        refine wpAny_mono (src_range (src := .range3 e f c q p) (s := { s3 with heap := _, toks := s3.toks }) R (one_of fun _ _ _ _ _ => rfl) (k3.post0 j) (Heap.get?_push_size _ rfl) e0.1 (by rw [e0.2]; simp) downTo_at h4) (fun it s4 ⟨I, wr, items, g, St, σ4, r⟩ => ⟨I, wr, items, g, St, σ4, r.up (((p1.trans p2).trans p3).trans j)⟩) fun _ _ e => e
      · exact h3.elim
    · exact h2.elim
  · exact h1.elim

theorem enumL_eq (xs : List V) : enumL xs = (xs.mapIdx fun i x => (V.int i, x)).map fun v => [v.1, v.2] := by
  unfold enumL
  apply List.ext_getElem?
  intro i
  rw [List.getElem?_map, List.getElem?_mapIdx, List.getElem?_mapIdx, Option.map_map]; rfl
theorem zipL_eq : ∀ (xs ys : List V), zipL xs ys = (xs.zip ys).map fun v => [v.1, v.2]
  | [], _ => by simp [zipL]
  | _ :: _, [] => by simp [zipL]
  | x :: xs, y :: ys => by
    have := zipL_eq xs ys
    simp only [zipL, List.zipWith_cons_cons, List.zip_cons_cons, List.map_cons] at this ⊢
    rw [this]

theorem two_of {src : Src} (h : ∀ i p, tgKind (.one i p) src = false) : ∀ t, tgKind t src = true → ∃ i pi j pj p, t = .two i pi j pj p := fun t ht => by
  cases t with
  | two i pi j pj p => exact ⟨i, pi, j, pj, p, rfl⟩
  | one i p => rw [h i p] at ht; cases ht

include G in
theorem snd_enum {e : Ex} (he : SndE prog w K h0 n e) (q p : Pos) : SndSrc prog w K h0 n (.enum e q p) := by
  intro env nm ρ σ Q s A E ok eo R k F h
  simp only [okSrc, okB, Bool.and_eq_true, beq_iff_eq] at ok
  refine wpAny_Call_Name_kw (enum_name G eo k ok.1 (type_args (as := .cons e .nil) ?_))
  refine spliced_more (wpAny_mono (he ok.2 eo R k F h) (fun a s1 ⟨σ1, h1, p1⟩ => spliced_none ?_) fun _ _ e => e) (star_tr e)
  have k1 := k.post0 p1
  dsimp only at h1
  unfold refW at h1
  split at h1
  · rename_i x ex
    rw [abst_ref ex]
    obtain ⟨xs, hx, h1⟩ := h1
    obtain ⟨xa, gx, exs, hl⟩ := k1.sat _ _ hx
    have ltx : x < s1.heap.objs.size := by obtain ⟨m, gx⟩ := gx; exact Heap.lt_size gx
    refine call_enumerate_list gx.isList fun h' hE hI hsz hkeep => ?_
    have nx1 : s1.heap.get? s1.heap.objs.size = none := get?_size _
    have nx2 : s1.heap.get? (s1.heap.objs.size + 1) = none := by
      cases e : s1.heap.get? (s1.heap.objs.size + 1) with
      | none => rfl
      | some o => exact absurd (Heap.lt_size e) (Nat.not_lt.mpr (Nat.le_succ _))
    generalize hIa : s1.heap.objs.size = Ia at hE hI nx1 nx2 ltx ⊢
    have hei : Ia + 1 ≠ Ia := Nat.succ_ne_self _
    have hle : x ≠ Ia + 1 := Nat.ne_of_lt (Nat.lt_succ_of_lt ltx)
    have hli : x ≠ Ia := Nat.ne_of_lt ltx
    have j := Post.junk (own := nobody) (σ := σ1) (tk := s1.toks) k1 hkeep
    refine wpAny_pyIter_enum (s := { s1 with heap := h' }) hE ⟨Ia + 1, [Ia + 1, Ia], enumL xs, fun σ => σ x = some (.list xs), fun k h => (∃ old, IsEnum h (Ia + 1) Ia k old) ∧ h.IsListIter Ia x k, σ1, ?_⟩
    have fr : ∀ (k : Nat) (h h' : Heap), (∀ b ∈ [Ia + 1, Ia], ∀ o, h.get? b = some o → h'.get? b = some o) → ((∃ old, IsEnum h (Ia + 1) Ia k old) ∧ h.IsListIter Ia x k) → ((∃ old, IsEnum h' (Ia + 1) Ia k old) ∧ h'.IsListIter Ia x k) := fun k h h' hk st => by
      obtain ⟨⟨old, a⟩, b⟩ := st
      exact ⟨⟨old, hk _ (.head _) _ a⟩, b.at fun o e => hk _ (.tail _ (.head _)) o e⟩
    have he' : ∀ (k : Nat) (h : Heap), ((∃ old, IsEnum h (Ia + 1) Ia k old) ∧ h.IsListIter Ia x k) → ∀ b ∈ [Ia + 1, Ia], ∃ o, h.get? b = some o := fun k h st b hb => by
      obtain ⟨⟨old, a⟩, ⟨o, e, _⟩⟩ := st
      rcases List.mem_cons.mp hb with rfl | hb
      · exact ⟨_, a⟩
      · rw [List.mem_singleton.mp hb]; exact ⟨o, e⟩
    refine ⟨rfl, h1, p1.trans j, ?_, ⟨⟨_, hE⟩, hI⟩, fr, he', ?_, ?_⟩
    · intro b hb
      rcases List.mem_cons.mp hb with rfl | hb
      · exact ⟨p1.fresh0 nx2, k1.fresh nx2⟩
      · rw [List.mem_singleton.mp hb]; exact ⟨p1.fresh0 nx1, k1.fresh nx1⟩
    · intro k s Q E st q; obtain ⟨⟨old, a⟩, _⟩ := st; exact wpAny_pyIter_enum a q
    · intro env' nm' own' t ht eo' hok
      obtain ⟨i, pi, j, pj, p, rfl⟩ := two_of (fun _ _ => rfl) t ht
      rw [enumL_eq]
      refine iter_two (Mid := fun k T h => (∃ x', IsEnumOut h (Ia + 1) Ia ((k : Int) + 1) x' T) ∧ h.IsListIter Ia x (k + 1)) R eo' hok fr he' ?_ ?_ ?_
      · intro k v s' σ' Q' E' hv hg ok st hQ
        obtain ⟨ya, gy, ey, _⟩ := ok.sat _ _ hg
        have W := WalksT.enumerate (prog := prog) (w := w) (A := A) R.handled (Ia + 1) Ia x hei hle hli ya
        rw [List.getElem?_mapIdx] at hv
        obtain ⟨v', hv', rfl⟩ := Option.map_eq_some_iff.mp hv
        rw [← ey, List.getElem?_map] at hv'
        obtain ⟨u, hu, eu⟩ := Option.map_eq_some_iff.mp hv'
        have hu' : ya[k]? = some u := by simpa using hu
        have hk : k < ya.size := by
          rcases Nat.lt_or_ge k ya.size with q | q
          · exact q
          · rw [Array.getElem?_eq_none q] at hu'; cases hu'
        refine W.item k s' Q' E' hk ⟨st.1, st.2, gy.isList⟩ fun T vals h2 tk hP hT ht hm keep => ?_
        obtain ⟨t', x', ex', rfl⟩ := hP
        rw [hu'] at ex'; cases ex'
        exact hQ T _ _ h2 tk rfl eu hT ht ⟨hm.1, hm.2.1⟩ (W.apart k T h2 hm) keep
      · intro elts c pos k T s' Q' E' hm hQ
        obtain ⟨⟨x', ho⟩, hit⟩ := hm
        refine wpAny_letOwnedTupleGo_enum ho fun h2 he2 hs2 => hQ h2 ⟨⟨x', by simpa using he2⟩, hit.at fun o y => (hs2.2 Ia hei.symm).trans y⟩ fun b o hb y => ?_
        exact (hs2.2 b fun e' => hb (by simp [e'])).trans y
      · intro s' σ' Q' E' hg ok st hQ
        obtain ⟨ya, gy, ey, _⟩ := ok.sat _ _ hg
        have W := WalksT.enumerate (prog := prog) (w := w) (A := A) R.handled (Ia + 1) Ia x hei hle hli ya
        have : (List.mapIdx (fun i x => (V.int i, x)) xs).length = ya.size := by rw [List.length_mapIdx, ← ey]; simp
        rw [this] at st
        exact W.done s' Q' E' ⟨st.1, st.2, gy.isList⟩ hQ
  · exact h1.elim

include G in
theorem snd_zip {e f : Ex} (he : SndE prog w K h0 n e) (hf : SndE prog w K h0 n f) (q p : Pos) : SndSrc prog w K h0 n (.zip e f q p) := by
  intro env nm ρ σ Q s A E ok eo R k F h
  simp only [okSrc, okB, Bool.and_eq_true, beq_iff_eq] at ok
  refine wpAny_Call_Name_kw (zip_name G eo k ok.1.1 (type_args (as := .cons e (.cons f .nil)) ?_))
  refine spliced_more (wpAny_mono (he ok.1.2 eo R k F h) (fun a s0 ⟨σ0, h0', p0⟩ => ?_) fun _ _ e => e) (star_tr e)
  have k0 := k.post0 p0
  refine spliced_more (wpAny_mono (hf ok.2 eo R k0 (F.post p0) h0') (fun b s1 ⟨σ1, h1, p1'⟩ => spliced_none ?_) fun _ _ e => e) (star_tr f)
  have k1 := k0.post0 p1'
  have p1 := p0.trans p1'
  dsimp only at h1
  unfold refW at h1
  split at h1
  · rename_i x ex
    rw [abst_ref ex]
    split at h1
    · rename_i y ey0
      rw [abst_ref ey0]
      obtain ⟨xs, ys, ⟨hx, hy⟩, h1⟩ := h1
      obtain ⟨xa, gx, exs, _⟩ := k1.sat _ _ hx
      obtain ⟨ya, gy, eys, _⟩ := k1.sat _ _ hy
      have ltx : x < s1.heap.objs.size := by obtain ⟨m, gx⟩ := gx; exact Heap.lt_size gx
      have lty : y < s1.heap.objs.size := by obtain ⟨m, gy⟩ := gy; exact Heap.lt_size gy
      refine call_zip_2 gx.isList gy.isList fun h' hZ hTI hTO hI1 hI2 hsz hkeep => ?_
      have nx : ∀ c, s1.heap.objs.size ≤ c → s1.heap.get? c = none := fun c hc => by
        cases e : s1.heap.get? c with
        | none => rfl
        | some o => exact absurd (Heap.lt_size e) (Nat.not_lt.mpr hc)
      generalize hIa : s1.heap.objs.size = Ia at hZ hTI hTO hI1 hI2 nx ltx lty ⊢
      have D : ZipApart (Ia + 4) (Ia + 2) (Ia + 3) Ia (Ia + 1) x y := by
        have hx' : @LT.lt Nat _ x Ia := ltx
        have hy' : @LT.lt Nat _ y Ia := lty
        constructor <;> (show @Ne Nat _ _; omega)
      have j := Post.junk (own := nobody) (σ := σ1) (tk := s1.toks) k1 hkeep
      refine wpAny_pyIter_zip (s := { s1 with heap := h' }) hZ ⟨Ia + 4, [Ia + 4, Ia + 2, Ia + 3, Ia, Ia + 1], zipL xs ys, fun σ => σ x = some (.list xs) ∧ σ y = some (.list ys),
        fun k h => IsZip h (Ia + 4) (Ia + 2) (Ia + 3) .none ∧ IsPair h (Ia + 2) (.ref Ia) (.ref (Ia + 1)) ∧ (∃ a b, IsPair h (Ia + 3) a b) ∧ h.IsListIter Ia x k ∧ h.IsListIter (Ia + 1) y k, σ1, ?_⟩
      have fr : ∀ (k : Nat) (h h' : Heap), (∀ b ∈ [Ia + 4, Ia + 2, Ia + 3, Ia, Ia + 1], ∀ o, h.get? b = some o → h'.get? b = some o) →
          (IsZip h (Ia + 4) (Ia + 2) (Ia + 3) .none ∧ IsPair h (Ia + 2) (.ref Ia) (.ref (Ia + 1)) ∧ (∃ a b, IsPair h (Ia + 3) a b) ∧ h.IsListIter Ia x k ∧ h.IsListIter (Ia + 1) y k) →
          (IsZip h' (Ia + 4) (Ia + 2) (Ia + 3) .none ∧ IsPair h' (Ia + 2) (.ref Ia) (.ref (Ia + 1)) ∧ (∃ a b, IsPair h' (Ia + 3) a b) ∧ h'.IsListIter Ia x k ∧ h'.IsListIter (Ia + 1) y k) := fun k h h' hk st => by
        obtain ⟨a1, a2, ⟨u, v, a3⟩, a4, a5⟩ := st
        exact ⟨hk _ (by simp) _ a1, hk _ (by simp) _ a2, ⟨u, v, hk _ (by simp) _ a3⟩, a4.at fun o e => hk _ (by simp) o e, a5.at fun o e => hk _ (by simp) o e⟩
      have he' : ∀ (k : Nat) (h : Heap), (IsZip h (Ia + 4) (Ia + 2) (Ia + 3) .none ∧ IsPair h (Ia + 2) (.ref Ia) (.ref (Ia + 1)) ∧ (∃ a b, IsPair h (Ia + 3) a b) ∧ h.IsListIter Ia x k ∧ h.IsListIter (Ia + 1) y k) →
          ∀ b ∈ [Ia + 4, Ia + 2, Ia + 3, Ia, Ia + 1], ∃ o, h.get? b = some o := fun k h st b hb => by
        obtain ⟨a1, a2, ⟨u, v, a3⟩, ⟨o4, a4, _⟩, ⟨o5, a5, _⟩⟩ := st
        simp only [List.mem_cons, List.not_mem_nil, or_false] at hb
        rcases hb with rfl | rfl | rfl | rfl | rfl
        · exact ⟨_, a1⟩
        · exact ⟨_, a2⟩
        · exact ⟨_, a3⟩
        · exact ⟨_, a4⟩
        · exact ⟨_, a5⟩
      refine ⟨rfl, h1, p1.trans j, ?_, ⟨hZ, hTI, ⟨_, _, hTO⟩, hI1, hI2⟩, fr, he', ?_, ?_⟩
      · intro b hb
        have : s1.heap.get? b = none := by
          simp only [List.mem_cons, List.not_mem_nil, or_false] at hb
          rcases hb with rfl | rfl | rfl | rfl | rfl <;> exact nx _ (by first | exact Nat.le_refl _ | exact Nat.le_add_right _ _)
        exact ⟨p1.fresh0 this, k1.fresh this⟩
      · intro k s Q E st q; exact wpAny_pyIter_zip st.1 q
      · intro env' nm' own' t ht eo' hok
        obtain ⟨i, pi, j, pj, p, rfl⟩ := two_of (fun _ _ => rfl) t ht
        rw [zipL_eq]
        refine iter_two (Mid := fun k T h => IsZip h (Ia + 4) (Ia + 2) (Ia + 3) (rawInt T) ∧ IsPair h (Ia + 2) (.ref Ia) (.ref (Ia + 1)) ∧ (∃ a b, IsPair h (Ia + 3) a b) ∧ h.IsListIter Ia x (k + 1) ∧ h.IsListIter (Ia + 1) y (k + 1)) R eo' hok fr he' ?_ ?_ ?_
        · intro k v s' σ' Q' E' hv hg ok st hQ
          obtain ⟨xb, gxb, exb, _⟩ := ok.sat _ _ hg.1
          obtain ⟨yb, gyb, eyb, _⟩ := ok.sat _ _ hg.2
          have W := WalksT.zip2 (prog := prog) (w := w) (A := A) R.handled (Ia + 4) (Ia + 2) (Ia + 3) Ia (Ia + 1) x y D xb yb
          rw [List.getElem?_zip_eq_some] at hv
          obtain ⟨hv1, hv2⟩ := hv
          rw [← exb, List.getElem?_map] at hv1
          rw [← eyb, List.getElem?_map] at hv2
          obtain ⟨u, hu, eu⟩ := Option.map_eq_some_iff.mp hv1
          obtain ⟨u', hu', eu'⟩ := Option.map_eq_some_iff.mp hv2
          have hu : xb[k]? = some u := by simpa using hu
          have hu' : yb[k]? = some u' := by simpa using hu'
          have hk1 : k < xb.size := by
            rcases Nat.lt_or_ge k xb.size with q | q
            · exact q
            · rw [Array.getElem?_eq_none q] at hu; cases hu
          have hk2 : k < yb.size := by
            rcases Nat.lt_or_ge k yb.size with q | q
            · exact q
            · rw [Array.getElem?_eq_none q] at hu'; cases hu'
          obtain ⟨a1, a2, a3, a4, a5⟩ := st
          refine W.item k s' Q' E' (by omega) ⟨a1, a2, a3, a4, a5, gxb.isList, gyb.isList⟩ fun T vals h2 tk hP hT ht hm keep => ?_
          obtain ⟨z1, z2, e1, e2, rfl⟩ := hP
          rw [hu] at e1; cases e1
          rw [hu'] at e2; cases e2
          obtain ⟨m1, m2, m3, m4, m5, _, _, m8, m9, m10, m11⟩ := hm
          have hT2 : T ∉ [Ia + 4, Ia + 2, Ia + 3, Ia, Ia + 1] := fun hm' => by
            have : T = Ia + 2 := by
              simp only [List.mem_cons, List.not_mem_nil, or_false] at hm'
              rcases hm' with q | q | q | q | q
              · exact absurd q m8
              · exact q
              · exact absurd q m9
              · exact absurd q m10
              · exact absurd q m11
            have lt := Heap.lt_size a2
            rw [this] at hT
            exact absurd lt (Nat.not_lt.mpr hT)
          exact hQ T _ _ h2 tk eu eu' hT ht ⟨m1, m2, m3, m4, m5⟩ hT2 fun b o hb e => keep b o (fun q => hb (by simp only [List.mem_cons, List.not_mem_nil, or_false] at q ⊢; rcases q with q | q | q | q <;> simp [q])) e
        · intro elts c pos k T s' Q' E' hm hQ
          obtain ⟨hz, hTI', ⟨u, v, hTO'⟩, h1', h2'⟩ := hm
          refine wpAny_letOwnedTupleGo_zip hz fun h2 hz' hs' => hQ h2 ⟨hz', hs'.extBut _ _ D.TIz hTI', ⟨u, v, hs'.extBut _ _ D.TOz hTO'⟩, h1'.extBut hs'.extBut D.i1z, h2'.extBut hs'.extBut D.i2z⟩ fun c o hc e => hs'.extBut _ _ (fun x => hc (by simp [x])) e
        · intro s' σ' Q' E' hg ok st hQ
          obtain ⟨xb, gxb, exb, _⟩ := ok.sat _ _ hg.1
          obtain ⟨yb, gyb, eyb, _⟩ := ok.sat _ _ hg.2
          have W := WalksT.zip2 (prog := prog) (w := w) (A := A) R.handled (Ia + 4) (Ia + 2) (Ia + 3) Ia (Ia + 1) x y D xb yb
          have : (xs.zip ys).length = min xb.size yb.size := by rw [List.length_zip, ← exb, ← eyb]; simp
          rw [this] at st
          obtain ⟨a1, a2, a3, a4, a5⟩ := st
          exact W.done s' Q' E' ⟨a1, a2, a3, a4, a5, gxb.isList, gyb.isList⟩ fun h2 tk keep => hQ h2 tk fun b o hb e => keep b o (fun q => hb (by simp only [List.mem_cons, List.not_mem_nil, or_false] at q ⊢; rcases q with q | q | q | q <;> simp [q])) e
    · exact h1.elim
  · exact h1.elim
end
end Mine
end
section
set_option maxRecDepth 100000
namespace Mine
open PySem PySem.W PyProof.Rows PySem.Calls

section
variable {h0 : Heap} {prog : Program} {w : World} {K : Frag} {n : Nat}

theorem compLoop_gen {A : Around} {R : Result → Shared → Prop} {s : Shared} {elt target iter : Expr} {ifs : List Expr} {scope : Scope} {pos : Pos} {it acc : Value} {env : Env} (I : Nat → Shared → Prop)
    (turn : ∀ n s, I n s → ∀ E : Value → Shared → Prop, wpAny (model prog w) A (pyNext it) (fun r s₁ => match r with
      | none => R (.ok .next) s₁
      | some v => wpAny (model prog w) A (letOwnedTupleGo target it v) (fun _ s₁' => wpAny (model prog w) A (assign target env v) (fun _ s₂ =>
          wpAny (model prog w) A (forIn ifs true fun c r => if r = true then do let ok ← isTrue c env (eval c env); pure (ForInStep.yield ok) else pure (ForInStep.yield r)) (fun ok s₃ =>
            if ok = true then wpAny (model prog w) A (eval elt env) (fun x s₄ =>
              wpAny (model prog w) A (call (.builtin "list.append") [acc, x]) (fun _ s₅ => ∃ m, m < n ∧ I m s₅) E s₄) E s₃
            else ∃ m, m < n ∧ I m s₃) E s₂) E s₁') E s₁) E s)
    (n : Nat) (h : I n s) :
    codeAny (model prog w) A (.compLoop (.ListComp elt [⟨target, iter, ifs, 0⟩] scope pos) 0 it acc env) R s := by
  refine codeAny_loop rfl I (fun n s hI => ?_) n h
  show wpAny _ A ((compTurn (.ListComp elt [⟨target, iter, ifs, 0⟩] scope pos) 0 it acc env).onRaise (fun x => do noteFrame x env; theTreesLotGoes x)) _ _ s
  refine wpAny_noted ?_
  rw [compTurn_list]
  refine wpAny_bind (wpAny_standAt (wpAny_bind (wpAny_mono (turn n s hI _) (fun r s₁ h₁ => ?_) fun _ _ h' => h')))
  cases r with
  | none => exact wpAny_pure h₁
  | some v =>
    refine wpAny_bind (wpAny_mono h₁ (fun _ s₁' h₁' => ?_) fun _ _ h' => h')
    refine wpAny_bind (wpAny_mono h₁' (fun _ s₂ h₂ => wpAny_bind (wpAny_mono h₂ (fun ok s₃ h₃ => ?_) fun _ _ h' => h')) fun _ _ h' => h')
    cases ok with
    | false => exact wpAny_pure ⟨rfl, h₃⟩
    | true =>
      exact wpAny_bind (wpAny_bind (wpAny_mono h₃ (fun x s₄ h₄ => wpAny_bind (wpAny_mono h₄ (fun _ s₅ h₅ => wpAny_pure (wpAny_pure ⟨rfl, h₅⟩)) fun _ _ h' => h')) fun _ _ h' => h'))

theorem closure_ok {env : Env} {scope : Scope} (hl : ∀ x, (x, NameKind.free) ∈ scope.names → ∃ c, env.cells.lookup x = some c) :
    ∃ cl, closureFor scope env = pure cl ∧ (∀ x c, (x, c) ∈ cl → env.cells.lookup x = some c) ∧ ∀ x, (x, NameKind.free) ∈ scope.names → ∃ c, (x, c) ∈ cl := by
  have core : ∀ (names : List (Str × NameKind)) (acc : List (Str × Addr)), (∀ x, (x, NameKind.free) ∈ names → ∃ c, env.cells.lookup x = some c) → (∀ x c, (x, c) ∈ acc → env.cells.lookup x = some c) →
      ∃ cl, (forIn names acc fun (x : Str × NameKind) (cs : List (Str × Addr)) => (if x.2 == NameKind.free then (cellOf env x.1 >>= fun c => pure (ForInStep.yield ((x.1, c) :: cs))) else pure (ForInStep.yield cs) : Sem _)) = pure cl ∧
        (∀ x c, (x, c) ∈ cl → env.cells.lookup x = some c) ∧ (∀ x c, (x, c) ∈ acc → (x, c) ∈ cl) ∧ ∀ x, (x, NameKind.free) ∈ names → ∃ c, (x, c) ∈ cl := by
    intro names
    induction names with
    | nil => intro acc _ ha; exact ⟨acc, rfl, ha, fun _ _ h => h, fun _ h => (nomatch h)⟩
    | cons y r ih =>
      intro acc hl ha
      obtain ⟨y, k⟩ := y
      by_cases hk : k = .free
      · subst hk
        obtain ⟨c, hc⟩ := hl y (.head _)
        obtain ⟨cl, e, a1, a2, a3⟩ := ih ((y, c) :: acc) (fun x hx => hl x (.tail _ hx)) (fun x d hx => by
          rcases List.mem_cons.mp hx with e | hx
          · cases e; exact hc
          · exact ha x d hx)
        refine ⟨cl, ?_, a1, fun x d hx => a2 x d (.tail _ hx), fun x hx => ?_⟩
        · rw [List.forIn_cons]
          have : cellOf env y = pure c := by unfold cellOf; rw [hc]
          simp only [beq_self_eq_true, if_true, this, pure_bind]
          exact e
        · rcases List.mem_cons.mp hx with e | hx
          · cases e; exact ⟨c, a2 _ _ (.head _)⟩
          · exact a3 x hx
      · obtain ⟨cl, e, a1, a2, a3⟩ := ih acc (fun x hx => hl x (.tail _ hx)) ha
        refine ⟨cl, ?_, a1, a2, fun x hx => ?_⟩
        · rw [List.forIn_cons]
          have : (k == NameKind.free) = false := by simpa using hk
          simp only [this, Bool.false_eq_true, if_false, pure_bind]
          exact e
        · rcases List.mem_cons.mp hx with e | hx
          · cases e; exact absurd rfl hk
          · exact a3 x hx
  obtain ⟨cl, e, a1, _, a3⟩ := core scope.names [] hl (fun _ _ h => nomatch h)
  refine ⟨cl, ?_, a1, a3⟩
  unfold closureFor
  show (forIn scope.names [] _ >>= fun cs => pure cs) = pure cl
  rw [show (forIn scope.names [] fun (x : Str × NameKind) (cs : List (Str × Addr)) => _) = pure cl from e]
  rfl

theorem lookup_map_relab {kd : Str → Option NameKind} : ∀ {names : List (Str × NameKind)} {x : Str} {k : NameKind}, names.lookup x = some k →
    (names.map fun (y : Str × NameKind) => if (y.2 == .free && kd y.1 == some .cell) then (y.1, NameKind.cell) else (y.1, y.2)).lookup x = some (if (k == .free && kd x == some .cell) then .cell else k)
  | [], _, _, h => by simp at h
  | (y, k') :: r, x, k, h => by
    rw [List.lookup_cons] at h
    rw [List.map_cons]
    cases hx : x == y with
    | true =>
      rw [hx] at h
      simp only [Option.some.injEq] at h; subst h
      have := beq_iff_eq.mp hx; subst this
      dsimp only
      split <;> simp
    | false =>
      rw [hx] at h
      have ih := lookup_map_relab (kd := kd) (names := r) (x := x) (k := k) h
      dsimp only
      split <;> (rw [List.lookup_cons, hx]; exact ih)
theorem mem_map_relab {kd : Str → Option NameKind} : ∀ {names : List (Str × NameKind)} {x : Str}, (∀ y ∈ names, y.2 ≠ .cell) →
    (names.map fun (y : Str × NameKind) => if (y.2 == .free && kd y.1 == some .cell) then (y.1, NameKind.cell) else (y.1, y.2)).lookup x = some .cell → (x, NameKind.free) ∈ names
  | [], _, _, h => by simp at h
  | (y, k') :: r, x, hn, h => by
    rw [List.map_cons] at h
    dsimp only at h
    cases hx : x == y with
    | true =>
      have e := beq_iff_eq.mp hx; subst e
      by_cases hc : (k' == .free && kd x == some .cell) = true
      · have : k' = .free := by simp only [Bool.and_eq_true, beq_iff_eq] at hc; exact hc.1
        rw [this]; exact .head _
      · rw [if_neg hc, List.lookup_cons, hx] at h
        simp only [Option.some.injEq] at h
        exact absurd h (hn _ (.head _))
    | false =>
      have : (r.map fun (y : Str × NameKind) => if (y.2 == .free && kd y.1 == some .cell) then (y.1, NameKind.cell) else (y.1, y.2)).lookup x = some .cell := by
        split at h <;> (rw [List.lookup_cons, hx] at h; exact h)
      exact .tail _ (mem_map_relab (fun y hy => hn y (.tail _ hy)) this)

theorem comp_kind {env : Env} {sc : Scope} {cl : List (Str × Addr)} {C : Addr} (hk : env.scope.kind = .function) : (compEnvC sc cl C env).kindOf = relabK env.kindOf sc := by
  funext x
  unfold Env.kindOf compEnvC relabel relabK
  simp only [hk, beq_self_eq_true, Bool.and_true]
  rfl

structure CapOk (kd : Str → Option NameKind) (nm : List Str) (sc : Scope) (cn : List Str) (cap : List (Option Nat)) : Prop where
  fn : sc.kind = .function
  noCell : ∀ y ∈ sc.names, y.2 ≠ .cell
  loc : ∀ y ∈ sc.names, y.2 = .local → sc.names.lookup y.1 = some .local
  free : ∀ x, (x, NameKind.free) ∈ sc.names → kd x = some .cell
  nd : nodupS cn = true
  capt : ∀ (i : Nat) x j, cn[i]? = some x → cap[i]? = some (some j) → j < nm.length ∧ nmAt nm j = x ∧ (x, NameKind.free) ∈ sc.names ∧ sc.names.lookup x = some .free
  own : ∀ (i : Nat) x, cn[i]? = some x → cap[i]? = some none → sc.names.lookup x = some .local
  len : cn.length = cap.length

theorem capOk_of {kd : Str → Option NameKind} {nm : List Str} {sc : Scope} {cn : List Str} {cap : List (Option Nat)} (h : okCap kd nm sc cn cap = true) : CapOk kd nm sc cn cap := by
  unfold okCap at h
  simp only [Bool.and_eq_true, beq_iff_eq, List.all_eq_true, bne_iff_ne, ne_eq, Bool.or_eq_true] at h
  obtain ⟨⟨⟨⟨⟨h1, h2⟩, h3⟩, h4⟩, h5⟩, h6⟩ := h
  have z : ∀ (i : Nat) x c, cn[i]? = some x → cap[i]? = some c → (x, c) ∈ cn.zip cap := fun i x c e1 e2 => List.mem_of_getElem? (i := i) (by rw [List.getElem?_zip_eq_some]; exact ⟨e1, e2⟩)
  refine ⟨h1, fun y hy => (h3 y hy).1.1, fun y hy e => ?_, fun x hx => ?_, h4, fun i x j e1 e2 => ?_, fun i x e1 e2 => ?_, h5⟩
  · exact ((h3 y hy).1.2).resolve_left (fun q => q e)
  · exact ((h3 _ hx).2).resolve_left (fun q => q rfl)
  · have := h6 _ (z i x _ e1 e2)
    simp only [Bool.and_eq_true, decide_eq_true_eq, beq_iff_eq] at this
    exact ⟨this.1.1, this.1.2, mem_of_lookup (α := NameKind) this.2, this.2⟩
  · have := h6 _ (z i x _ e1 e2)
    simpa using this

theorem lookup_of_mem_some {cl : List (Str × Addr)} {x : Str} {c : Addr} (h : (x, c) ∈ cl) : ∃ d, cl.lookup x = some d ∧ (x, d) ∈ cl := by
  induction cl with
  | nil => cases h
  | cons y r ih =>
    obtain ⟨y, d⟩ := y
    rw [List.lookup_cons]
    cases hx : x == y with
    | true => have := beq_iff_eq.mp hx; subst this; exact ⟨d, rfl, .head _⟩
    | false =>
      rcases List.mem_cons.mp h with e | h
      · cases e; simp at hx
      · obtain ⟨d', e, m⟩ := ih h; exact ⟨d', e, .tail _ m⟩

theorem comp_env {env : Env} {nm : List Str} {ρ : Loc} {σ : AHeap} {h : Heap} {sc : Scope} {cn : List Str} {cap : List (Option Nat)} {cl : List (Str × Addr)} {C : Addr} (eo : EnvOk h0 env) (F : Fm env nm ρ σ h) (ck : CapOk env.kindOf nm sc cn cap)
    (hcl : ∀ x c, (x, c) ∈ cl → env.cells.lookup x = some c) (hfr : ∀ x, (x, NameKind.free) ∈ sc.names → ∃ c, (x, c) ∈ cl) (hC : Bs h0 C) (hCn : ∀ a, ownOfEnv env a → a ≠ C) (hCσ : σ C = none) (hns : h.Ns C fun _ => none) :
    EnvOk h0 (compEnvC sc cl C env) ∧ Fm (compEnvC sc cl C env) cn (Mine.capt cap ρ) σ h := by
  have own : ∀ x c, (x, c) ∈ cl → ownOfEnv env c := fun x c m => .inr ⟨x, mem_of_lookup (hcl x c m)⟩
  have kd := comp_kind (sc := sc) (cl := cl) (C := C) eo.kind
  have lk : ∀ x, (compEnvC sc cl C env).kindOf x = some .cell → ∃ c, cl.lookup x = some c := fun x e => by
    rw [kd] at e
    have := mem_map_relab (kd := env.kindOf) ck.noCell e
    obtain ⟨c, hc⟩ := hfr x this
    obtain ⟨d, e, _⟩ := lookup_of_mem_some hc
    exact ⟨d, e⟩
  refine ⟨⟨ck.fn, eo.glob, eo.bi, hC, fun x c m => eo.own c (own x c m), lk, fun x c m => Ne.symm (hCn c (own x c m))⟩, ⟨_, hns, fun i x v e1 e2 e3 => ?_⟩, fun i x v e1 e2 e3 => ?_, fun x c m => ?_, fun a ha => ?_⟩
  · exfalso
    unfold Mine.capt at e3
    rw [List.getD_eq_getElem?_getD, List.getElem?_map] at e3
    cases hc : cap[i]? with
    | none => rw [hc] at e3; cases e3
    | some o =>
      rw [hc] at e3
      cases o with
      | none => cases e3
      | some j =>
        obtain ⟨_, _, m1, m2⟩ := ck.capt i x j e1 hc
        rw [kd] at e2
        have := lookup_map_relab (kd := env.kindOf) m2
        unfold relabK at e2
        have e2' : some (if (NameKind.free == .free && env.kindOf x == some .cell) = true then NameKind.cell else .free) = some .local := this.symm.trans e2
        split at e2' <;> cases e2'
  · unfold Mine.capt at e3
    rw [List.getD_eq_getElem?_getD, List.getElem?_map] at e3
    cases hc : cap[i]? with
    | none => rw [hc] at e3; cases e3
    | some o =>
      rw [hc] at e3
      cases o with
      | none => cases e3
      | some j =>
        obtain ⟨j1, j2, m1, m2⟩ := ck.capt i x j e1 hc
        have e3' : ρ.getD j none = some v := e3
        obtain ⟨c, u, c1, c2, c3⟩ := F.cell j x v (by rw [nmAt_get j1, j2]) (ck.free x m1) e3'
        obtain ⟨d, hd⟩ := hfr x m1
        obtain ⟨d', e, m⟩ := lookup_of_mem_some hd
        have := hcl x d' m
        rw [c1] at this; cases this
        exact ⟨_, u, e, c2, c3⟩
  · exact F.any x c (mem_of_lookup (hcl x c m))
  · rcases ha with rfl | ⟨x, m⟩
    · exact hCσ
    · exact F.off a (own x a m)
end
end Mine
end
section
set_option maxRecDepth 100000
namespace Mine
open PySem PySem.W PyProof.Rows PySem.Calls

section
variable {h0 : Heap} {prog : Program} {w : World} {K : Frag} {n : Nat}

theorem Fm.weaken {env : Env} {nm : List Str} {ρ ρ' : Loc} {σ : AHeap} {h : Heap} (f : Fm env nm ρ σ h) (hw : ∀ i v, ρ'.getD i none = some v → ρ.getD i none = some v) : Fm env nm ρ' σ h := by
  obtain ⟨m, hn, hm⟩ := f.ns
  exact ⟨⟨m, hn, fun i x v e1 e2 e3 => hm i x v e1 e2 (hw i v e3)⟩, fun i x v e1 e2 e3 => f.cell i x v e1 e2 (hw i v e3), f.any, f.off⟩

theorem setTg_over {t : Tg} {it : List V} {ρ : Loc} (hn : match t with | .one i _ => ρ.getD i none = none | .two i _ j _ _ => ρ.getD i none = none ∧ ρ.getD j none = none) : ∀ i v, ρ.getD i none = some v → (setTg t it ρ).getD i none = some v := by
  intro i v e
  unfold setTg
  split
  · rename_i j p u
    have q : j ≠ i := fun q => by subst q; dsimp only at hn; rw [hn] at e; cases e
    rw [getD_set_ne q]; exact e
  · rename_i j p k q r u u'
    have q1 : j ≠ i := fun q => by subst q; dsimp only at hn; rw [hn.1] at e; cases e
    have q2 : k ≠ i := fun q => by subst q; dsimp only at hn; rw [hn.2] at e; cases e
    rw [getD_set_ne q2, getD_set_ne q1]; exact e
  · exact e

theorem Post.unk {own : Addr → Prop} {σ σ' : AHeap} {s s' : Shared} (p : Post h0 own σ s σ' s') {a : Addr} (h : σ a = none) (l : ∃ o, s.heap.get? a = some o) : σ' a = none := by
  cases e : σ' a with
  | none => rfl
  | some x =>
    obtain ⟨o, ho⟩ := l
    rcases p.dom a (by rw [e]; simp) with z | z
    · exact absurd h z
    · rw [ho] at z; cases z
theorem Post.stays {own : Addr → Prop} {σ σ' : AHeap} {s s' : Shared} (p : Post h0 own σ s σ' s') {a : Addr} (h : σ a = .none) (ho : ¬ own a) {o : Obj} (e : s.heap.get? a = some o) : s'.heap.get? a = some o := p.keep a o e (.inl h) ho

theorem comp_loop {A : Around} {cenv : Env} {cn : List Str} {ρc : Loc} {elt : Expr} {iterE : Expr} {ifs : List Expr} {sc : Scope} {pos : Pos} {tg : Tg} {I D : Addr} {wr : List Addr} {items : List (List V)} {g : AHeap → Prop} {St : Nat → Heap → Prop} {J : Nat → List V → AHeap → Prop}
    {R : Result → Shared → Prop} {σ2 : AHeap} {s2 : Shared}
    (W : IterOk prog w A h0 cenv cn (fun a => a = cenv.locals) tg I wr items g St) (eo : EnvOk h0 cenv) (hz : items.length ≤ LIM)
    (frame : ∀ k h h', (∀ b ∈ wr, ∀ o, h.get? b = some o → h'.get? b = some o) → St k h → St k h') (here : ∀ k h, St k h → ∀ b ∈ wr, ∃ o, h.get? b = some o)
    (hwr : ∀ b ∈ wr, ¬ ownOfEnv cenv b ∧ Bs h0 b) (hDC : ¬ ownOfEnv cenv D) (hDw : D ∉ wr) (hDb : Bs h0 D)
    (htg : match tg with | .one i _ => ρc.getD i none = none | .two i _ j _ _ => ρc.getD i none = none ∧ ρc.getD j none = none)
    (hJ : ∀ k acc σ, J k acc σ → g σ ∧ acc.length ≤ k)
    (hstep : ∀ k acc σ it (s : Shared) (E : Value → Shared → Prop), J k acc σ → items[k]? = some it → Ok h0 σ s → Fm cenv cn (setTg tg it ρc) σ s.heap →
      wpAny (model prog w) A (forIn ifs true fun c r => if r = true then do let ok ← isTrue c cenv (eval c cenv); pure (ForInStep.yield ok) else pure (ForInStep.yield r))
        (fun ok s3 => if ok = true then wpAny (model prog w) A (eval elt cenv) (fun x s4 => ∃ σ4, J (k + 1) (acc ++ [abst x]) σ4 ∧ Post h0 nobody σ s σ4 s4) E s3 else ∃ σ3, J (k + 1) acc σ3 ∧ Post h0 nobody σ s σ3 s3) E s)
    (hfin : ∀ acc σ' s1 s' xs, J items.length acc σ' → Ok h0 σ' s' → s'.heap.PlainList D xs → xs.toList.map abst = acc → acc.length ≤ items.length → σ' D = none → Fm cenv cn ρc σ' s'.heap → Post h0 (fun a => a = cenv.locals ∨ a ∈ wr ∨ a = D) σ2 s2 σ' s1 →
      (∀ b o, b ∉ wr → s1.heap.get? b = some o → s'.heap.get? b = some o) → s'.os = s1.os → s'.gens = s1.gens → R (.ok .next) s')
    (start : J 0 [] σ2 ∧ Ok h0 σ2 s2 ∧ Fm cenv cn ρc σ2 s2.heap ∧ St 0 s2.heap ∧ s2.heap.PlainList D #[] ∧ (∀ b ∈ wr, σ2 b = none) ∧ σ2 D = none) :
    codeAny (model prog w) A (.compLoop (.ListComp elt [⟨trTg cn tg, iterE, ifs, 0⟩] sc pos) 0 (.ref I) (.ref D) cenv) R s2 := by
  obtain ⟨t1, t2, t3, t4, t5, t6, t7⟩ := start
  refine compLoop_gen (fun m s' => ∃ k acc σ' xs, k ≤ items.length ∧ m = items.length + 1 - k ∧ J k acc σ' ∧ Ok h0 σ' s' ∧ Fm cenv cn ρc σ' s'.heap ∧ St k s'.heap ∧ s'.heap.PlainList D xs ∧ xs.toList.map abst = acc ∧ (∀ b ∈ wr, σ' b = none) ∧ σ' D = none ∧
    Post h0 (fun a => a = cenv.locals ∨ a ∈ wr ∨ a = D) σ2 s2 σ' s') ?_ (items.length + 1) ⟨0, [], σ2, #[], Nat.zero_le _, rfl, t1, t2, t3, t4, t5, rfl, t6, t7, .refl t2⟩
  rintro m s' ⟨k, acc, σ', xs, hk, rfl, hj, ok, F, st, hD, hxs, hw, hDn, P⟩ E
  obtain ⟨hg, hlen⟩ := hJ _ _ _ hj
  have hw' : ∀ b ∈ wr, σ' b = none ∧ ¬ ownOfEnv cenv b ∧ Bs h0 b := fun b hb => ⟨hw b hb, (hwr b hb).1, (hwr b hb).2⟩
  rcases Nat.lt_or_ge k items.length with hlt | hge
  · have hit : items[k]? = some items[k] := List.getElem?_eq_getElem hlt
    refine W.turn k s' σ' ρc _ (fun s1 => R (.ok .next) s1) _ E hit hg ok F hw' st fun s3 ok3 F3 st3 P3 => ?_
    · have hD3 : s3.heap.PlainList D xs := hD.at fun o e => P3.stays hDn (fun q => by rcases q with q | q; exact hDC (.inl q); exact hDw q) e
      refine wpAny_mono (hstep k acc σ' _ s3 E hj hit ok3 F3) (fun b s4 h4 => ?_) fun _ _ e => e
      cases b with
      | false =>
        simp only [Bool.false_eq_true, if_false] at h4 ⊢
        obtain ⟨σ4, j4, P4⟩ := h4
        refine ⟨items.length + 1 - (k + 1), by omega, k + 1, acc, σ4, xs, hlt, rfl, j4, ok3.post0 P4, ((F3.post P4).weaken (setTg_over htg)), ?_, ?_, hxs, fun b hb => P4.unk (hw b hb) (here _ _ st3 b hb), P4.unk hDn (by obtain ⟨n, e⟩ := hD3; exact ⟨_, e⟩), ?_⟩
        · exact frame _ _ _ (fun b hb o e => P4.stays (hw b hb) id e) st3
        · exact hD3.at fun o e => P4.stays hDn id e
        · exact P.trans ((P3.widen fun a q => by rcases q with q | q; exact .inl q; exact .inr (.inl q)).trans P4.wide)
      | true =>
        simp only [if_true] at h4 ⊢
        refine wpAny_mono h4 (fun x s5 h5 => ?_) fun _ _ e => e
        obtain ⟨σ4, j4, P4⟩ := h5
        have hD4 : s5.heap.PlainList D xs := hD3.at fun o e => P4.stays hDn id e
        have hD4n : σ4 D = none := P4.unk hDn (by obtain ⟨n, e⟩ := hD3; exact ⟨_, e⟩)
        have ok4 := ok3.post0 P4
        have hxl : xs.size = acc.length := by rw [← hxs]; simp
        have hz' : items.length ≤ 16777216 := hz
        refine wpAny_list_append_plain hD4 (fun h6 hD6 hs6 => ?_) (by rw [sizeLine_eq]; omega)
        have P6 : Post h0 (fun a => a = cenv.locals ∨ a ∈ wr ∨ a = D) σ4 s5 σ4 { s5 with heap := h6 } := .own (tk := s5.toks) ok4 hD4n (.inr (.inr rfl)) hs6 (by obtain ⟨n, e⟩ := hD6; exact ⟨_, e⟩)
        refine ⟨items.length + 1 - (k + 1), by omega, k + 1, acc ++ [abst x], σ4, xs.push x, hlt, rfl, j4, ok4.post P6 ?_, ?_, ?_, hD6, by rw [Array.toList_push, List.map_append, hxs]; rfl, ?_, hD4n, ?_⟩
        · intro a ha
          rcases ha with rfl | ha | rfl
          · exact eo.loc
          · exact (hwr a ha).2
          · exact hDb
        · refine ((F3.post P4).weaken (setTg_over htg)).mono fun a ha o e => (hs6.2 a fun q => hDC (q ▸ ha)).trans e
        · exact frame _ _ _ (fun b hb o e => (hs6.2 b fun q => hDw (q ▸ hb)).trans (P4.stays (hw b hb) id e)) st3
        · exact fun b hb => P4.unk (hw b hb) (here _ _ st3 b hb)
        · exact P.trans (((P3.widen fun a q => by rcases q with q | q; exact .inl q; exact .inr (.inl q)).trans P4.wide).trans P6)
  · have hke : k = items.length := Nat.le_antisymm hk hge
    subst hke
    refine W.done s' σ' ρc (fun s3 => R (.ok .next) s3) _ E hg ok F hw' st fun s3 ok3 F3 hlv hkeep ho hgn => ?_
    exact hfin acc σ' s' s3 xs hj ok3 (hD.at fun o e => hkeep D o hDw e) hxs hlen hDn F3 P hkeep ho hgn

theorem Post.ended {own own' : Addr → Prop} {wr : List Addr} {σ σ2 σ' : AHeap} {s s2 s1 s' : Shared} (P0 : Post h0 nobody σ s σ2 s2) (P1 : Post h0 own σ2 s2 σ' s1) (ok : Ok h0 σ' s') (hkeep : ∀ b o, b ∉ wr → s1.heap.get? b = some o → s'.heap.get? b = some o) (ho : s'.os = s1.os) (hg : s'.gens = s1.gens)
    (hw : ∀ b ∈ wr, s.heap.get? b = none) (hown : ∀ a, own a → own' a ∨ s.heap.get? a = none) : Post h0 own' σ s σ' s' := by
  have P : Post h0 own σ s σ' s1 := P0.wide.trans P1
  have nw : ∀ a o, s.heap.get? a = some o → a ∉ wr := fun a o e q => by rw [hw a q] at e; cases e
  refine ⟨ok.sat, fun a o e h1 h2 => hkeep a o (nw a o e) (P.keep a o e h1 fun q => ?_), fun a o e => ?_, P.dom, ho.trans P.os, hg.trans P.gens⟩
  · rcases hown a q with q | q
    · exact h2 q
    · rw [q] at e; cases e
  · obtain ⟨o', e'⟩ := P.live a o e
    exact ⟨o', hkeep a o' (nw a o e) e'⟩

theorem capt_own {kd : Str → Option NameKind} {nm : List Str} {sc : Scope} {cn : List Str} {cap : List (Option Nat)} {ρ : Loc} {i : Nat} (ck : CapOk kd nm sc cn cap) (hi : i < cn.length) (h : relabK kd sc (nmAt cn i) = some .local) : (Mine.capt cap ρ).getD i none = none := by
  unfold Mine.capt
  rw [List.getD_eq_getElem?_getD, List.getElem?_map]
  cases hc : cap[i]? with
  | none => rfl
  | some o =>
    cases o with
    | none => rfl
    | some j =>
      obtain ⟨_, _, m1, m2⟩ := ck.capt i _ j (nmAt_get hi) hc
      have := lookup_map_relab (kd := kd) m2
      unfold relabK at h
      have e2' : some (if (NameKind.free == .free && kd (nmAt cn i) == some .cell) = true then NameKind.cell else .free) = some .local := this.symm.trans h
      split at e2' <;> cases e2'

theorem folded_src {nm : List Str} {env : Env} (src : Src) (x : Value) : foldedSetIterable (trSrc nm src) env x = pure x := by
  cases src with
  | lst e => cases e <;> rfl
  | _ => rfl

structure CompFin (h0 : Heap) (σ : AHeap) (s : Shared) (acc : List V) (D C : Addr) (σ' : AHeap) (s3 : Shared) : Prop where
  post : Post h0 nobody σ s σ' s3
  list : ∃ xs, s3.heap.PlainList D xs ∧ xs.toList.map abst = acc
  len : acc.length ≤ LIM
  dn : σ' D = none
  df : s.heap.get? D = none
  cf : s.heap.get? C = none
  ns : ∃ m, s3.heap.Ns C m
  cn : σ' C = none
  cd : C ≠ D

theorem comp_core {env : Env} {nm : List Str} {ρ : Loc} {σ : AHeap} {s : Shared} {A : Around} {E : Value → Shared → Prop} {elt : Expr} {ifs : List Expr} {tg : Tg} {src : Src} {sc : Scope} {cn : List Str} {cap : List (Option Nat)} {p pos' : Pos} {use : Option (Value → Sem Unit)} {Ψ : Value → Shared → Prop} {Q : V → AHeap → Prop}
    {STEP : List (List V) → (Nat → List V → AHeap → Prop) → Prop}
    (hsrc : SndSrc prog w K h0 n src) (oks : okSrc env.kindOf nm src = true) (htk : tgKind tg src = true) (okc : okCap env.kindOf nm sc cn cap = true) (okt : okTg (relabK env.kindOf sc) cn tg = true)
    (eo : EnvOk h0 env) (R : Room A n) (k : Ok h0 σ s) (F : Fm env nm ρ σ s.heap)
    {Q0 : List (List V) → (AHeap → Prop) → AHeap → Prop} (h : wpSrc (Bs h0) (SemCall prog w K h0 n) src ρ σ Q0)
    (hQ : ∀ items g σ, Q0 items g σ → items.length ≤ LIM ∧ ∃ J : Nat → List V → AHeap → Prop, J 0 [] σ ∧ (∀ k acc σ, J k acc σ → g σ ∧ acc.length ≤ k) ∧ STEP items J ∧ (∀ acc σ, J items.length acc σ → allocW (Bs h0) (.list acc) σ Q))
    (hstep : ∀ (cenv : Env) items J, cenv.kindOf = relabK env.kindOf sc → EnvOk h0 cenv → STEP items J → ∀ k acc σ it (s : Shared) (E : Value → Shared → Prop), J k acc σ → items[k]? = some it → Ok h0 σ s → Fm cenv cn (setTg tg it (Mine.capt cap ρ)) σ s.heap →
      wpAny (model prog w) A (forIn ifs true fun c r => if r = true then do let ok ← isTrue c cenv (eval c cenv); pure (ForInStep.yield ok) else pure (ForInStep.yield r))
        (fun ok s3 => if ok = true then wpAny (model prog w) A (eval elt cenv) (fun x s4 => ∃ σ4, J (k + 1) (acc ++ [abst x]) σ4 ∧ Post h0 nobody σ s σ4 s4) E s3 else ∃ σ3, J (k + 1) acc σ3 ∧ Post h0 nobody σ s σ3 s3) E s)
    (hend : ∀ acc σ' s3 D C, CompFin h0 σ s acc D C σ' s3 → allocW (Bs h0) (.list acc) σ' Q → compPost (model prog w) A E use Ψ (.ref D) C (.ok .next) s3) :
    wpAny (model prog w) A (comprehension (.ListComp elt [⟨trTg cn tg, trSrc nm src, ifs, 0⟩] sc p) sc env pos' (newList []) false (eval (trSrc nm src) env) use) Ψ E s := by
  have ck := capOk_of okc
  obtain ⟨cl, hclos, hcl, hfr⟩ := closure_ok (env := env) (scope := sc) fun x hx => eo.lk x (ck.free x hx)
  refine wpAny_comprehension_free rfl (folded_src src) hclos ck.fn ck.loc (wpAny_mono (hsrc (E := E) oks eo R k F h) (fun x s1 h1 => wpAny_mono h1 (fun it s2 h2 => ?_) fun _ _ e => e) fun _ _ e => e)
  obtain ⟨I, wr, items, g, St, σ2, r⟩ := h2
  obtain ⟨hlim, J, j0, jg, jstep, jfin⟩ := hQ _ _ _ r.q
  rw [r.it]
  have ok2 := k.post0 r.post
  refine wpAny_newList ?_ (Nat.zero_le _)
  refine wpAny_newFunctionEnv (fun y hy => ck.noCell y hy) (fun x hx => nomatch hx) (fun h4 hns hsb => ?_) ck.fn
  have hD : s2.heap.get? s2.heap.objs.size = none := get?_size _
  have hC3 := get?_size (s2.heap.push { cls := .type "list", data := .seq #[] })
  have kp : ∀ b o, s2.heap.get? b = some o → h4.get? b = some o := fun b o e => by
    have e1 := Heap.get?_push_of_some ({ cls := .type "list", data := .seq #[] } : Obj) e
    have e2 := Heap.get?_push_of_some ({ cls := .type "dict", data := .dict #[] } : Obj) e1
    exact (hsb.2 b fun q => by rw [q, hC3] at e1; cases e1).trans e2
  have hDat : h4.PlainList s2.heap.objs.size #[] := by
    refine ⟨0, ?_⟩
    have e1 : (s2.heap.push { cls := .type "list", data := .seq #[] }).get? s2.heap.objs.size = some { cls := .type "list", data := .seq #[] } := Heap.get?_push_size _ rfl
    exact (hsb.2 _ fun q => by rw [← q, e1] at hC3; cases hC3).trans (Heap.get?_push_of_some ({ cls := .type "dict", data := .dict #[] } : Obj) e1)
  generalize hDe : s2.heap.objs.size = D at *
  generalize hCe : (s2.heap.push { cls := .type "list", data := .seq #[] }).objs.size = C at *
  have hC2 : s2.heap.get? C = none := by
    cases e : s2.heap.get? C with
    | none => rfl
    | some o => rw [Heap.get?_push_of_some _ e] at hC3; cases hC3
  have hCD : C ≠ D := fun q => by
    have e1 : (s2.heap.push { cls := .type "list", data := .seq #[] }).get? D = some { cls := .type "list", data := .seq #[] } := by rw [← hDe]; exact Heap.get?_push_size _ rfl
    rw [← q, hC3] at e1; cases e1
  have P2 : Post h0 nobody σ2 s2 σ2 { s2 with heap := h4, toks := s2.toks + 0 } := .junk ok2 kp
  have ok4 := ok2.post0 P2
  have F2 := F.post r.post
  have F4 := F2.post P2
  have own2 : ∀ a, ownOfEnv env a → ∃ o, s2.heap.get? a = some o := fun a ha => by
    rcases ha with rfl | ⟨x, hc⟩
    · obtain ⟨m, ⟨o, _, _, q, _⟩, _⟩ := F2.ns; exact ⟨o, q⟩
    · obtain ⟨v, o, q, _⟩ := F2.any x a hc; exact ⟨o, q⟩
  have own0 : ∀ a, ownOfEnv env a → ∃ o, s.heap.get? a = some o := fun a ha => by
    rcases ha with rfl | ⟨x, hc⟩
    · obtain ⟨m, ⟨o, _, _, q, _⟩, _⟩ := F.ns; exact ⟨o, q⟩
    · obtain ⟨v, o, q, _⟩ := F.any x a hc; exact ⟨o, q⟩
  obtain ⟨eoc, Fc⟩ := comp_env (C := C) (cl := cl) eo F4 ck hcl hfr (ok2.bs hC2) (fun a ha q => by obtain ⟨o, e⟩ := own2 a ha; rw [q, hC2] at e; cases e) (ok2.fresh hC2) hns
  have kd := comp_kind (sc := sc) (cl := cl) (C := C) eo.kind
  show codeAny _ _ (.compStart _ 0 (.ref I) (.ref D) (compEnvC sc cl C env)) (compPost _ _ _ _ _ (.ref D) C) _
  have st4 : St 0 h4 := r.frame _ _ _ (fun b hb o e => kp b o e) r.start
  have wr2 : ∀ b ∈ wr, ∃ o, s2.heap.get? b = some o := r.here _ _ r.start
  have wrD : D ∉ wr := fun q => by obtain ⟨o, e⟩ := wr2 D q; rw [hD] at e; cases e
  have clo : ∀ x c, (x, c) ∈ cl → ownOfEnv env c := fun x c m => .inr ⟨x, mem_of_lookup (hcl x c m)⟩
  have L : codeAny (model prog w) A (.compLoop (.ListComp elt [⟨trTg cn tg, trSrc nm src, ifs, 0⟩] sc p) 0 (.ref I) (.ref D) (compEnvC sc cl C env)) (compPost (model prog w) A E use Ψ (.ref D) C) { s2 with heap := h4, toks := s2.toks + 0 } := by
    refine comp_loop (r.iter (compEnvC sc cl C env) cn _ tg htk eoc (tg_ok eoc ck.nd (by rw [kd]; exact okt))) eoc hlim r.frame r.here (fun b hb => ⟨fun q => ?_, ?_⟩) (fun q => ?_) wrD (ok2.bs hD) ?_ jg (hstep _ items J kd eoc jstep) ?_ ⟨j0, ok4, Fc, st4, hDat, fun b hb => (r.fresh b hb).2, ok2.fresh hD⟩
    · rcases q with q | ⟨x, q⟩
      · obtain ⟨o, e⟩ := wr2 _ hb
        have q' : b = C := q
        rw [q', hC2] at e; cases e
      · obtain ⟨o, e⟩ := own0 b (clo x b q)
        rw [(r.fresh b hb).1] at e; cases e
    · exact k.bs (r.fresh b hb).1
    · rcases q with q | ⟨x, q⟩
      · exact hCD q.symm
      · obtain ⟨o, e⟩ := own2 D (clo x D q)
        rw [hD] at e; cases e
    · cases tg with
      | one i p =>
        simp only [okTg, Bool.and_eq_true, decide_eq_true_eq, beq_iff_eq] at okt
        exact capt_own ck okt.1 okt.2
      | two i pi j pj p =>
        simp only [okTg, Bool.and_eq_true, decide_eq_true_eq, beq_iff_eq] at okt
        exact ⟨capt_own ck okt.1.1.1 okt.1.1.2, capt_own ck okt.1.2 okt.2⟩
    · intro acc σ' s1 s' xs hj ok' hD' hxs hlen hDn Fc' P hkeep hos hgens
      have P0 : Post h0 nobody σ s σ2 { s2 with heap := h4, toks := s2.toks + 0 } := r.post.trans P2
      have Pf : Post h0 nobody σ s σ' s' := P0.ended P ok' hkeep hos hgens (fun b hb => (r.fresh b hb).1) fun a ha => .inr (by
        rcases ha with rfl | ha | rfl
        · exact r.post.fresh0 hC2
        · exact (r.fresh a ha).1
        · exact r.post.fresh0 hD)
      obtain ⟨m', hm', _⟩ := Fc'.ns
      exact hend acc σ' s' D C ⟨Pf, ⟨xs, hD', hxs⟩, Nat.le_trans hlen hlim, hDn, r.post.fresh0 hD, r.post.fresh0 hC2, ⟨m', hm'⟩, Fc'.off _ (.inl rfl), hCD⟩ (jfin acc σ' hj)
  exact codeAny_compStart_list L (r.self 0 _ _ _ st4 L)

theorem CompFin.val {σ σ' : AHeap} {s s3 : Shared} {acc : List V} {D C : Addr} {Q : V → AHeap → Prop} {A : Around} {E : Value → Shared → Prop} (k : Ok h0 σ s) (f : CompFin h0 σ s acc D C σ' s3) (h : allocW (Bs h0) (.list acc) σ' Q) :
    compPost (model prog w) A E none (Rs h0 Q σ s) (.ref D) C (.ok .next) s3 := by
  obtain ⟨xs, hD, hxs⟩ := f.list
  obtain ⟨m, hm⟩ := f.ns
  refine ⟨m, hm, fun h' hs => ⟨σ'.put D (.list acc), h D _ (k.bs f.df) f.dn (ext_put f.dn) (AHeap.put_self ..), ?_⟩⟩
  have hD' : h'.PlainList D xs := hD.at fun o e => (hs.2 D (Ne.symm f.cd)).trans e
  refine ⟨fun a x e => ?_, fun a o e h1 h2 => ?_, fun a o e => ?_, fun a ha => ?_, f.post.os, f.post.gens⟩
  · by_cases q : a = D
    · subst q; rw [AHeap.put_self] at e; cases e; exact ⟨xs, hD', hxs, f.len⟩
    · rw [AHeap.put_ne _ _ q] at e
      exact (f.post.sat a x e).at' fun _ e' => (hs.2 a fun z => by subst z; rw [f.cn] at e; cases e).trans e'
  · exact (hs.2 a fun z => by subst z; rw [f.cf] at e; cases e).trans (f.post.keep a o e h1 h2)
  · obtain ⟨o', e'⟩ := f.post.live a o e
    exact ⟨o', (hs.2 a fun z => by subst z; rw [f.cf] at e; cases e).trans e'⟩
  · by_cases q : a = D
    · subst q; exact .inr f.df
    · rw [AHeap.put_ne _ _ q] at ha
      exact f.post.dom a ha
end
end Mine
end
section
set_option maxRecDepth 100000
namespace Mine
open PySem PySem.W PyProof.Rows PySem.Calls

section
variable {h0 : Heap} {prog : Program} {w : World} {K : Frag} {mg mb : Str → Option Value} (G : Gd K h0 mg mb) {n : Nat}

abbrev STEPc (prog : Program) (w : World) (K : Frag) (h0 : Heap) (n : Nat) (el : Ex) (tg : Tg) (ρc : Loc) (items : List (List V)) (J : Nat → List V → AHeap → Prop) : Prop :=
  ∃ I : List V → AHeap → Prop, J = (fun k acc σ => k = acc.length ∧ I acc σ) ∧ ∀ acc σ it, I acc σ → items[acc.length]? = some it → wpE (Bs h0) (SemCall prog w K h0 n) el (setTg tg it ρc) σ fun v σ' => I (acc ++ [v]) σ'
abbrev STEPi (prog : Program) (w : World) (K : Frag) (h0 : Heap) (n : Nat) (el : Ex) (c : Tst) (tg : Tg) (ρc : Loc) (items : List (List V)) (J : Nat → List V → AHeap → Prop) : Prop :=
  ∀ k acc σ it, J k acc σ → items[k]? = some it → wpT (Bs h0) (SemCall prog w K h0 n) c (setTg tg it ρc) σ fun t σ =>
        (t = true → wpE (Bs h0) (SemCall prog w K h0 n) el (setTg tg it ρc) σ fun v σ' => J (k + 1) (acc ++ [v]) σ') ∧ (t = false → J (k + 1) acc σ)

theorem comp_any {env : Env} {nm : List Str} {ρ : Loc} {σ : AHeap} {s : Shared} {A : Around} {E : Value → Shared → Prop} {el : Ex} {tg : Tg} {src : Src} {sc : Scope} {cn : List Str} {cap : List (Option Nat)} {p pos' : Pos} {use : Option (Value → Sem Unit)} {Ψ : Value → Shared → Prop} {Q : V → AHeap → Prop}
    (hsrc : SndSrc prog w K h0 n src) (hel : SndE prog w K h0 n el) (ok : okE env.kindOf nm (.comp el tg src sc cn cap p) = true)
    (eo : EnvOk h0 env) (R : Room A n) (k : Ok h0 σ s) (F : Fm env nm ρ σ s.heap)
    (h : wpE (Bs h0) (SemCall prog w K h0 n) (.comp el tg src sc cn cap p) ρ σ Q)
    (hend : ∀ acc σ' s3 D C, CompFin h0 σ s acc D C σ' s3 → allocW (Bs h0) (.list acc) σ' Q → compPost (model prog w) A E use Ψ (.ref D) C (.ok .next) s3) :
    wpAny (model prog w) A (comprehension (.ListComp (trE cn el) [⟨trTg cn tg, trSrc nm src, [], 0⟩] sc p) sc env pos' (newList []) false (eval (trSrc nm src) env) use) Ψ E s := by
  simp only [okE, Bool.and_eq_true] at ok
  obtain ⟨⟨⟨⟨o1, o2⟩, o3⟩, o4⟩, o5⟩ := ok
  refine comp_core (STEP := STEPc prog w K h0 n el tg (Mine.capt cap ρ)) hsrc o2 o1 o3 o4 eo R k F h (fun items g σ q => ?_) (fun cenv items J kd eoc st k acc σ it s E hj hit ok' Fc => ?_) hend
  · obtain ⟨hl, I, i0, ig, istep, ifin⟩ := q
    exact ⟨hl, fun k acc σ => k = acc.length ∧ I acc σ, ⟨rfl, i0⟩, fun k acc σ hj => ⟨ig _ _ hj.2, Nat.le_of_eq hj.1.symm⟩, ⟨I, rfl, istep⟩, fun acc σ hj => ifin acc σ hj.2 hj.1.symm⟩
  · obtain ⟨I, rfl, istep⟩ := st
    obtain ⟨rfl, hi⟩ := hj
    refine wpAny_pure ?_
    rw [if_pos rfl]
    refine wpAny_mono (hel (E := E) (by rw [kd]; exact o5) eoc R ok' Fc (istep acc σ it hi hit)) (fun x s4 ⟨σ4, q, pp⟩ => ⟨σ4, ⟨by simp, q⟩, pp⟩) fun _ _ e => e

theorem compIf_any {env : Env} {nm : List Str} {ρ : Loc} {σ : AHeap} {s : Shared} {A : Around} {E : Value → Shared → Prop} {el : Ex} {tg : Tg} {src : Src} {c : Tst} {sc : Scope} {cn : List Str} {cap : List (Option Nat)} {p pos' : Pos} {use : Option (Value → Sem Unit)} {Ψ : Value → Shared → Prop} {Q : V → AHeap → Prop}
    (hsrc : SndSrc prog w K h0 n src) (hel : SndE prog w K h0 n el) (hc : SndT prog w K h0 n c) (ok : okE env.kindOf nm (.compIf el tg src c sc cn cap p) = true)
    (eo : EnvOk h0 env) (R : Room A n) (k : Ok h0 σ s) (F : Fm env nm ρ σ s.heap)
    (h : wpE (Bs h0) (SemCall prog w K h0 n) (.compIf el tg src c sc cn cap p) ρ σ Q)
    (hend : ∀ acc σ' s3 D C, CompFin h0 σ s acc D C σ' s3 → allocW (Bs h0) (.list acc) σ' Q → compPost (model prog w) A E use Ψ (.ref D) C (.ok .next) s3) :
    wpAny (model prog w) A (comprehension (.ListComp (trE cn el) [⟨trTg cn tg, trSrc nm src, [trT cn c], 0⟩] sc p) sc env pos' (newList []) false (eval (trSrc nm src) env) use) Ψ E s := by
  simp only [okE, Bool.and_eq_true] at ok
  obtain ⟨⟨⟨⟨⟨o1, o2⟩, o3⟩, o4⟩, o6⟩, o5⟩ := ok
  refine comp_core (STEP := STEPi prog w K h0 n el c tg (Mine.capt cap ρ)) hsrc o2 o1 o3 o4 eo R k F h (fun items g σ q => ?_) (fun cenv items J kd eoc st k acc σ it s E hj hit ok' Fc => ?_) hend
  · obtain ⟨hl, I, i0, ig, istep, ifin⟩ := q
    exact ⟨hl, I, i0, ig, istep, ifin⟩
  · rw [List.forIn_cons]
    simp only [if_true]
    refine wpAny_bind (wpAny_bind (wpAny_mono (hc (E := E) (by rw [kd]; exact o6) eoc R ok' Fc (st k acc σ it hj hit)) (fun t s1 ⟨σ1, h1, p1⟩ => ?_) fun _ _ e => e))
    refine wpAny_pure (wpAny_pure ?_)
    cases t with
    | true =>
      rw [if_pos rfl]
      refine wpAny_mono (hel (E := E) (by rw [kd]; exact o5) eoc R (ok'.post0 p1) (Fc.post p1) (h1.1 rfl)) (fun x s4 ⟨σ4, q, pp⟩ => ⟨σ4, q, p1.trans pp⟩) fun _ _ e => e
    | false =>
      rw [if_neg (by decide)]
      exact ⟨σ1, h1.2 rfl, p1⟩

theorem snd_comp {el : Ex} {tg : Tg} {src : Src} {sc : Scope} {cn : List Str} {cap : List (Option Nat)} {p : Pos} (hsrc : SndSrc prog w K h0 n src) (hel : SndE prog w K h0 n el) : SndE prog w K h0 n (.comp el tg src sc cn cap p) := by
  intro env nm ρ σ Q s A E ok eo R k F h
  exact comp_any hsrc hel ok eo R k F h fun acc σ' s3 D C f a => f.val k a
theorem snd_compIf {el : Ex} {tg : Tg} {src : Src} {c : Tst} {sc : Scope} {cn : List Str} {cap : List (Option Nat)} {p : Pos} (hsrc : SndSrc prog w K h0 n src) (hel : SndE prog w K h0 n el) (hc : SndT prog w K h0 n c) : SndE prog w K h0 n (.compIf el tg src c sc cn cap p) := by
  intro env nm ρ σ Q s A E ok eo R k F h
  exact compIf_any hsrc hel hc ok eo R k F h fun acc σ' s3 D C f a => f.val k a

include G in
mutual
theorem sndE : ∀ e : Ex, SndE prog w K h0 n e
  | .loc i p => snd_loc i p
  | .glo x v p => snd_glo G x v p
  | .num i p => snd_num i p
  | .boo b p => snd_boo b p
  | .bin o l r p => snd_bin o (sndE l) (sndE r) p
  | .neg e p => snd_neg (sndE e) p
  | .not e p => snd_not (sndE e) p
  | .conj l r p => snd_conj (sndE l) (sndE r) p
  | .cmp o l r p => snd_cmp o (sndE l) (sndE r) p
  | .ite c a b p => snd_ite (sndT c) (sndE a) (sndE b) p
  | .attr e k p => snd_attr G (sndE e) k p
  | .idx e i p => snd_idx (sndE e) (sndE i) p
  | .slAll e q p => snd_slAll (sndE e) q p
  | .slTo e u q p => snd_slTo (sndE e) (sndE u) q p
  | .slFrom e l q p => snd_slFrom (sndE e) (sndE l) q p
  | .slBoth e l u q p => snd_slBoth (sndE e) (sndE l) (sndE u) q p
  | .tup es p => snd_tup (sndEs es) p
  | .lst es p => snd_lst (sndEs es) p
  | .call f as p => snd_call G (sndE f) (sndEs as) p
  | .meth e x f as q p => snd_meth G (sndE e) (sndEs as) x f q p
  | .app e a q p => snd_app (sndE e) (sndE a) q p
  | .bitl e q p => snd_bitl (sndE e) q p
  | .bif b as q p => snd_bif G (sndEs as) b q p
  | .comp el tg s sc cn cap p => snd_comp (sndSrc s) (sndE el)
  | .compIf el tg s c sc cn cap p => snd_compIf (sndSrc s) (sndE el) (sndT c)
theorem sndEs : ∀ es : Exs, SndEs prog w K h0 n es
  | .nil => snds_nil
  | .cons e r => snds_cons (sndE e) (sndEs r)
theorem sndT : ∀ c : Tst, SndT prog w K h0 n c
  | .cmp o l r p => sndT_cmp o (sndE l) (sndE r) p
  | .conj l r p => sndT_conj (sndT l) (sndT r) p
  | .disj l r p => sndT_disj (sndT l) (sndT r) p
  | .not c p => sndT_not (sndT c) p
  | .val e => sndT_val (sndE e)
theorem sndSrc : ∀ s : Src, SndSrc prog w K h0 n s
  | .range1 e q p => snd_range1 G (sndE e) q p
  | .range2 a b q p => snd_range2 G (sndE a) (sndE b) q p
  | .range3 a b c q p => snd_range3 G (sndE a) (sndE b) (sndE c) q p
  | .lst e => snd_srcLst (sndE e)
  | .enum e q p => snd_enum G (sndE e) q p
  | .zip a b q p => snd_zip G (sndE a) (sndE b) q p
end
end
end Mine
end
section
set_option maxRecDepth 100000
namespace Mine
open PySem PySem.W PyProof.Rows PySem.Calls

section
variable {h0 : Heap} {prog : Program} {w : World} {K : Frag} {mg mb : Str → Option Value} (G : Gd K h0 mg mb) {n : Nat}

theorem put_new {es : List DictEntry} {vs : List V} {h : Int} {t : Tok} {v : Value} {m : Nat} (f : FieldsAre es vs) (h8 : vs.length < 8) :
    Obj.putName (nmAt fieldNames vs.length) h (.str (nmAt fieldNames vs.length) t) v (dictOf es m) = dictOf (es ++ [⟨h, .str (nmAt fieldNames vs.length) t, v⟩]) (m + 1) := by
  have hn : es.toArray.findIdx? (·.key.isStr (nmAt fieldNames vs.length)) = none := by
    rw [List.findIdx?_toArray, List.findIdx?_eq_none_iff]
    intro e he
    obtain ⟨i, hi, rfl⟩ := List.getElem_of_mem he
    obtain ⟨⟨t', ek⟩, _⟩ := f.2 i _ (List.getElem?_eq_getElem hi)
    have := f.1
    rw [ek, isStr_name (by omega) h8]; simp; omega
  have := congrFun (congrFun (congrFun (congrFun (congrFun Obj.putName_eq (nmAt fieldNames vs.length)) h) (.str (nmAt fieldNames vs.length) t)) v) (dictOf es m)
  rw [this]
  simp only [Obj.putNameByArray, hn]
  simp

theorem put_old {es : List DictEntry} {vs : List V} {k : Nat} {h : Int} {key v : Value} {m : Nat} (f : FieldsAre es vs) (h8 : vs.length ≤ 8) (hk : k < vs.length) :
    ∃ es', Obj.putName (nmAt fieldNames k) h key v (dictOf es m) = dictOf es' m ∧ FieldsAre es' (vs.set k (abst v)) := by
  have hk' : k < es.length := by rw [f.1]; exact hk
  have hn : es.toArray.findIdx? (·.key.isStr (nmAt fieldNames k)) = some k := by
    rw [List.findIdx?_toArray, List.findIdx?_eq_some_iff_getElem]
    refine ⟨hk', ?_, fun j hj => ?_⟩
    · obtain ⟨⟨t', ek⟩, _⟩ := f.2 k _ (List.getElem?_eq_getElem hk')
      rw [ek, isStr_name (by omega) (by omega)]; simp
    · obtain ⟨⟨t', ek⟩, _⟩ := f.2 j _ (List.getElem?_eq_getElem (Nat.lt_trans hj hk'))
      rw [ek, isStr_name (by omega) (by omega)]; simp; omega
  have := congrFun (congrFun (congrFun (congrFun (congrFun Obj.putName_eq (nmAt fieldNames k)) h) key) v) (dictOf es m)
  rw [this]
  simp only [Obj.putNameByArray, hn]
  refine ⟨es.modify k fun e => { e with val := v }, by simp, by simp [f.1], fun i e he => ?_⟩
  rw [List.getElem?_modify] at he
  obtain ⟨e0, h1, rfl⟩ := Option.map_eq_some_iff.mp he
  obtain ⟨⟨t', ek⟩, ev⟩ := f.2 i e0 h1
  by_cases q : k = i
  · subst q
    simp only [if_true]
    exact ⟨⟨t', ek⟩, by rw [List.getElem?_set_self hk]⟩
  · rw [if_neg q]
    exact ⟨⟨t', ek⟩, by rw [List.getElem?_set_ne q]; exact ev⟩

include G in
theorem setAttr_sound {a v : Value} {kx : Nat} {σ : AHeap} {s : Shared} {Q : AHeap → Prop} {A : Around} {E : Value → Shared → Prop} (k : Ok h0 σ s) (hk : kx < 8) (h : storeAttrW (Bs h0) (abst a) (abst v) kx σ Q) :
    wpAny (model prog w) A (setAttr a (nmAt fieldNames kx) v) (fun _ s' => ∃ σ', Q σ' ∧ Post h0 nobody σ s σ' s') E s := by
  unfold storeAttrW at h
  split at h
  · rename_i x e
    rw [abst_ref e]
    obtain ⟨dx, vs, ⟨hb, hx, hd, hl⟩, h⟩ := h
    obtain ⟨es, m, f, h8, gd, gx, I⟩ := inst_at k hx hd
    have X := G.X.keeps k.base
    have tk0 : takerIn K LAT (nmAt fieldNames kx) = some none := by unfold takerIn; rw [G.kf.fld kx hk]; rfl
    obtain ⟨cd, hc, hd'⟩ := any_some G.kf.hd
    refine set_plain X I G.kf.setA ?_
    refine osa_open (s := { s with toks := s.toks + 1 }) X I G.kf.over tk0 fun b => ?_
    refine wpAny_bind (wpAny_pure (wpAny_bind (wpAny_bind (wpAny_loadPart (o := instObj LAT dx) gx (wpAny_bind (Looks.here (s := { s with toks := s.toks + 1 }) (looks_clsIn X hc) ?_))))))
    rw [hd']
    refine wpAny_pure (a := some dx) (wpAny_bind (wpAny_pure (wpAny_bind ?_)))
    unfold nsSet
    refine wpAny_bind (wpAny_bind (wpAny_askSetting (wpAny_pure (wpAny_bind (wpAny_mkText (wpAny_bind (wpAny_loadPart (o := dictOf es m) gd ?_)))))))
    dsimp only
    have c : aRefKeyMayBeTheName (nmAt fieldNames kx) es.toArray = false := by
      rw [aRefKeyMayBeTheName_at]
      have : es.toArray.any (·.refKey) = false := by
        rw [List.any_toArray, List.any_eq_false]
        intro en he
        obtain ⟨i, hi, rfl⟩ := List.getElem_of_mem he
        obtain ⟨⟨t', ek⟩, _⟩ := f.2 i _ (List.getElem?_eq_getElem hi)
        unfold DictEntry.refKey; rw [ek]; simp
      rw [this, Bool.and_false]
    rw [c]
    refine wpAny_updatePart (o := dictOf es m) gd ?_
    have fin : ∀ (es' : List DictEntry) (m' : Nat) (vs' : List V) (fo : Obj → Obj) (tk : Nat), fo (dictOf es m) = dictOf es' m' → FieldsAre es' vs' → vs'.length ≤ 8 → vs' = (if kx < vs.length then vs.set kx (abst v) else vs ++ [abst v]) →
        (∃ σ', Q σ' ∧ Post h0 nobody σ s σ' { s with heap := s.heap.update dx fo, toks := tk }) ∧ (s.heap.update dx fo).get? dx = some (dictOf es' m') := fun es' m' vs' fo tk ef fa hl' ev => by
      have e1 : (s.heap.update dx fo).get? dx = some (dictOf es' m') := by
        rw [Heap.get?_update_self _ gd (by rw [ef]; rfl), ef]
      refine ⟨⟨σ.put dx (.dict vs'), h _ extBut_put (by rw [AHeap.put_self, ev]), .upd k hd hb (Heap.SameBut.update ..) ⟨es', m', e1, fa, hl'⟩⟩, e1⟩
    have pl : ∀ es' : List DictEntry, es'.length ≤ 8 → (dictOf es' 0).data.pastItsLine = none := fun es' hl => pastItsLine_dict (by rw [List.size_toArray, sizeLine_eq]; omega)
    by_cases q : kx < vs.length
    · obtain ⟨es', pe, fa⟩ := put_old (h := PyData.keyHash w.params (nmAt fieldNames kx)) (key := .str (nmAt fieldNames kx) (s.toks + 1)) (v := v) (m := m) f h8 q
      obtain ⟨⟨σ', hq, p⟩, e1⟩ := fin es' m _ _ (s.toks + 1 + 1) pe fa (by rw [List.length_set]; exact h8) (by rw [if_pos q])
      have l8 : es'.length ≤ 8 := by rw [fa.1, List.length_set]; exact h8
      refine wpAny_bind (wpAny_lookBehind e1 (pastItsLine_dict (by rw [List.size_toArray, sizeLine_eq]; omega)) ?_)
      exact wpAny_pure ⟨σ', hq, p⟩
    · have ek : kx = vs.length := by omega
      subst ek
      have pe := put_new (h := PyData.keyHash w.params (nmAt fieldNames vs.length)) (t := s.toks + 1) (v := v) (m := m) f (by omega)
      have fa : FieldsAre (es ++ [⟨PyData.keyHash w.params (nmAt fieldNames vs.length), .str (nmAt fieldNames vs.length) (s.toks + 1), v⟩]) (vs ++ [abst v]) := by
        refine ⟨by simp [f.1], fun i e he => ?_⟩
        rcases Nat.lt_or_ge i es.length with hi | hi
        · rw [List.getElem?_append_left hi] at he
          have hi' : i < vs.length := by rw [← f.1]; exact hi
          rw [List.getElem?_append_left hi']
          exact f.2 i e he
        · rw [List.getElem?_append_right hi] at he
          have : i - es.length = 0 := by
            rcases Nat.eq_zero_or_pos (i - es.length) with z | z
            · exact z
            · rw [List.getElem?_eq_none (by simp; omega)] at he; cases he
          rw [this] at he
          simp only [List.getElem?_cons_zero, Option.some.injEq] at he
          subst he
          have ei : i = vs.length := by rw [← f.1]; omega
          subst ei
          exact ⟨⟨_, rfl⟩, by rw [List.getElem?_append_right (Nat.le_refl _)]; simp⟩
      obtain ⟨⟨σ', hq, p⟩, e1⟩ := fin _ (m + 1) _ _ (s.toks + 1 + 1) pe fa (by rw [List.length_append, List.length_singleton]; omega) (by rw [if_neg q])
      refine wpAny_bind (wpAny_lookBehind e1 (pastItsLine_dict (by rw [List.size_toArray, sizeLine_eq, List.length_append, List.length_singleton, f.1]; omega)) ?_)
      exact wpAny_pure ⟨σ', hq, p⟩
  · exact h.elim
end
end Mine
end
section
set_option maxRecDepth 100000
namespace Mine
open PySem PySem.W PyProof.Rows PySem.Calls

def isCompE : Ex → Bool
  | .comp .. | .compIf .. => true
  | _ => false
def isTupE : Ex → Bool
  | .tup .. => true
  | _ => false
def okN (kd : Str → Option NameKind) (nm : List Str) (i : Nat) : Bool := decide (i < nm.length) && (kd (nmAt nm i) == some .local || kd (nmAt nm i) == some .cell)
def isLoc (kd : Str → Option NameKind) (nm : List Str) (i : Nat) : Bool := decide (i < nm.length) && kd (nmAt nm i) == some .local
def okA (kd : Str → Option NameKind) (nm : List Str) : At → Bool
  | .loc i _ => okN kd nm i
  | .attr e k _ => decide (k < 8) && okE kd nm e
  | .idx e i _ => okE kd nm e && okE kd nm i
  | .two i _ j _ _ => isLoc kd nm i && isLoc kd nm j
def okAs (kd : Str → Option NameKind) (nm : List Str) : List At → Bool
  | [] => true
  | t :: r => okA kd nm t && okAs kd nm r

def swNames (kd : Str → Option NameKind) (ts : List Expr) : List Str := ts.filterMap fun
    | .Name id pos => if kd id == some .local && pos.line == (ts.head?.map (·.pos.line)).getD 0 then some id else none
    | _ => none
def swTail (vs : List Expr) : Bool := !vs.all (foldedForSure 8) && !vs.all (constantsAlone 8)
def okSw (kd : Str → Option NameKind) (nm : List Str) (ts : List At) (es : List Expr) : Bool := match ts with
  | [.loc i p, .loc j q] => (swNames kd [.Name (nmAt nm i) p, .Name (nmAt nm j) q]).length != 2 || (isLoc kd nm i && isLoc kd nm j && p.line == q.line && nmAt nm i != nmAt nm j && swTail es)
  | [.loc i p, .loc j q, .loc k r] => (swNames kd [.Name (nmAt nm i) p, .Name (nmAt nm j) q, .Name (nmAt nm k) r]).length != 3 ||
      (isLoc kd nm i && isLoc kd nm j && isLoc kd nm k && p.line == q.line && p.line == r.line && nmAt nm i != nmAt nm j && nmAt nm i != nmAt nm k && nmAt nm j != nmAt nm k && swTail es)
  | ts => (swNames kd (ts.map (trA nm))).length != ts.length

def augOp : Operator → Bool
  | .Add | .Sub | .RShift | .Mod | .BitOr => true
  | _ => false
def okTg2 (kd : Str → Option NameKind) (nm : List Str) : Tg → Bool
  | .one i _ => okN kd nm i
  | .two i _ j _ _ => okN kd nm i && okN kd nm j
def usedComp (kd : Str → Option NameKind) (nm : List Str) (t : At) (sc : Scope) (vp : Pos) : Bool := match t with
  | .loc i ip => isLoc kd nm i && ip.line == vp.line && !(sc.names.any fun (n, k) => n == nmAt nm i && (k == .local || k == .cell))
  | _ => true
mutual
def okS (kd : Str → Option NameKind) (nm : List Str) : St → Bool
  | .asg t e _ => okE kd nm e && okA kd nm t && (match t with | .two .. => false | _ => true) && (match e with
      | .comp _ _ _ sc _ _ vp => usedComp kd nm t sc vp
      | .compIf _ _ _ _ sc _ _ vp => usedComp kd nm t sc vp
      | _ => true)
  | .asgs ts es _ _ _ => okAs kd nm ts && okEs kd nm es && exsLen es == ts.length && decide (exsLen es < 20) && okSw kd nm ts (trEs nm es)
  | .unp ts e _ _ => okAs kd nm ts && okE kd nm e && !isTupE e && !isCompE e
  | .aug i _ o e _ => isLoc kd nm i && augOp o && okE kd nm e
  | .expr e _ => okE kd nm e && !isCompE e
  | .cond c a b _ => okT kd nm c && okSs kd nm a && okSs kd nm b
  | .whil c b _ => okT kd nm c && okSs kd nm b
  | .forr t s b _ => tgKind t s && okTg2 kd nm t && okSrc kd nm s && okSs kd nm b
  | .ret e _ => okE kd nm e
  | .ret0 _ => true
  | .dead _ => true
def okSs (kd : Str → Option NameKind) (nm : List Str) : Sts → Bool
  | .nil => true
  | .cons s r => okS kd nm s && okSs kd nm r
end

def Apart (env : Env) : Prop := ∀ x y c, env.cells.lookup x = some c → env.cells.lookup y = some c → x = y

section
variable {h0 : Heap} {prog : Program} {w : World} {K : Frag} {mg mb : Str → Option Value} (G : Gd K h0 mg mb) {n : Nat}

def Stq (h0 : Heap) (env : Env) (nm : List Str) (N : Loc → AHeap → Prop) (σ : AHeap) (s : Shared) : Unit → Shared → Prop := fun _ s' => ∃ ρ' σ', N ρ' σ' ∧ Fm env nm ρ' σ' s'.heap ∧ Post h0 (ownOfEnv env) σ s σ' s'
def Flq (h0 : Heap) (env : Env) (nm : List Str) (N : Loc → AHeap → Prop) (R : V → AHeap → Prop) (σ : AHeap) (s : Shared) : Flow → Shared → Prop := fun f s' => match f with
  | .next => ∃ ρ' σ', N ρ' σ' ∧ Fm env nm ρ' σ' s'.heap ∧ Post h0 (ownOfEnv env) σ s σ' s'
  | .ret v => ∃ σ', R (abst v) σ' ∧ Post h0 (ownOfEnv env) σ s σ' s'
  | _ => False

theorem store_any2 {env : Env} {nm : List Str} {ρ : Loc} {σ : AHeap} {s : Shared} {i : Nat} {v : Value} {M : Model} {A : Around} {E : Value → Shared → Prop} {Q : Unit → Shared → Prop} (eo : EnvOk h0 env) (ap : Apart env) (hnd : nodupS nm = true) (k : Ok h0 σ s) (F : Fm env nm ρ σ s.heap)
    (hi : okN env.kindOf nm i = true)
    (h : ∀ h' tk, Fm env nm (ρ.set i (some (abst v))) σ h' → Post h0 (ownOfEnv env) σ s σ { s with heap := h', toks := tk } → (∀ b o, ¬ ownOfEnv env b → s.heap.get? b = some o → h'.get? b = some o) → Q () { s with heap := h', toks := tk }) :
    wpAny M A (storeName env (nmAt nm i) v) Q E s := by
  simp only [okN, Bool.and_eq_true, Bool.or_eq_true, decide_eq_true_eq, beq_iff_eq] at hi
  obtain ⟨hi, hk | hk⟩ := hi
  · refine store_loc eo hnd F hi hk fun h' tk F' hs => h h' tk F' ?_ fun b o hb e => (hs.2 b fun q => hb (.inl q)).trans e
    exact .own k (F.off _ (.inl rfl)) (.inl rfl) hs (by obtain ⟨m, ⟨o', _, _, q, _⟩, _⟩ := F'.ns; exact ⟨o', q⟩)
  · obtain ⟨c, hc⟩ := eo.lk _ hk
    obtain ⟨v0, hv⟩ := F.any _ c (mem_of_lookup hc)
    refine wpAny_storeName_cell eo.kind hk hc hv fun h' hv' hs => ?_
    have hcm := mem_of_lookup hc
    refine h h' s.toks ⟨?_, fun j x u e1 e2 e3 => ?_, fun x d hd => ?_, F.off⟩ (.own k (F.off _ (.inr ⟨_, hcm⟩)) (.inr ⟨_, hcm⟩) hs (by obtain ⟨o, q, _⟩ := hv'; exact ⟨o, q⟩)) fun b o hb e => (hs.2 b fun q => hb (by rw [q]; exact .inr ⟨_, hcm⟩)).trans e
    · obtain ⟨m, hn, hm⟩ := F.ns
      refine ⟨m, hn.sameBut hs (eo.lc _ _ hcm), fun j x u e1 e2 e3 => ?_⟩
      have q : i ≠ j := fun q => by
        subst q; rw [nmAt_get hi] at e1; cases e1; rw [hk] at e2; cases e2
      rw [getD_set_ne q] at e3
      exact hm j x u e1 e2 e3
    · by_cases q : i = j
      · subst q
        have := getD_set_self e3; subst this
        have ex : x = nmAt nm i := by rw [nmAt_get hi] at e1; exact (Option.some.inj e1).symm
        subst ex
        exact ⟨c, v, hc, hv', rfl⟩
      · rw [getD_set_ne q] at e3
        obtain ⟨d, u', h1, h2, h3⟩ := F.cell j x u e1 e2 e3
        have nx : x ≠ nmAt nm i := nodup_ne hnd e1 (nmAt_get hi) (Ne.symm q)
        exact ⟨d, u', h1, h2.sameBut hs (fun z => nx (ap _ _ d h1 (by rw [← z] at hc; exact hc))), h3⟩
    · by_cases q : d = c
      · subst q; exact ⟨_, hv'⟩
      · obtain ⟨v', hv2⟩ := F.any x d hd
        exact ⟨v', hv2.sameBut hs q⟩

theorem store_any {env : Env} {nm : List Str} {ρ : Loc} {σ : AHeap} {s : Shared} {i : Nat} {v : Value} {M : Model} {A : Around} {E : Value → Shared → Prop} {Q : Unit → Shared → Prop} (eo : EnvOk h0 env) (ap : Apart env) (hnd : nodupS nm = true) (k : Ok h0 σ s) (F : Fm env nm ρ σ s.heap)
    (hi : okN env.kindOf nm i = true)
    (h : ∀ h' tk, Fm env nm (ρ.set i (some (abst v))) σ h' → Post h0 (ownOfEnv env) σ s σ { s with heap := h', toks := tk } → Q () { s with heap := h', toks := tk }) :
    wpAny M A (storeName env (nmAt nm i) v) Q E s := store_any2 eo ap hnd k F hi fun h' tk F' P _ => h h' tk F' P
theorem tg_any {env : Env} {nm : List Str} (eo : EnvOk h0 env) (ap : Apart env) (hnd : nodupS nm = true) {i : Nat} (hi : okN env.kindOf nm i = true) : TgStore h0 env nm (ownOfEnv env) i := by
  intro ρ σ s v M A E Q ok F h
  exact store_any2 eo ap hnd ok F hi fun h' tk F' P hk => h h' tk F' hk fun b o _ e => P.live b o e
theorem tg_ok2 {env : Env} {nm : List Str} (eo : EnvOk h0 env) (ap : Apart env) (hnd : nodupS nm = true) {t : Tg} (h : okTg2 env.kindOf nm t = true) : TgOk h0 env nm (ownOfEnv env) t := by
  refine ⟨fun a ha => ha, ?_⟩
  cases t with
  | one i p => exact tg_any eo ap hnd h
  | two i pi j pj p =>
    simp only [okTg2, Bool.and_eq_true] at h
    exact ⟨tg_any eo ap hnd h.1, tg_any eo ap hnd h.2⟩

theorem okN_of {kd : Str → Option NameKind} {nm : List Str} {i : Nat} (h : isLoc kd nm i = true) : okN kd nm i = true := by
  unfold isLoc at h
  simp only [Bool.and_eq_true] at h
  unfold okN; rw [h.1, h.2]; rfl

theorem Stq.up {env : Env} {nm : List Str} {N : Loc → AHeap → Prop} {σ σ1 : AHeap} {s s1 s' : Shared} {u : Unit} (p : Post h0 (ownOfEnv env) σ s σ1 s1) (r : Stq h0 env nm N σ1 s1 u s') : Stq h0 env nm N σ s u s' := by
  obtain ⟨ρ', σ', h1, h2, h3⟩ := r; exact ⟨ρ', σ', h1, h2, p.trans h3⟩
theorem Flq.up {env : Env} {nm : List Str} {N : Loc → AHeap → Prop} {R : V → AHeap → Prop} {σ σ1 : AHeap} {s s1 s' : Shared} {f : Flow} (p : Post h0 (ownOfEnv env) σ s σ1 s1) (r : Flq h0 env nm N R σ1 s1 f s') : Flq h0 env nm N R σ s f s' := by
  cases f with
  | next => obtain ⟨ρ', σ', h1, h2, h3⟩ := r; exact ⟨ρ', σ', h1, h2, p.trans h3⟩
  | ret v => obtain ⟨σ', h1, h2⟩ := r; exact ⟨σ', h1, p.trans h2⟩
  | _ => exact r.elim

theorem each_len {nm : List Str} {env : Env} : ∀ ts : List At, (assignEach (ts.map (trA nm)) env).length = ts.length ∧ (assignEach (ts.map (trA nm)) env).findIdx? (·.1) = none ∧ (assignEach (ts.map (trA nm)) env).map (·.2) = ts.map fun t => assign (trA nm t) env
  | [] => ⟨rfl, rfl, rfl⟩
  | t :: r => by
    obtain ⟨h1, h2, h3⟩ := each_len (nm := nm) (env := env) r
    have e : assignEach ((t :: r).map (trA nm)) env = (false, assign (trA nm t) env) :: assignEach (r.map (trA nm)) env := by cases t <;> rfl
    rw [e]
    exact ⟨by simp [h1], by simp [List.findIdx?_cons, h2], by simp [h3]⟩

theorem tup_two {h : Heap} {x : Addr} {u v : V} (m : Mt h x (.tup [u, v])) : ∃ a b, h.IsTuple x #[a, b] ∧ abst a = u ∧ abst b = v := by
  obtain ⟨xs, n, g, e, _⟩ := m
  obtain ⟨l⟩ := xs
  dsimp only at e
  match l, e with
  | [a, b], e =>
    simp only [List.map_cons, List.map_nil, List.cons.injEq, and_true] at e
    exact ⟨a, b, ⟨_, g, rfl, n, rfl⟩, e.1, e.2⟩

include G in
theorem sound_A (t : At) {env : Env} {nm : List Str} {ρ : Loc} {σ : AHeap} {s : Shared} {A : Around} {E : Value → Shared → Prop} {v : Value} {N : Loc → AHeap → Prop} (ok : okA env.kindOf nm t = true) (hnd : nodupS nm = true) (eo : EnvOk h0 env) (ap : Apart env) (R : Room A n) (k : Ok h0 σ s) (F : Fm env nm ρ σ s.heap)
    (h : wpA (Bs h0) (SemCall prog w K h0 n) t (abst v) ρ σ N) : wpAny (model prog w) A (assign (trA nm t) env v) (Stq h0 env nm N σ s) E s := by
  cases t with
  | loc i p => exact wpAny_assign_Name (store_any eo ap hnd k F ok fun h' tk F' P => ⟨_, _, h, F', P⟩)
  | attr e kx p =>
    simp only [okA, Bool.and_eq_true, decide_eq_true_eq] at ok
    show wpAny _ _ (assign (.Attribute (trE nm e) (nmAt fieldNames kx) p) env v) _ _ _
    rw [arm_assign_Attribute]
    refine wpAny_bind (wpAny_holding (wpAny_mono (sndE G e ok.2 eo R k F h) (fun ov s1 ⟨σ1, h1, p1⟩ => ?_) fun _ _ e => e))
    refine wpAny_bind (wpAny_standAt (wpAny_bind (wpAny_holding (wpAny_mono (setAttr_sound G (k.post0 p1) ok.1 h1) (fun _ s2 ⟨σ2, h2, p2⟩ => ?_) fun _ _ e => e))))
    exact wpAny_release ⟨ρ, σ2, h2, (F.post p1).post p2, (p1.trans p2).wide⟩
  | idx e i p =>
    simp only [okA, Bool.and_eq_true] at ok
    show wpAny _ _ (assign (.Subscript (trE nm e) (trE nm i) p) env v) _ _ _
    rw [arm_assign_Subscript]
    refine wpAny_bind (wpAny_holding (wpAny_mono (sndE G e ok.1 eo R k F h) (fun ov s1 ⟨σ1, h1, p1⟩ => ?_) fun _ _ e => e))
    refine wpAny_bind (wpAny_holding (wpAny_mono (sndE G i ok.2 eo R (k.post0 p1) (F.post p1) h1) (fun iv s2 ⟨σ2, h2, p2⟩ => ?_) fun _ _ e => e))
    have p12 := p1.trans p2
    refine wpAny_bind (wpAny_standAt (wpAny_bind (wpAny_holding (wpAny_mono (setItem_sound (k.post0 p12) h2) (fun _ s3 ⟨σ3, h3, p3⟩ => ?_) fun _ _ e => e))))
    exact wpAny_release ⟨ρ, σ3, h3, (F.post p12).post p3, (p12.trans p3).wide⟩
  | two i pi j pj p =>
    simp only [okA, Bool.and_eq_true] at ok
    unfold wpA refW at h
    dsimp only at h
    split at h
    · rename_i x ex
      obtain ⟨u, u', hx, h⟩ := h
      rw [abst_ref ex]
      obtain ⟨a, b, ht, rfl, rfl⟩ := tup_two (k.sat _ _ hx)
      refine wpAny_assign_Tuple (elts := [.Name (nmAt nm i) pi, .Name (nmAt nm j) pj]) (items := #[a, b]) R.handled ht rfl rfl fun h2 hx => ?_
      have P2 : Post h0 (ownOfEnv env) σ s σ { s with heap := h2, toks := s.toks } := .junk k fun b o e => hx b o (Nat.ne_of_lt (Heap.lt_size e)) e
      have P2' : Post h0 nobody σ s σ { s with heap := h2, toks := s.toks } := .junk k fun b o e => hx b o (Nat.ne_of_lt (Heap.lt_size e)) e
      have k2 := k.post0 P2'
      refine assignInOrder_cons (wpAny_assign_Name (store_any eo ap hnd k2 (F.post P2') (okN_of ok.1) fun h3 tk3 F3 P3 => ?_))
      refine assignInOrder_cons (wpAny_assign_Name (store_any eo ap hnd (k2.post P3 eo.own) F3 (okN_of ok.2) fun h4 tk4 F4 P4 => ?_))
      exact assignInOrder_nil ⟨_, σ, h, F4, (P2.trans P3).trans P4⟩
    · exact h.elim

include G in
theorem sound_As {env : Env} {nm : List Str} {A : Around} {E : Value → Shared → Prop} (hnd : nodupS nm = true) (eo : EnvOk h0 env) (ap : Apart env) (R : Room A n) : ∀ (ts : List At) (vals : List Value) {ρ : Loc} {σ : AHeap} {s : Shared} {N : Loc → AHeap → Prop} (_ : okAs env.kindOf nm ts = true)
    (_ : Ok h0 σ s) (_ : Fm env nm ρ σ s.heap) (_ : wpAs (Bs h0) (SemCall prog w K h0 n) ts (vals.map abst) ρ σ N), wpAny (model prog w) A (assignInOrder (ts.map fun t => assign (trA nm t) env) vals) (Stq h0 env nm N σ s) E s
  | [], [], _, _, _, _, _, k, F, h => assignInOrder_nil ⟨_, _, h, F, .refl k⟩
  | [], _ :: _, _, _, _, _, _, _, _, h => h.elim
  | _ :: _, [], _, _, _, _, _, _, _, h => h.elim
  | t :: ts, v :: vs, ρ, σ, s, N, ok, k, F, h => by
    simp only [okAs, Bool.and_eq_true] at ok
    refine assignInOrder_cons (wpAny_mono (sound_A G t ok.1 hnd eo ap R k F (show wpA _ _ t (abst v) ρ σ fun ρ σ => wpAs _ _ ts (vs.map abst) ρ σ N from h)) (fun _ s1 ⟨ρ1, σ1, h1, F1, P1⟩ => ?_) fun _ _ e => e)
    exact wpAny_mono (sound_As hnd eo ap R ts vs ok.2 (k.post P1 eo.own) F1 h1) (fun _ s2 r => r.up P1) fun _ _ e => e
end
end Mine
end
section
set_option maxRecDepth 100000
namespace Mine
open PySem PySem.W PyProof.Rows PySem.Calls

section
variable {h0 : Heap} {prog : Program} {w : World} {K : Frag} {mg mb : Str → Option Value} (G : Gd K h0 mg mb) {n : Nat}

theorem sw_eq {ts vs : List Expr} {c c' : Nat} {p p' : Pos} {env : Env} : swappedStores [.Tuple ts c p] (.Tuple vs c' p') env =
    (if (!(ts.length == 2 || ts.length == 3) || vs.length != ts.length || env.blockKind != .function) = true then pure none
    else if (vs.any fun | .Starred .. => true | _ => false) = true then pure none
    else if ((swNames env.kindOf ts).length != ts.length || (swNames env.kindOf ts).eraseDups.length != (swNames env.kindOf ts).length) = true then pure none
    else if vs.all (foldedForSure 8) = true then pure none
    else if vs.all (constantsAlone 8) = true then unsupported "assign.tuple-of-constant-expressions:order-of-the-stores"
    else pure (some (swNames env.kindOf ts))) := by
  unfold swappedStores swNames
  rfl

theorem sw_none {ts vs : List Expr} {c c' : Nat} {p p' : Pos} {env : Env} (h : ((swNames env.kindOf ts).length != ts.length) = true) : swappedStores [.Tuple ts c p] (.Tuple vs c' p') env = pure none := by
  rw [sw_eq]
  split
  · rfl
  · split
    · rfl
    · rw [h, Bool.true_or, if_pos rfl]

theorem no_star {nm : List Str} : ∀ es : Exs, ((trEs nm es).any fun | .Starred .. => true | _ => false) = false
  | .nil => rfl
  | .cons e r => by
    rw [trEs, List.any_cons, no_star r]
    cases e <;> rfl

theorem blockKind_fn {env : Env} (h : env.scope.kind = .function) : env.blockKind = .function := by
  unfold Env.blockKind; rw [h]; rfl

theorem sw_two {nm : List Str} {i j : Nat} {p q tp ep : Pos} {es : Exs} {env : Env} (hb : env.scope.kind = .function) (hl : exsLen es = 2) (h : (isLoc env.kindOf nm i && isLoc env.kindOf nm j && p.line == q.line && nmAt nm i != nmAt nm j && swTail (trEs nm es)) = true) :
    swappedStores [.Tuple [.Name (nmAt nm i) p, .Name (nmAt nm j) q] 0 tp] (.Tuple (trEs nm es) 0 ep) env = pure (some [nmAt nm i, nmAt nm j]) := by
  simp only [Bool.and_eq_true, beq_iff_eq, bne_iff_ne, ne_eq, isLoc, decide_eq_true_eq, swTail, Bool.not_eq_true'] at h
  obtain ⟨⟨⟨⟨h1, h2⟩, h3⟩, h4⟩, h5, h6⟩ := h
  have e : swNames env.kindOf [.Name (nmAt nm i) p, .Name (nmAt nm j) q] = [nmAt nm i, nmAt nm j] := by
    unfold swNames
    simp [h1.2, h2.2, Expr.pos, h3]
  have ed : [nmAt nm i, nmAt nm j].eraseDups = [nmAt nm i, nmAt nm j] := by
    have q : (nmAt nm j == nmAt nm i) = false := by simpa using Ne.symm h4
    simp [List.eraseDups_cons, q]
  rw [sw_eq, e, ed, no_star, h5, h6, blockKind_fn hb, trEs_len, hl]
  rfl
theorem sw_three {nm : List Str} {i j k : Nat} {p q r tp ep : Pos} {es : Exs} {env : Env} (hb : env.scope.kind = .function) (hl : exsLen es = 3)
    (h : (isLoc env.kindOf nm i && isLoc env.kindOf nm j && isLoc env.kindOf nm k && p.line == q.line && p.line == r.line && nmAt nm i != nmAt nm j && nmAt nm i != nmAt nm k && nmAt nm j != nmAt nm k && swTail (trEs nm es)) = true) :
    swappedStores [.Tuple [.Name (nmAt nm i) p, .Name (nmAt nm j) q, .Name (nmAt nm k) r] 0 tp] (.Tuple (trEs nm es) 0 ep) env = pure (some [nmAt nm i, nmAt nm j, nmAt nm k]) := by
  simp only [Bool.and_eq_true, beq_iff_eq, bne_iff_ne, ne_eq, isLoc, decide_eq_true_eq, swTail, Bool.not_eq_true'] at h
  obtain ⟨⟨⟨⟨⟨⟨⟨⟨h1, h2⟩, h3⟩, h4⟩, h5⟩, h6⟩, h7⟩, h8⟩, h9, h10⟩ := h
  have e : swNames env.kindOf [.Name (nmAt nm i) p, .Name (nmAt nm j) q, .Name (nmAt nm k) r] = [nmAt nm i, nmAt nm j, nmAt nm k] := by
    unfold swNames
    simp [h1.2, h2.2, h3.2, Expr.pos, ← h4, ← h5]
  have ed : [nmAt nm i, nmAt nm j, nmAt nm k].eraseDups = [nmAt nm i, nmAt nm j, nmAt nm k] := by
    have q1 : (nmAt nm j == nmAt nm i) = false := by simpa using Ne.symm h6
    have q2 : (nmAt nm k == nmAt nm i) = false := by simpa using Ne.symm h7
    have q3 : (nmAt nm k == nmAt nm j) = false := by simpa using Ne.symm h8
    simp [List.eraseDups_cons, q1, q2, q3]
  rw [sw_eq, e, ed, no_star, h9, h10, blockKind_fn hb, trEs_len, hl]
  rfl

theorem tuple_made {nm : List Str} {env : Env} {es : Exs} {p : Pos} {σ : AHeap} {s : Shared} {A : Around} {E : Value → Shared → Prop} {Ψ : Value → Shared → Prop} {Q : List V → AHeap → Prop} (hl : exsLen es < 20) (k : Ok h0 σ s)
    (h : wpAny (model prog w) A (spliced (backTo p (starEach (trEs nm es) env))) (fun vs s' => ∃ σ', vs.length = exsLen es ∧ Q (vs.map abst) σ' ∧ Post h0 nobody σ s σ' s') E s)
    (hΨ : ∀ (vs : List Value) T σ' s', vs.length = exsLen es → Q (vs.map abst) σ' → s'.heap.IsTuple T vs.toArray → Post h0 nobody σ s σ' s' → Ψ (.ref T) s') :
    wpAny (model prog w) A (eval (.Tuple (trEs nm es) 0 p) env) Ψ E s := by
  refine Tuple_ (wpAny_mono h (fun vs s1 ⟨σ1, hl1, h1, p1⟩ => ?_) fun _ _ e => e)
  refine wpAny_newTuple ?_ (by rw [sizeLine_eq]; omega)
  refine hΨ vs _ σ1 _ hl1 h1 ⟨_, Heap.get?_push_size _ rfl, rfl, 0, rfl⟩ (p1.trans (.junk (tk := s1.toks) (k.post0 p1) fun b o e => Heap.get?_push_of_some _ e))

def SndS (prog : Program) (w : World) (K : Frag) (h0 : Heap) (n : Nat) (st : St) : Prop :=
  ∀ {env : Env} {nm : List Str} {ρ : Loc} {σ : AHeap} {N : Loc → AHeap → Prop} {Rt : V → AHeap → Prop} {s : Shared} {A : Around} {E : Value → Shared → Prop}, okS env.kindOf nm st = true → nodupS nm = true → EnvOk h0 env → Apart env → Room A n → Ok h0 σ s → Fm env nm ρ σ s.heap →
    wpS (Bs h0) (SemCall prog w K h0 n) st ρ σ N Rt → wpAny (model prog w) A (exec (trS nm st) env) (Flq h0 env nm N Rt σ s) E s
def SndSs (prog : Program) (w : World) (K : Frag) (h0 : Heap) (n : Nat) (b : Sts) : Prop :=
  ∀ {env : Env} {nm : List Str} {ρ : Loc} {σ : AHeap} {N : Loc → AHeap → Prop} {Rt : V → AHeap → Prop} {s : Shared} {A : Around} {E : Value → Shared → Prop}, okSs env.kindOf nm b = true → nodupS nm = true → EnvOk h0 env → Apart env → Room A n → Ok h0 σ s → Fm env nm ρ σ s.heap →
    wpSs (Bs h0) (SemCall prog w K h0 n) b ρ σ N Rt → wpAny (model prog w) A (execs (trSs nm b) env) (Flq h0 env nm N Rt σ s) E s

theorem notComp_swaps {nm : List Str} {env : Env} {t : Option Expr} {l : Nat} : ∀ e : Ex, isCompE e = false → swapsWith (trE nm e) t l env = pure false := by
  intro e h; cases e <;> first | rfl | cases h
theorem notTup_stores {nm : List Str} {env : Env} {ts : List Expr} : ∀ e : Ex, isTupE e = false → swappedStores ts (trE nm e) env = pure none := by
  intro e h
  cases e <;> first | (cases h; done) | skip
  all_goals (unfold swappedStores; split <;> first | rfl | (rename_i h; split at h <;> first | (cases h; done) | (rename_i h1; cases h1; done) | skip))

include G in
theorem snd_asgs (ts : List At) (es : Exs) (tp ep p : Pos) : SndS prog w K h0 n (.asgs ts es tp ep p) := by
  intro env nm ρ σ N Rt s A E ok hnd eo ap R k F h
  simp only [okS, Bool.and_eq_true, decide_eq_true_eq, beq_iff_eq] at ok
  obtain ⟨⟨⟨⟨o1, o2⟩, o3⟩, o4⟩, o5⟩ := ok
  have he := sndEs G es (pos := ep) (E := E) (A := A) o2 eo R k F h
  have plain : swappedStores [.Tuple (ts.map (trA nm)) 0 tp] (.Tuple (trEs nm es) 0 ep) env = pure none → wpAny (model prog w) A (exec (.Assign [.Tuple (ts.map (trA nm)) 0 tp] (.Tuple (trEs nm es) 0 ep) p) env) (Flq h0 env nm N Rt σ s) E s := fun hw => by
    refine Assign_Tuple (tuple_made (Q := fun vs σ => wpAs (Bs h0) (SemCall prog w K h0 n) _ vs ρ σ N) o4 k he fun vs T σ1 s1 hl h1 ht p1 => ?_) rfl hw
    obtain ⟨e1, e2, e3⟩ := each_len (nm := nm) (env := env) ts
    refine wpAny_assign_Tuple (items := vs.toArray) R.handled ht (by rw [e1, List.size_toArray, hl, o3]) e2 fun h2 hx => ?_
    rw [e3]
    have P2 : Post h0 nobody σ1 s1 σ1 { s1 with heap := h2, toks := s1.toks } := .junk (k.post0 p1) fun b o e => hx b o (Nat.ne_of_lt (Heap.lt_size e)) e
    have p12 := p1.trans P2
    exact wpAny_mono (sound_As G hnd eo ap R ts vs (s := { s1 with heap := h2, toks := s1.toks }) o1 (k.post0 p12) (F.post p12) h1) (fun _ s3 r => r.up p12.wide) fun _ _ e => e
  have swap2 : ∀ (vs : List Value) T σ1 s1 (i j : Nat) (a b : Value), vs = [a, b] → s1.heap.IsTuple T vs.toArray → Post h0 nobody σ s σ1 s1 → isLoc env.kindOf nm i = true → isLoc env.kindOf nm j = true → i ≠ j → N ((ρ.set i (some (abst a))).set j (some (abst b))) σ1 →
      wpAny (model prog w) A (unpackItems (.ref T) 2 none) (fun items s₂ => wpAny (model prog w) A (assignInOrder ([nmAt nm j, nmAt nm i].map fun n => bindName env n) items.reverse) (fun _ => Flq h0 env nm N Rt σ s .next) E s₂) E s1 := fun vs T σ1 s1 i j a b ev ht p1 hi hj hne h1 => by
    subst ev
    refine wpAny_unpackItems_tuple (items := #[a, b]) R.handled ht fun h2 hx => ?_
    have P2 : Post h0 nobody σ1 s1 σ1 { s1 with heap := h2, toks := s1.toks } := .junk (k.post0 p1) fun b o e => hx b o (Nat.ne_of_lt (Heap.lt_size e)) e
    have p12 := p1.trans P2
    have k2 := k.post0 p12
    refine assignInOrder_cons (wpAny_bindName (store_any eo ap hnd k2 (F.post p12) (okN_of hj) fun h3 tk3 F3 P3 => ?_))
    refine assignInOrder_cons (wpAny_bindName (store_any eo ap hnd (k2.post P3 eo.own) F3 (okN_of hi) fun h4 tk4 F4 P4 => ?_))
    refine assignInOrder_nil ⟨_, σ1, ?_, F4, (p12.wide.trans P3).trans P4⟩
    rw [List.set_comm _ _ (Ne.symm hne)]; exact h1
  have swap3 : ∀ (vs : List Value) T σ1 s1 (i j l : Nat) (a b c : Value), vs = [a, b, c] → s1.heap.IsTuple T vs.toArray → Post h0 nobody σ s σ1 s1 → isLoc env.kindOf nm i = true → isLoc env.kindOf nm j = true → isLoc env.kindOf nm l = true → i ≠ j → i ≠ l → j ≠ l → N (((ρ.set i (some (abst a))).set j (some (abst b))).set l (some (abst c))) σ1 →
      wpAny (model prog w) A (unpackItems (.ref T) 3 none) (fun items s₂ => wpAny (model prog w) A (assignInOrder ([nmAt nm l, nmAt nm j, nmAt nm i].map fun n => bindName env n) items.reverse) (fun _ => Flq h0 env nm N Rt σ s .next) E s₂) E s1 := fun vs T σ1 s1 i j l a b c ev ht p1 hi hj hl hne hnl hml h1 => by
    subst ev
    refine wpAny_unpackItems_tuple (items := #[a, b, c]) R.handled ht fun h2 hx => ?_
    have P2 : Post h0 nobody σ1 s1 σ1 { s1 with heap := h2, toks := s1.toks } := .junk (k.post0 p1) fun b o e => hx b o (Nat.ne_of_lt (Heap.lt_size e)) e
    have p12 := p1.trans P2
    have k2 := k.post0 p12
    refine assignInOrder_cons (wpAny_bindName (store_any eo ap hnd k2 (F.post p12) (okN_of hl) fun h3 tk3 F3 P3 => ?_))
    have k3 := k2.post P3 eo.own
    refine assignInOrder_cons (wpAny_bindName (store_any eo ap hnd k3 F3 (okN_of hj) fun h4 tk4 F4 P4 => ?_))
    refine assignInOrder_cons (wpAny_bindName (store_any eo ap hnd (k3.post P4 eo.own) F4 (okN_of hi) fun h5 tk5 F5 P5 => ?_))
    refine assignInOrder_nil ⟨_, σ1, ?_, F5, ((p12.wide.trans P3).trans P4).trans P5⟩
    rw [List.set_comm _ _ (Ne.symm hml), List.set_comm _ _ (Ne.symm hnl), List.set_comm (l := ρ) _ _ (Ne.symm hne)]; exact h1
  show wpAny _ _ (exec (.Assign [.Tuple (ts.map (trA nm)) 0 tp] (.Tuple (trEs nm es) 0 ep) p) env) _ _ _
  unfold okSw at o5
  split at o5
  · rename_i i pi j pj
    rw [Bool.or_eq_true] at o5
    rcases o5 with o5 | o5
    · exact plain (sw_none o5)
    · refine Assign_Tuple_swapped (tuple_made (Q := fun vs σ => wpAs (Bs h0) (SemCall prog w K h0 n) _ vs ρ σ N) o4 k he fun vs T σ1 s1 hl h1 ht p1 => ?_) rfl (sw_two eo.kind o3 o5)
      simp only [Bool.and_eq_true, beq_iff_eq, bne_iff_ne, ne_eq] at o5
      obtain ⟨⟨⟨⟨a1, a2⟩, _⟩, a4⟩, _⟩ := o5
      rw [o3] at hl
      match vs, hl with
      | [a, b], _ => exact swap2 _ T σ1 s1 i j a b rfl ht p1 a1 a2 (fun q => a4 (by rw [q])) h1
  · rename_i i pi j pj l pl
    rw [Bool.or_eq_true] at o5
    rcases o5 with o5 | o5
    · exact plain (sw_none o5)
    · refine Assign_Tuple_swapped (tuple_made (Q := fun vs σ => wpAs (Bs h0) (SemCall prog w K h0 n) _ vs ρ σ N) o4 k he fun vs T σ1 s1 hl h1 ht p1 => ?_) rfl (sw_three eo.kind o3 o5)
      simp only [Bool.and_eq_true, beq_iff_eq, bne_iff_ne, ne_eq] at o5
      obtain ⟨⟨⟨⟨⟨⟨⟨⟨a1, a2⟩, a3⟩, _⟩, _⟩, a6⟩, a7⟩, a8⟩, _⟩ := o5
      rw [o3] at hl
      match vs, hl with
      | [a, b, c], _ => exact swap3 _ T σ1 s1 i j l a b c rfl ht p1 a1 a2 a3 (fun q => a6 (by rw [q])) (fun q => a7 (by rw [q])) (fun q => a8 (by rw [q])) h1
  · exact plain (sw_none (by rw [List.length_map]; exact o5))
end
end Mine
end
section
set_option maxRecDepth 100000
namespace Mine
open PySem PySem.W PyProof.Rows PySem.Calls

section
variable {h0 : Heap} {prog : Program} {w : World} {K : Frag} {mg mb : Str → Option Value} (G : Gd K h0 mg mb) {n : Nat}

theorem used_swaps {env : Env} {nm : List Str} {t : At} {e el : Expr} {gs : List Comprehension} {sc : Scope} {vp : Pos} (he : e = .ListComp el gs sc vp) (hb : env.scope.kind = .function) (h : usedComp env.kindOf nm t sc vp = true) (hl : ∃ i ip, t = .loc i ip) :
    ∃ i ip, t = .loc i ip ∧ isLoc env.kindOf nm i = true ∧ ∀ l, swapsWith e (some (.Name (nmAt nm i) ip)) l env = pure true := by
  subst he
  cases t with
  | loc i ip =>
    simp only [usedComp, Bool.and_eq_true, beq_iff_eq] at h
    obtain ⟨⟨h1, h2⟩, h3⟩ := h
    refine ⟨i, ip, rfl, h1, fun l => ?_⟩
    simp only [isLoc, Bool.and_eq_true, beq_iff_eq] at h1
    show (pure (env.blockKind == .function && env.kindOf (nmAt nm i) == some .local && ip.line == vp.line && !(sc.names.any fun (n, k) => n == nmAt nm i && (k == .local || k == .cell))) : Sem Bool) = pure true
    rw [blockKind_fn hb, h1.2, h2, h3]
    simp
  | _ => obtain ⟨_, _, q⟩ := hl; cases q

theorem CompFin.stand {σ σ' : AHeap} {s s3 : Shared} {acc : List V} {D C : Addr} (f : CompFin h0 σ s acc D C σ' s3) : Post h0 nobody σ s (σ'.put D (.list acc)) s3 := by
  obtain ⟨xs, hD, hxs⟩ := f.list
  refine ⟨fun a x e => ?_, f.post.keep, f.post.live, fun a ha => ?_, f.post.os, f.post.gens⟩
  · by_cases q : a = D
    · subst q; rw [AHeap.put_self] at e; cases e; exact ⟨xs, hD, hxs, f.len⟩
    · rw [AHeap.put_ne _ _ q] at e; exact f.post.sat a x e
  · by_cases q : a = D
    · subst q; exact .inr f.df
    · rw [AHeap.put_ne _ _ q] at ha; exact f.post.dom a ha
theorem Post.drops {own : Addr → Prop} {σ σ' : AHeap} {s s' : Shared} {C : Addr} {h' : Heap} (p : Post h0 own σ s σ' s') (hC : s.heap.get? C = none) (hs : Heap.SameBut C s'.heap h') (hn : σ' C = none) : Post h0 own σ s σ' { s' with heap := h' } := by
  refine ⟨fun a x e => ?_, fun a o e h1 h2 => ?_, fun a o e => ?_, p.dom, p.os, p.gens⟩
  · exact (p.sat a x e).at' fun _ e' => (hs.2 a fun z => by subst z; rw [hn] at e; cases e).trans e'
  · exact (hs.2 a fun z => by subst z; rw [hC] at e; cases e).trans (p.keep a o e h1 h2)
  · obtain ⟨o', e'⟩ := p.live a o e
    exact ⟨o', (hs.2 a fun z => by subst z; rw [hC] at e; cases e).trans e'⟩

theorem Fm.own_there {env : Env} {nm : List Str} {ρ : Loc} {σ : AHeap} {h : Heap} (F : Fm env nm ρ σ h) : ∀ a, ownOfEnv env a → ∃ o, h.get? a = some o := fun a ha => by
  rcases ha with rfl | ⟨x, hc⟩
  · obtain ⟨m, ⟨o, _, _, q, _⟩, _⟩ := F.ns; exact ⟨o, q⟩
  · obtain ⟨v, o, q, _⟩ := F.any x a hc; exact ⟨o, q⟩

theorem CompFin.use {env : Env} {nm : List Str} {ρ : Loc} {N : Loc → AHeap → Prop} {Rt : V → AHeap → Prop} {σ σ' : AHeap} {s s3 : Shared} {acc : List V} {D C : Addr} {A : Around} {E : Value → Shared → Prop} {i : Nat} {ip : Pos} (eo : EnvOk h0 env) (ap : Apart env) (hnd : nodupS nm = true) (k : Ok h0 σ s) (F : Fm env nm ρ σ s.heap)
    (hi : isLoc env.kindOf nm i = true) (f : CompFin h0 σ s acc D C σ' s3) (h : allocW (Bs h0) (.list acc) σ' fun v σ => N (ρ.set i (some v)) σ) :
    compPost (model prog w) A E (some (assign (.Name (nmAt nm i) ip) env)) (fun _ => Flq h0 env nm N Rt σ s .next) (.ref D) C (.ok .next) s3 := by
  obtain ⟨m, hm⟩ := f.ns
  have nC : ¬ ownOfEnv env C := fun q => by obtain ⟨o, e⟩ := F.own_there C q; rw [f.cf] at e; cases e
  have P1 := f.stand
  have hCn : (σ'.put D (.list acc)) C = none := by rw [AHeap.put_ne _ _ f.cd]; exact f.cn
  refine wpAny_assign_Name (store_any (v := .ref D) eo ap hnd (k.post0 P1) (F.post P1) (okN_of hi) fun h4 tk4 F4 P4 => ?_)
  refine ⟨m, hm.at' fun o e => P4.keep C o e (.inl hCn) nC, fun h5 hs => ?_⟩
  refine ⟨_, _, h D _ (k.bs f.df) f.dn (ext_put f.dn) (AHeap.put_self ..), ?_, (P1.wide.trans P4).drops f.cf hs hCn⟩
  exact F4.mono fun a ha o e => (hs.2 a fun z => nC (z ▸ ha)).trans e

include G in
theorem snd_asg (t : At) (e : Ex) (p : Pos) : SndS prog w K h0 n (.asg t e p) := by
  intro env nm ρ σ N Rt s A E ok hnd eo ap R k F h
  simp only [okS, Bool.and_eq_true] at ok
  obtain ⟨⟨⟨o1, o2⟩, o3⟩, o4⟩ := ok
  have one : (∀ l, swapsWith (trE nm e) (some (trA nm t)) l env = pure false) → wpAny (model prog w) A (exec (.Assign [trA nm t] (trE nm e) p) env) (Flq h0 env nm N Rt σ s) E s := fun hc => by
    have he : (assignEach [trA nm t] env).map (·.2) = [assign (trA nm t) env] := by cases t <;> rfl
    have hw : swappedStores [trA nm t] (trE nm e) env = pure none := by
      cases t <;> first | (cases o3; done) | rfl
    refine wpAny_Assign_stores (wpAny_mono (sndE G e o1 eo R k F h) (fun v s1 ⟨σ1, h1, p1⟩ => ?_) fun _ _ e => e) (hc _) hw
    rw [he]
    exact wpAny_mono (sound_A G t o2 hnd eo ap R (k.post0 p1) (F.post p1) h1) (fun _ s2 r => r.up p1.wide) fun _ _ e => e
  have used : ∀ el gs sc vp, trE nm e = .ListComp el gs sc vp → usedComp env.kindOf nm t sc vp = true → (∃ i ip, t = .loc i ip) →
      (∀ i ip, isLoc env.kindOf nm i = true → t = .loc i ip → wpAny (model prog w) A (evalThenUse (trE nm e) env (assign (.Name (nmAt nm i) ip) env)) (fun _ => Flq h0 env nm N Rt σ s .next) E s) →
      wpAny (model prog w) A (exec (.Assign [trA nm t] (trE nm e) p) env) (Flq h0 env nm N Rt σ s) E s := fun el gs sc vp ee hu hl hh => by
    obtain ⟨i, ip, rfl, hi, hsw⟩ := used_swaps ee eo.kind hu hl
    show wpAny _ _ (exec (.Assign [.Name (nmAt nm i) ip] (trE nm e) p) env) _ _ _
    rw [exec_Assign_Name_used _ _ _ _ (hsw _)]
    exact wpAny_bind (wpAny_standAt (wpAny_bind (wpAny_mono (hh i ip hi rfl) (fun _ _ r => wpAny_pure r) fun _ _ e => e)))
  show wpAny _ _ (exec (.Assign [trA nm t] (trE nm e) p) env) _ _ _
  have tl : (∃ i ip, t = .loc i ip) ∨ (∀ e l, swapsWith e (some (trA nm t)) l env = pure false) := by
    cases t with
    | loc i ip => exact .inl ⟨i, ip, rfl⟩
    | attr a k p =>
      right; intro e l
      unfold swapsWith
      cases e <;> rfl
    | idx a k p =>
      right; intro e l
      unfold swapsWith
      cases e <;> rfl
    | two => cases o3
  cases e with
  | comp el tg src sc cn cap vp =>
    rcases tl with tl | tl
    rotate_left
    · exact one (tl _)
    refine used _ _ sc vp rfl o4 tl fun i ip hi et => ?_
    subst et
    show wpAny _ _ (evalThenUse (.ListComp (trE cn el) [⟨trTg cn tg, trSrc nm src, [], 0⟩] sc vp) env _) _ _ _
    rw [arm_evalThenUse_ListComp]
    exact wpAny_bind (wpAny_mono (comp_any (Ψ := fun _ => Flq h0 env nm N Rt σ s .next) (sndSrc G src) (sndE G el) o1 eo R k F h fun acc σ' s3 D C f a => f.use eo ap hnd k F hi a) (fun _ _ r => wpAny_pure r) fun _ _ e => e)
  | compIf el tg src c sc cn cap vp =>
    rcases tl with tl | tl
    rotate_left
    · exact one (tl _)
    refine used _ _ sc vp rfl o4 tl fun i ip hi et => ?_
    subst et
    show wpAny _ _ (evalThenUse (.ListComp (trE cn el) [⟨trTg cn tg, trSrc nm src, [trT cn c], 0⟩] sc vp) env _) _ _ _
    rw [arm_evalThenUse_ListComp]
    exact wpAny_bind (wpAny_mono (compIf_any (Ψ := fun _ => Flq h0 env nm N Rt σ s .next) (sndSrc G src) (sndE G el) (sndT G c) o1 eo R k F h fun acc σ' s3 D C f a => f.use eo ap hnd k F hi a) (fun _ _ r => wpAny_pure r) fun _ _ e => e)
  | _ => exact one fun l => notComp_swaps _ rfl

include G in
theorem snd_unp (ts : List At) (e : Ex) (tp p : Pos) : SndS prog w K h0 n (.unp ts e tp p) := by
  intro env nm ρ σ N Rt s A E ok hnd eo ap R k F h
  simp only [okS, Bool.and_eq_true, Bool.not_eq_true'] at ok
  obtain ⟨⟨⟨o1, o2⟩, o3⟩, o4⟩ := ok
  show wpAny _ _ (exec (.Assign [.Tuple (ts.map (trA nm)) 0 tp] (trE nm e) p) env) _ _ _
  refine Assign_Tuple (wpAny_mono (sndE G e o2 eo R k F h) (fun v s1 ⟨σ1, h1, p1⟩ => ?_) fun _ _ e => e) (notComp_swaps (nm := nm) (env := env) (t := some (.Tuple (ts.map (trA nm)) 0 tp)) (l := p.line) e o4) (notTup_stores e o3)
  dsimp only at h1
  unfold refW at h1
  split at h1
  · rename_i x ex
    obtain ⟨vs, ⟨hx, hl⟩, h1⟩ := h1
    have k1 := k.post0 p1
    obtain ⟨xs, m, g, exs, _⟩ := k1.sat _ _ hx
    subst exs
    rw [abst_ref ex]
    obtain ⟨e1, e2, e3⟩ := each_len (nm := nm) (env := env) ts
    refine wpAny_assign_Tuple (items := xs) R.handled ⟨_, g, rfl, m, rfl⟩ (by rw [e1, ← hl]; simp) e2 fun h2 hx => ?_
    rw [e3]
    have P2 : Post h0 nobody σ1 s1 σ1 { s1 with heap := h2, toks := s1.toks } := .junk k1 fun b o e => hx b o (Nat.ne_of_lt (Heap.lt_size e)) e
    have p12 := p1.trans P2
    exact wpAny_mono (sound_As G hnd eo ap R ts xs.toList (s := { s1 with heap := h2, toks := s1.toks }) o1 (k.post0 p12) (F.post p12) h1) (fun _ s3 r => r.up p12.wide) fun _ _ e => e
  · exact h1.elim

include G in
theorem snd_aug (i : Nat) (q : Pos) (o : Operator) (e : Ex) (p : Pos) : SndS prog w K h0 n (.aug i q o e p) := by
  intro env nm ρ σ N Rt s A E ok hnd eo ap R k F h
  simp only [okS, Bool.and_eq_true] at ok
  obtain ⟨⟨o1, o2⟩, o3⟩ := ok
  have o1' := o1
  simp only [isLoc, Bool.and_eq_true, decide_eq_true_eq, beq_iff_eq] at o1'
  unfold wpS at h
  split at h
  · rename_i a ha
    obtain ⟨m, hn, hm⟩ := F.ns
    obtain ⟨u, e1, e2⟩ := hm i _ (.int a) (nmAt_get o1'.1) o1'.2 ha
    refine wpAny_AugAssign_Name (wpAny_loadName_local eo.kind o1'.2 hn e1 ?_)
    refine wpAny_mono (sndE G e o3 eo R k F h) (fun b s1 ⟨σ1, h1, p1⟩ => ?_) fun _ _ e => e
    refine wpAny_mono (inpl_sound (Q := fun v σ => N (ρ.set i (some v)) σ) (k.post0 p1) (by cases o <;> first | (cases o2; done) | simp) ⟨a, e2⟩ (by rw [e2]; exact h1)) (fun v s2 ⟨σ2, h2, p2⟩ => ?_) fun _ _ e => e
    have p12 := p1.trans p2
    exact store_any eo ap hnd (k.post0 p12) (F.post p12) (okN_of o1) fun h3 tk3 F3 P3 => ⟨_, σ2, h2, F3, p12.wide.trans P3⟩
  · exact h.elim

include G in
theorem snd_expr (e : Ex) (p : Pos) : SndS prog w K h0 n (.expr e p) := by
  intro env nm ρ σ N Rt s A E ok hnd eo ap R k F h
  simp only [okS, Bool.and_eq_true, Bool.not_eq_true'] at ok
  refine wpAny_Expr (wpAny_mono (sndE G e ok.1 eo R k F h) (fun v s1 ⟨σ1, ⟨hv, h1⟩, p1⟩ => ?_) fun _ _ e => e) (by unfold interactive; rw [eo.kind]; rfl) (notComp_swaps e ok.2)
  have : v = .none := abst_none hv
  subst this
  exact ⟨ρ, σ1, h1, F.post p1, p1.wide⟩

include G in
theorem snd_cond {a b : Sts} (ha : SndSs prog w K h0 n a) (hb : SndSs prog w K h0 n b) (c : Tst) (p : Pos) : SndS prog w K h0 n (.cond c a b p) := by
  intro env nm ρ σ N Rt s A E ok hnd eo ap R k F h
  simp only [okS, Bool.and_eq_true] at ok
  refine wpAny_If (wpAny_mono (sndT G c ok.1.1 eo R k F h) (fun t s1 ⟨σ1, h1, p1⟩ => ?_) fun _ _ e => e)
  cases t with
  | true => rw [if_pos rfl]; exact wpAny_mono (ha ok.1.2 hnd eo ap R (k.post0 p1) (F.post p1) (h1.1 rfl)) (fun f s2 r => r.up p1.wide) fun _ _ e => e
  | false => rw [if_neg (by decide)]; exact wpAny_mono (hb ok.2 hnd eo ap R (k.post0 p1) (F.post p1) (h1.2 rfl)) (fun f s2 r => r.up p1.wide) fun _ _ e => e

include G in
theorem snd_ret (e : Ex) (p : Pos) : SndS prog w K h0 n (.ret e p) := by
  intro env nm ρ σ N Rt s A E ok hnd eo ap R k F h
  exact wpAny_Return_some (wpAny_mono (sndE G e ok eo R k F h) (fun v s1 ⟨σ1, h1, p1⟩ => ⟨σ1, h1, p1.wide⟩) fun _ _ e => e)
theorem snd_ret0 (p : Pos) : SndS prog w K h0 n (.ret0 p) := by
  intro env nm ρ σ N Rt s A E ok hnd eo ap R k F h
  exact wpAny_Return_none ⟨σ, h, .refl k⟩
theorem snd_dead (st : Stmt) : SndS prog w K h0 n (.dead st) := by
  intro env nm ρ σ N Rt s A E ok hnd eo ap R k F h
  exact h.elim

include G in
theorem snd_whil {b : Sts} (hb : SndSs prog w K h0 n b) (c : Tst) (p : Pos) : SndS prog w K h0 n (.whil c b p) := by
  intro env nm ρ σ N Rt s A E ok hnd eo ap R k F h
  simp only [okS, Bool.and_eq_true] at ok
  obtain ⟨I, X, ⟨n0, h0'⟩, hstep, hX⟩ := h
  refine wpAny_While (codeAny_whileLoop (fun m s' => ∃ ρ' σ', I m ρ' σ' ∧ Fm env nm ρ' σ' s'.heap ∧ Post h0 (ownOfEnv env) σ s σ' s') (fun m s' hI => ?_) n0 ⟨ρ, σ, h0', F, .refl k⟩)
  obtain ⟨ρ', σ', hi, F', P'⟩ := hI
  have k' := k.post P' eo.own
  refine wpAny_mono (sndT G c ok.1 eo R k' F' (hstep m ρ' σ' hi)) (fun t s1 ⟨σ1, h1, p1⟩ => ?_) fun _ _ e => e
  have k1 := k'.post0 p1
  have F1 := F'.post p1
  cases t with
  | true =>
    rw [if_pos rfl]
    refine wpAny_mono (hb ok.2 hnd eo ap R k1 F1 (h1.1 rfl)) (fun f s2 r => ?_) fun _ _ e => e
    cases f with
    | next =>
      obtain ⟨ρ2, σ2, ⟨m', hm, hi'⟩, F2, P2⟩ := r
      exact ⟨m', hm, ρ2, σ2, hi', F2, (P'.trans p1.wide).trans P2⟩
    | ret v =>
      obtain ⟨σ2, hr, P2⟩ := r
      exact ⟨σ2, hr, (P'.trans p1.wide).trans P2⟩
    | _ => exact r.elim
  | false =>
    rw [if_neg (by decide)]
    exact wpAny_execs_nil ⟨ρ', σ1, hX _ _ (h1.2 rfl), F1, P'.trans p1.wide⟩

include G in
theorem snd_forr {b : Sts} (hb : SndSs prog w K h0 n b) (t : Tg) (src : Src) (p : Pos) : SndS prog w K h0 n (.forr t src b p) := by
  intro env nm ρ σ N Rt s A E ok hnd eo ap R k F h
  simp only [okS, Bool.and_eq_true] at ok
  obtain ⟨⟨⟨o1, o2⟩, o3⟩, o4⟩ := ok
  refine wpAny_For (wpAny_mono (sndSrc G src (E := E) o3 eo R k F h) (fun x s1 h1 => wpAny_mono h1 (fun it s2 h2 => ?_) fun _ _ e => e) fun _ _ e => e) (folded_src src)
  obtain ⟨Ia, wr, items, g, St, σ2, r⟩ := h2
  obtain ⟨I, i0, ig, istep, iend⟩ := r.q
  rw [r.it]
  have k2 := k.post0 r.post
  have F2 := F.post r.post
  have W := r.iter env nm _ t o1 eo (tg_ok2 eo ap hnd o2)
  have wr2 : ∀ b ∈ wr, ∃ o, s2.heap.get? b = some o := r.here _ _ r.start
  have wrn : ∀ b ∈ wr, ¬ ownOfEnv env b ∧ Bs h0 b := fun b hb => ⟨fun q => (by obtain ⟨o, e⟩ := F.own_there b q; rw [(r.fresh b hb).1] at e; cases e), k.bs (r.fresh b hb).1⟩
  have ended : ∀ {σ' s1 s'} (P1 : Post h0 (fun a => ownOfEnv env a ∨ a ∈ wr) σ2 s2 σ' s1) (ok' : Ok h0 σ' s') (hkeep : ∀ b o, b ∉ wr → s1.heap.get? b = some o → s'.heap.get? b = some o) (ho : s'.os = s1.os) (hg : s'.gens = s1.gens), Post h0 (ownOfEnv env) σ s σ' s' :=
    fun P1 ok' hkeep ho hg => r.post.ended P1 ok' hkeep ho hg (fun b hb => (r.fresh b hb).1) fun a ha => by
      rcases ha with ha | ha
      · exact .inl ha
      · exact .inr (r.fresh a ha).1
  refine codeAny_forLoop_any (fun m s' => ∃ j ρ' σ', j ≤ items.length ∧ m = items.length + 1 - j ∧ I j ρ' σ' ∧ Ok h0 σ' s' ∧ Fm env nm ρ' σ' s'.heap ∧ St j s'.heap ∧ (∀ b ∈ wr, σ' b = none) ∧ Post h0 (fun a => ownOfEnv env a ∨ a ∈ wr) σ2 s2 σ' s')
    (fun m s' hI => ?_) (items.length + 1) ⟨0, ρ, σ2, Nat.zero_le _, rfl, i0, k2, F2, r.start, fun b hb => (r.fresh b hb).2, .refl k2⟩
  obtain ⟨j, ρ', σ', hj, rfl, hi, k', F', st, hw, P⟩ := hI
  have hw' : ∀ b ∈ wr, σ' b = none ∧ ¬ ownOfEnv env b ∧ Bs h0 b := fun b hb => ⟨hw b hb, wrn b hb⟩
  rcases Nat.lt_or_ge j items.length with hlt | hge
  · have hit : items[j]? = some items[j] := List.getElem?_eq_getElem hlt
    refine W.turn j s' σ' ρ' _ _ _ _ hit (ig _ _ _ hi) k' F' hw' st fun s3 k3 F3 st3 P3 => ?_
    refine wpAny_mono (hb o4 hnd eo ap R k3 F3 (istep j ρ' σ' _ hi hit)) (fun f s4 r4 => ?_) fun _ _ e => e
    have P03 : Post h0 (fun a => ownOfEnv env a ∨ a ∈ wr) σ2 s2 σ' s3 := P.trans P3
    cases f with
    | next =>
      obtain ⟨ρ4, σ4, hi4, F4, P4⟩ := r4
      refine ⟨items.length + 1 - (j + 1), by omega, j + 1, ρ4, σ4, hlt, rfl, hi4, k3.post P4 eo.own, F4, ?_, fun b hb => P4.unk (hw b hb) (r.here _ _ st3 b hb), P03.trans (P4.widen fun a q => .inl q)⟩
      exact r.frame _ _ _ (fun b hb o e => P4.stays (hw b hb) (wrn b hb).1 e) st3
    | ret v =>
      obtain ⟨σ4, hr, P4⟩ := r4
      exact ⟨σ4, hr, ended (P03.trans (P4.widen fun a q => .inl q)) (k3.post P4 eo.own) (fun b o _ e => e) rfl rfl⟩
    | _ => exact r4.elim
  · have hke : j = items.length := Nat.le_antisymm hj hge
    subst hke
    refine W.done s' σ' ρ' _ _ _ (ig _ _ _ hi) k' F' hw' st fun s3 k3 F3 hlv hkeep ho hgn => ?_
    exact wpAny_execs_nil ⟨ρ', σ', iend _ _ hi, F3, ended P k3 hkeep ho hgn⟩

theorem snds_nilS : SndSs prog w K h0 n .nil := by
  intro env nm ρ σ N Rt s A E ok hnd eo ap R k F h
  exact wpAny_execs_nil ⟨ρ, σ, h, F, .refl k⟩
theorem snds_one {st : St} {b : Sts} (hs : SndS prog w K h0 n st) (hb : SndSs prog w K h0 n b) : SndSs prog w K h0 n (.cons st b) := by
  intro env nm ρ σ N Rt s A E ok hnd eo ap R k F h
  simp only [okSs, Bool.and_eq_true] at ok
  refine wpAny_execs_cons (wpAny_mono (hs ok.1 hnd eo ap R k F h) (fun f s1 r => ?_) fun _ _ e => e)
  cases f with
  | next =>
    obtain ⟨ρ1, σ1, h1, F1, P1⟩ := r
    exact wpAny_mono (hb ok.2 hnd eo ap R (k.post P1 eo.own) F1 h1) (fun f s2 r => r.up P1) fun _ _ e => e
  | ret v => exact r
  | _ => exact r.elim

include G in
mutual
theorem sndS : ∀ st : St, SndS prog w K h0 n st
  | .asg t e p => snd_asg G t e p
  | .asgs ts es tp ep p => snd_asgs G ts es tp ep p
  | .unp ts e tp p => snd_unp G ts e tp p
  | .aug i q o e p => snd_aug G i q o e p
  | .expr e p => snd_expr G e p
  | .cond c a b p => snd_cond G (sndSs a) (sndSs b) c p
  | .whil c b p => snd_whil G (sndSs b) c p
  | .forr t s b p => snd_forr G (sndSs b) t s p
  | .ret e p => snd_ret G e p
  | .ret0 p => snd_ret0 p
  | .dead st => snd_dead st
theorem sndSs : ∀ b : Sts, SndSs prog w K h0 n b
  | .nil => snds_nilS
  | .cons s b => snds_one (sndS s) (sndSs b)
end
end
end Mine
end
section
set_option maxRecDepth 100000
namespace Mine
open PySem PySem.W PyProof.Rows PySem.Calls

section
variable {h0 : Heap} {prog : Program} {w : World} {K : Frag} {mg mb : Str → Option Value} (G : Gd K h0 mg mb) {n : Nat}

def entry (m : Nat) (vs : List V) : Loc := vs.map some ++ List.replicate (m - vs.length) none

theorem entry_get {m : Nat} {vs : List V} {i : Nat} {v : V} (h : (entry m vs).getD i none = some v) : vs[i]? = some v := by
  unfold entry at h
  rw [List.getD_eq_getElem?_getD] at h
  rcases Nat.lt_or_ge i vs.length with q | q
  · rw [List.getElem?_append_left (by simpa using q), List.getElem?_map] at h
    rw [List.getElem?_eq_getElem q] at h ⊢
    simpa using h
  · rw [List.getElem?_append_right (by simpa using q), List.getElem?_replicate] at h
    split at h <;> cases h

theorem bindL_no {kd : Str → Option NameKind} : ∀ {names : List Str} {vals : List Value} {m : Str → Option Value} {x : Str}, x ∉ names → bindL kd (names.zip vals) m x = m x
  | [], _, _, _, _ => by rfl
  | _ :: _, [], _, _, _ => by rfl
  | y :: r, v :: vs, m, x, h => by
    rw [List.zip_cons_cons, bindL, bindL_no fun q => h (.tail _ q)]
    split
    · exact if_neg (fun q : x = y => h (by rw [q]; exact .head _))
    · rfl
theorem bindL_at {kd : Str → Option NameKind} : ∀ {names : List Str} {vals : List Value} {m : Str → Option Value} {i : Nat} {x : Str} {v : Value}, nodupS names = true → names[i]? = some x → vals[i]? = some v → kd x = some .local → bindL kd (names.zip vals) m x = some v
  | [], _, _, _, _, _, _, h, _, _ => by simp at h
  | _ :: _, [], _, _, _, _, _, _, h, _ => by simp at h
  | y :: r, u :: vs, m, 0, x, v, hn, h1, h2, hk => by
    simp only [nodupS, Bool.and_eq_true, Bool.not_eq_true'] at hn
    simp only [List.getElem?_cons_zero, Option.some.injEq] at h1 h2
    subst h1 h2
    rw [List.zip_cons_cons, bindL, bindL_no (fun q => by have := hn.1; rw [List.contains_iff_mem.mpr q] at this; cases this), if_pos hk]
    exact if_pos rfl
  | y :: r, u :: vs, m, i + 1, x, v, hn, h1, h2, hk => by
    simp only [nodupS, Bool.and_eq_true] at hn
    rw [List.zip_cons_cons, bindL]
    exact bindL_at hn.2 (by simpa using h1) (by simpa using h2) hk
theorem bindC_no {kd : Str → Option NameKind} : ∀ {names : List Str} {vals : List Value} {m : Str → Option Value} {x : Str}, x ∉ names → bindC kd (names.zip vals) m x = m x
  | [], _, _, _, _ => by rfl
  | _ :: _, [], _, _, _ => by rfl
  | y :: r, v :: vs, m, x, h => by
    rw [List.zip_cons_cons, bindC, bindC_no fun q => h (.tail _ q)]
    split
    · rfl
    · exact if_neg (fun q : x = y => h (by rw [q]; exact .head _))
theorem bindC_at {kd : Str → Option NameKind} : ∀ {names : List Str} {vals : List Value} {m : Str → Option Value} {i : Nat} {x : Str} {v : Value}, nodupS names = true → names[i]? = some x → vals[i]? = some v → kd x ≠ some .local → bindC kd (names.zip vals) m x = some v
  | [], _, _, _, _, _, _, h, _, _ => by simp at h
  | _ :: _, [], _, _, _, _, _, _, h, _ => by simp at h
  | y :: r, u :: vs, m, 0, x, v, hn, h1, h2, hk => by
    simp only [nodupS, Bool.and_eq_true, Bool.not_eq_true'] at hn
    simp only [List.getElem?_cons_zero, Option.some.injEq] at h1 h2
    subst h1 h2
    rw [List.zip_cons_cons, bindC, bindC_no (fun q => by have := hn.1; rw [List.contains_iff_mem.mpr q] at this; cases this), if_neg hk]
    exact if_pos rfl
  | y :: r, u :: vs, m, i + 1, x, v, hn, h1, h2, hk => by
    simp only [nodupS, Bool.and_eq_true] at hn
    rw [List.zip_cons_cons, bindC]
    exact bindC_at hn.2 (by simpa using h1) (by simpa using h2) hk

theorem cells_acc : ∀ {names : List (Str × NameKind)} {k : Nat} {acc : List (Str × Addr)} {x : Str}, (acc.lookup x).isSome = true → ((cellsFrom k names acc).lookup x).isSome = true
  | [], _, _, _, h => h
  | (y, kd) :: r, k, acc, x, h => by
    unfold cellsFrom
    split
    · refine cells_acc ?_
      rw [List.lookup_cons]
      split
      · rfl
      · exact h
    · exact cells_acc h
theorem cells_has : ∀ {names : List (Str × NameKind)} {k : Nat} {acc : List (Str × Addr)} {x : Str}, (x, NameKind.cell) ∈ names → ((cellsFrom k names acc).lookup x).isSome = true
  | (y, kd) :: r, k, acc, x, h => by
    unfold cellsFrom
    rcases List.mem_cons.mp h with e | h
    · cases e
      rw [if_pos (by rfl)]
      exact cells_acc (by rw [List.lookup_cons]; simp)
    · split <;> exact cells_has h

theorem cells_mem : ∀ {names : List (Str × NameKind)} {k : Nat} {acc : List (Str × Addr)}, nodupS (names.map (·.1)) = true → (∀ y ∈ names, ∀ c, (y.1, c) ∉ acc) → (∀ x c, (x, c) ∈ acc → acc.lookup x = some c) → ∀ x c, (x, c) ∈ cellsFrom k names acc → (cellsFrom k names acc).lookup x = some c
  | [], _, _, _, _, h, x, c, m => h x c m
  | (y, kd) :: r, k, acc, hn, hd, h, x, c, m => by
    simp only [List.map_cons, nodupS, Bool.and_eq_true, Bool.not_eq_true'] at hn
    unfold cellsFrom at m ⊢
    split at m
    · rename_i hk
      rw [if_pos hk]
      refine cells_mem hn.2 (fun z hz c' q => ?_) (fun z c' hz => ?_) x c m
      · rcases List.mem_cons.mp q with e | q
        · have e1 : z.1 = y := (Prod.mk.inj e).1
          have : y ∈ r.map (·.1) := List.mem_map.mpr ⟨z, hz, e1⟩
          have q' := hn.1
          rw [List.contains_iff_mem.mpr this] at q'; cases q'
        · exact hd z (.tail _ hz) c' q
      · rw [List.lookup_cons]
        rcases List.mem_cons.mp hz with e | hz2
        · cases e; simp
        · have : (z == y) = false := by
            rw [beq_eq_false_iff_ne]; intro e
            exact hd (y, kd) (.head _) c' (e ▸ hz2)
          rw [this]; exact h z c' hz2
    · rename_i hk
      rw [if_neg hk]
      exact cells_mem hn.2 (fun z hz c' q => hd z (.tail _ hz) c' q) h x c m

theorem Post.narrow {own : Addr → Prop} {σ σ' : AHeap} {s s' : Shared} (p : Post h0 own σ s σ' s') (h : ∀ a, own a → s.heap.get? a = none) : Post h0 nobody σ s σ' s' :=
  ⟨p.sat, fun a o e h1 _ => p.keep a o e h1 fun q => (by rw [h a q] at e; cases e), p.live, p.dom, p.os, p.gens⟩

include G in
theorem fn_sem {f : Addr} {name qual : Str} {params : Arguments} {scope : Scope} {dV kV doc pm cdv ct oc : Value} {an od : Option Addr} {osl : Array (Option Value)} {nm : List Str} {bd : Sts} {k : Nat} {vs : List V} {σ : AHeap} {Q : V → AHeap → Prop}
    (ho : K.lookup f = some ⟨oc, od, .func (fnOf name qual params (trSs nm bd) scope dV kV doc pm an cdv ct), osl⟩) (hcd : codeIn K cdv qual = true)
    (hk : scope.kind = .function) (hsn : nodupS (scope.names.map (·.1)) = true) (hco : scope.isCoroutine = false) (hgen : scope.isGenerator = false) (hnd : nodupS nm = true) (hnd' : nodupS (nm.take k) = true) (hok : okSs (fun x => scope.names.lookup x) nm bd = true)
    (hbind : ∀ vals : List Value, vals.length = k → bindArgs (fnOf name qual params (trSs nm bd) scope dV kV doc pm an cdv ct) ⟨vals, []⟩ = pure ((nm.take k).zip vals))
    (hpar : (nm.take k).all (fun x => scope.names.lookup x == some .local || scope.names.lookup x == some .cell) = true) (hkl : k ≤ nm.length) (hv : vs.length = k)
    (h : wpSs (Bs h0) (SemCall prog w K h0 n) bd (entry nm.length vs) σ (fun _ σ => Q .none σ) Q) : SemCall prog w K h0 (n + 1) (.ref f) vs σ Q := by
  refine ⟨f, rfl, by unfold keepIn; dsimp only; rw [show List.lookup f K = _ from ho], fun A s vals R kk hvs => ?_⟩
  have X := G.X.keeps kk.base
  have hvl : vals.length = k := by rw [← hv, ← hvs, List.length_map]
  have hpar' : ∀ x ∈ nm.take k, scope.names.lookup x = some .local ∨ scope.names.lookup x = some .cell := fun x hx => by
    have := List.all_eq_true.mp hpar x hx
    simpa using this
  refine codeAny_call_cells (fd := fnOf name qual params (trSs nm bd) scope dV kV doc pm an cdv ct) (body := trSs nm bd) (binds := (nm.take k).zip vals) (by have := R.depth; show _ < 1000; omega) (X _ _ ho) rfl (G.lim.keeps kk.base) (codeRec_of X hcd) rfl (hbind vals hvl) rfl
    (fun x hx => ?_) (fun s1 x => ?_) hco hgen hk
  · have hm : x.1 ∈ nm.take k := (List.of_mem_zip hx).1
    rcases hpar' _ hm with q | q
    · exact .inl q
    · exact .inr ⟨q, cells_has (mem_of_lookup (α := NameKind) q)⟩
  generalize he : callEnvC (fnOf name qual params (trSs nm bd) scope dV kV doc pm an cdv ct) s.heap.objs.size f = env at x ⊢
  have hkd : env.kindOf = fun x => scope.names.lookup x := by rw [← he]; rfl
  have hL : s.heap.get? env.locals = none := by rw [← he]; exact get?_size _
  have hLs : env.locals = s.heap.objs.size := by rw [← he]; rfl
  have hcs : ∀ x c, (x, c) ∈ env.cells → s.heap.get? c = none := fun y c hc => by
    have := x.above y c hc
    cases e : s.heap.get? c with
    | none => rfl
    | some o => have lt := Heap.lt_size e; rw [hLs] at this; exact absurd (Nat.lt_trans this lt) (Nat.lt_irrefl _)
  have own : ∀ a, ownOfEnv env a → s.heap.get? a = none := fun a ha => by
    rcases ha with rfl | ⟨y, hc⟩
    · exact hL
    · exact hcs y a hc
  have eo : EnvOk h0 env := by
    refine ⟨by rw [← he]; exact hk, by rw [← he]; rfl, by rw [← he]; rfl, kk.bs hL, fun y c hc => kk.bs (hcs y c hc), fun y hy => ?_, fun y c hc q => ?_⟩
    · rw [hkd] at hy
      have := cells_has (k := s.heap.objs.size + 1) (acc := []) (mem_of_lookup (α := NameKind) hy)
      rw [← he]
      exact Option.isSome_iff_exists.mp this
    · have := x.above y c hc; rw [q] at this; exact Nat.lt_irrefl _ this
  have ap : Apart env := fun y z c h1 h2 => name_of_addr x.apart (mem_of_lookup h1) (mem_of_lookup h2)
  have P1 : Post h0 nobody σ s σ s1 := by
    obtain ⟨h', tk, rfl, hkp⟩ := x.done
    exact .junk kk hkp
  have F : Fm env nm (entry nm.length vs) σ s1.heap := by
    have pick : ∀ (i : Nat) y v, nm[i]? = some y → (entry nm.length vs).getD i none = some v → ∃ u, (nm.take k)[i]? = some y ∧ vals[i]? = some u ∧ abst u = v := fun i y v e1 e2 => by
      have e3 := entry_get e2
      rw [← hvs, List.getElem?_map] at e3
      obtain ⟨u, hu, eu⟩ := Option.map_eq_some_iff.mp e3
      have lt : i < k := by
        rcases Nat.lt_or_ge i k with q | q
        · exact q
        · rw [List.getElem?_eq_none (show vals.length ≤ i by omega)] at hu; cases hu
      exact ⟨u, by rw [List.getElem?_take, if_pos lt]; exact e1, hu, eu⟩
    refine ⟨⟨_, x.toInCall.ns, fun i y v e1 e2 e3 => ?_⟩, fun i y v e1 e2 e3 => ?_, fun y c hc => ?_, fun a ha => kk.fresh (own a ha)⟩
    · obtain ⟨u, h1, h2, h3⟩ := pick i y v e1 e3
      exact ⟨u, bindL_at hnd' h1 h2 e2, h3⟩
    · obtain ⟨u, h1, h2, h3⟩ := pick i y v e1 e3
      obtain ⟨c, hc⟩ := eo.lk y e2
      refine ⟨c, u, hc, ?_, h3⟩
      have := x.cell y c hc
      rwa [bindC_at hnd' h1 h2 (by rw [e2]; decide)] at this
    · refine ⟨_, x.cell y c ?_⟩
      rw [← he] at hc ⊢
      exact cells_mem (acc := []) hsn (fun _ _ _ q => nomatch q) (fun _ _ q => nomatch q) y c hc
  have R1 : Room (A.deeper env) n := ⟨by have := R.depth; show A.depth + 1 + n ≤ 900; omega, by have := R.units; show A.units + 3 + 100 * n ≤ 5000; omega, R.handled⟩
  refine wpAny_mono (sndSs G bd (N := fun _ σ => Q .none σ) (Rt := Q) (by rw [hkd]; exact hok) hnd eo ap R1 (kk.post0 P1) F h) (fun fl s2 r => ?_) fun _ _ e => e
  cases fl with
  | next =>
    obtain ⟨ρ', σ', h1, _, P2⟩ := r
    exact ⟨_, σ', rfl, h1, (P1.wide.trans P2).narrow own⟩
  | ret v =>
    obtain ⟨σ', h1, P2⟩ := r
    exact ⟨_, σ', rfl, h1, (P1.wide.trans P2).narrow own⟩
  | _ => exact r.elim
end
end Mine
end
section
set_option maxRecDepth 100000
namespace Mine
open PySem PySem.W PyProof.Rows PySem.Calls

section
variable {h0 : Heap} {prog : Program} {w : World} {K : Frag} {mg mb : Str → Option Value} (G : Gd K h0 mg mb) {n : Nat}

include G in
theorem cls_sem {fI : Addr} {vs : List V} {σ : AHeap} {Q : V → AHeap → Prop} (hm : makesIn K LAT = true) (hkp : keepIn K (.ref LAT) = true) (hi : findIn K (.ref LAT) "__init__" = some (some (.ref fI))) (hf : typeIn K (.ref fI) = some (.type "function"))
    (h : ∀ x dx σ', Bs h0 x → Bs h0 dx → σ x = none → σ dx = none → x ≠ dx → Ext σ σ' → σ' x = some (.inst dx) → σ' dx = some (.dict []) → SemCall prog w K h0 n (.ref fI) (.ref x :: vs) σ' fun v σ'' => v = .none ∧ Q (.ref x) σ'') :
    SemCall prog w K h0 (n + 1) (.ref LAT) vs σ Q := by
  refine ⟨LAT, rfl, hkp, fun A s vals R k hvs => ?_⟩
  have X := G.X.keeps k.base
  obtain ⟨hh, g, d, t, os⟩ := s
  have f1 : hh.get? hh.objs.size = none := get?_size _
  have f2 : (hh.push emptyDict).get? (hh.objs.size + 1) = none := by
    have := get?_size (hh.push emptyDict); rwa [Heap.size_push] at this
  have f2' : hh.get? (hh.objs.size + 1) = none := by
    cases e : hh.get? (hh.objs.size + 1) with
    | none => rfl
    | some o => rw [Heap.get?_push_of_some _ e] at f2; cases f2
  have k1 := Post.alloc (own := nobody) (ob := emptyDict) (o := .dict []) k ⟨[], 0, Heap.get?_push_size _ rfl, ⟨rfl, fun i e he => by simp at he⟩, by simp⟩
  have ok1 := k.post0 k1
  have e2 : ((hh.push emptyDict).push (instObj LAT hh.objs.size)).get? (hh.objs.size + 1) = some (instObj LAT hh.objs.size) := by
    have := Heap.get?_push_size (hh.push emptyDict) (o := instObj LAT hh.objs.size) rfl
    rwa [Heap.size_push] at this
  have k2 := Post.made (own := nobody) (tk := t) (h' := (hh.push emptyDict).push (instObj LAT hh.objs.size)) (r := hh.objs.size + 1) (o := .inst hh.objs.size) ok1 (fun b ob e => Heap.get?_push_of_some _ e) f2 e2
  have ok2 := ok1.post0 k2
  have P := k1.trans k2
  have hne : hh.objs.size + 1 ≠ hh.objs.size := Nat.succ_ne_self _
  obtain ⟨a, ea, hka, hc⟩ := h (hh.objs.size + 1) hh.objs.size _ (k.bs f2') (k.bs f1) (k.fresh f2') (k.fresh f1) hne
    (fun b o e => by
      have := ext_put (o := .inst hh.objs.size) (σ := σ.put hh.objs.size (.dict [])) (a := hh.objs.size + 1) (by rw [AHeap.put_ne _ _ hne]; exact k.fresh f2') b o (ext_put (k.fresh f1) b o e)
      exact this) (AHeap.put_self ..) (by rw [AHeap.put_ne _ _ (Ne.symm hne)]; exact AHeap.put_self ..)
  cases ea
  refine make_core (makes_of X hm) (looks_findIn X hi) (fun self => bind_fn X self hf) (.inl rfl) ?_
  have w1 : Code.weight (.builtin "type.__call__" ⟨.ref LAT :: vals, []⟩) = 1 := by kernel_rfl
  have w2 : Code.cUnits (.builtin "type.__call__" ⟨.ref LAT :: vals, []⟩) ≤ 97 := by
    have : Code.cUnits (.builtin "type.__call__" ⟨.ref LAT :: vals, []⟩) = 1 := by kernel_rfl
    omega
  have R1 : Room (A.under (.builtin "type.__call__" ⟨.ref LAT :: vals, []⟩)) n := ⟨by have := R.depth; show A.depth + Code.weight _ + n ≤ 900; omega, by have := R.units; show A.units + Code.cUnits _ + 100 * n ≤ 5000; omega, R.handled⟩
  refine codeAny_mono (hc _ _ (.ref (hh.objs.size + 1) :: vals) R1 ok2 (by rw [List.map_cons, hvs]; rfl)) fun r s' ⟨v, σ', er, ⟨hv, hq⟩, p⟩ => ?_
  subst er
  exact ⟨abst_none hv, _, σ', rfl, hq, P.trans p⟩
end
end Mine
end
section
set_option maxRecDepth 100000
namespace Mine
open PySem PySem.W PyProof.Rows PySem.Calls

def FnAt (K : Frag) (f : Addr) (nm : List Str) (bd : Sts) (k : Nat) : Prop :=
  ∃ (oc : Value) (od : Option Addr) (osl : Array (Option Value)) (name qual : Str) (params : Arguments) (scope : Scope) (dV kV doc pm : Value) (an : Option Addr) (cdv ct : Value),
    K.lookup f = some ⟨oc, od, .func (fnOf name qual params (trSs nm bd) scope dV kV doc pm an cdv ct), osl⟩ ∧ codeIn K cdv qual = true ∧
    (scope.kind = .function ∧ nodupS (scope.names.map (·.1)) = true ∧ scope.isCoroutine = false ∧ scope.isGenerator = false ∧ nodupS nm = true ∧ nodupS (nm.take k) = true ∧ okSs (fun x => scope.names.lookup x) nm bd = true ∧
      (nm.take k).all (fun x => scope.names.lookup x == some .local || scope.names.lookup x == some .cell) = true ∧ k ≤ nm.length) ∧
    (∀ vals : List Value, vals.length = k → bindArgs (fnOf name qual params (trSs nm bd) scope dV kV doc pm an cdv ct) ⟨vals, []⟩ = pure ((nm.take k).zip vals))

section
variable {h0 : Heap} {prog : Program} {w : World} {K : Frag} {mg mb : Str → Option Value} (G : Gd K h0 mg mb) {n : Nat}
include G in
theorem fn_call {f : Addr} {nm : List Str} {bd : Sts} {k : Nat} {vs : List V} {σ : AHeap} {Q : V → AHeap → Prop} (H : FnAt K f nm bd k) (hv : vs.length = k)
    (h : wpSs (Bs h0) (SemCall prog w K h0 n) bd (entry nm.length vs) σ (fun _ σ => Q .none σ) Q) : SemCall prog w K h0 (n + 1) (.ref f) vs σ Q := by
  obtain ⟨oc, od, osl, name, qual, params, scope, dV, kV, doc, pm, an, cdv, ct, h1, h2, ⟨a1, a2, a3, a4, a5, a6, a7, a8, a9⟩, h3⟩ := H
  exact fn_sem G h1 h2 a1 a2 a3 a4 a5 a6 a7 h3 a8 a9 hv h
end
end Mine
end
section
set_option maxRecDepth 100000
namespace Mine
open PySem PySem.W PyProof.Rows PySem.Calls
theorem at_normal (P : Params) : FnAt (hd.heap_39 P) 58 nm_normal bd_normal 1 := by
  refine ⟨_, _, _, _, _, _, _, _, _, _, _, _, _, _, rfl, rfl, ⟨rfl, rfl, rfl, rfl, rfl, rfl, rfl, rfl, by decide⟩, fun vals h => ?_⟩
  match vals, h with
  | [a0], _ => rfl
theorem at_nat_of (P : Params) : FnAt (hd.heap_39 P) 65 nm_nat_of bd_nat_of 2 := by
  refine ⟨_, _, _, _, _, _, _, _, _, _, _, _, _, _, rfl, rfl, ⟨rfl, rfl, rfl, rfl, rfl, rfl, rfl, rfl, by decide⟩, fun vals h => ?_⟩
  match vals, h with
  | [a0, a1], _ => rfl
theorem at_compare (P : Params) : FnAt (hd.heap_39 P) 72 nm_compare bd_compare 2 := by
  refine ⟨_, _, _, _, _, _, _, _, _, _, _, _, _, _, rfl, rfl, ⟨rfl, rfl, rfl, rfl, rfl, rfl, rfl, rfl, by decide⟩, fun vals h => ?_⟩
  match vals, h with
  | [a0, a1], _ => rfl
theorem at_add (P : Params) : FnAt (hd.heap_39 P) 79 nm_add bd_add 3 := by
  refine ⟨_, _, _, _, _, _, _, _, _, _, _, _, _, _, rfl, rfl, ⟨rfl, rfl, rfl, rfl, rfl, rfl, rfl, rfl, by decide⟩, fun vals h => ?_⟩
  match vals, h with
  | [a0, a1, a2], _ => rfl
theorem at_sub (P : Params) : FnAt (hd.heap_39 P) 86 nm_sub bd_sub 3 := by
  refine ⟨_, _, _, _, _, _, _, _, _, _, _, _, _, _, rfl, rfl, ⟨rfl, rfl, rfl, rfl, rfl, rfl, rfl, rfl, by decide⟩, fun vals h => ?_⟩
  match vals, h with
  | [a0, a1, a2], _ => rfl
theorem at_add_limb (P : Params) : FnAt (hd.heap_39 P) 93 nm_add_limb bd_add_limb 3 := by
  refine ⟨_, _, _, _, _, _, _, _, _, _, _, _, _, _, rfl, rfl, ⟨rfl, rfl, rfl, rfl, rfl, rfl, rfl, rfl, by decide⟩, fun vals h => ?_⟩
  match vals, h with
  | [a0, a1, a2], _ => rfl
theorem at_divrem_limb (P : Params) : FnAt (hd.heap_39 P) 100 nm_divrem_limb bd_divrem_limb 3 := by
  refine ⟨_, _, _, _, _, _, _, _, _, _, _, _, _, _, rfl, rfl, ⟨rfl, rfl, rfl, rfl, rfl, rfl, rfl, rfl, by decide⟩, fun vals h => ?_⟩
  match vals, h with
  | [a0, a1, a2], _ => rfl
theorem at_shift_left (P : Params) : FnAt (hd.heap_39 P) 107 nm_shift_left bd_shift_left 3 := by
  refine ⟨_, _, _, _, _, _, _, _, _, _, _, _, _, _, rfl, rfl, ⟨rfl, rfl, rfl, rfl, rfl, rfl, rfl, rfl, by decide⟩, fun vals h => ?_⟩
  match vals, h with
  | [a0, a1, a2], _ => rfl
theorem at_shift_right (P : Params) : FnAt (hd.heap_39 P) 114 nm_shift_right bd_shift_right 3 := by
  refine ⟨_, _, _, _, _, _, _, _, _, _, _, _, _, _, rfl, rfl, ⟨rfl, rfl, rfl, rfl, rfl, rfl, rfl, rfl, by decide⟩, fun vals h => ?_⟩
  match vals, h with
  | [a0, a1, a2], _ => rfl
theorem at_bits (P : Params) : FnAt (hd.heap_39 P) 121 nm_bits bd_bits 2 := by
  refine ⟨_, _, _, _, _, _, _, _, _, _, _, _, _, _, rfl, rfl, ⟨rfl, rfl, rfl, rfl, rfl, rfl, rfl, rfl, by decide⟩, fun vals h => ?_⟩
  match vals, h with
  | [a0, a1], _ => rfl
theorem at_low (P : Params) : FnAt (hd.heap_39 P) 128 nm_low bd_low 3 := by
  refine ⟨_, _, _, _, _, _, _, _, _, _, _, _, _, _, rfl, rfl, ⟨rfl, rfl, rfl, rfl, rfl, rfl, rfl, rfl, by decide⟩, fun vals h => ?_⟩
  match vals, h with
  | [a0, a1, a2], _ => rfl
theorem at_signed (P : Params) : FnAt (hd.heap_39 P) 135 nm_signed bd_signed 2 := by
  refine ⟨_, _, _, _, _, _, _, _, _, _, _, _, _, _, rfl, rfl, ⟨rfl, rfl, rfl, rfl, rfl, rfl, rfl, rfl, by decide⟩, fun vals h => ?_⟩
  match vals, h with
  | [a0, a1], _ => rfl
theorem at_s_of (P : Params) : FnAt (hd.heap_39 P) 142 nm_s_of bd_s_of 2 := by
  refine ⟨_, _, _, _, _, _, _, _, _, _, _, _, _, _, rfl, rfl, ⟨rfl, rfl, rfl, rfl, rfl, rfl, rfl, rfl, by decide⟩, fun vals h => ?_⟩
  match vals, h with
  | [a0, a1], _ => rfl
theorem at_s_neg (P : Params) : FnAt (hd.heap_39 P) 149 nm_s_neg bd_s_neg 1 := by
  refine ⟨_, _, _, _, _, _, _, _, _, _, _, _, _, _, rfl, rfl, ⟨rfl, rfl, rfl, rfl, rfl, rfl, rfl, rfl, by decide⟩, fun vals h => ?_⟩
  match vals, h with
  | [a0], _ => rfl
theorem at_s_abs (P : Params) : FnAt (hd.heap_39 P) 156 nm_s_abs bd_s_abs 1 := by
  refine ⟨_, _, _, _, _, _, _, _, _, _, _, _, _, _, rfl, rfl, ⟨rfl, rfl, rfl, rfl, rfl, rfl, rfl, rfl, by decide⟩, fun vals h => ?_⟩
  match vals, h with
  | [a0], _ => rfl
theorem at_s_sign (P : Params) : FnAt (hd.heap_39 P) 163 nm_s_sign bd_s_sign 1 := by
  refine ⟨_, _, _, _, _, _, _, _, _, _, _, _, _, _, rfl, rfl, ⟨rfl, rfl, rfl, rfl, rfl, rfl, rfl, rfl, by decide⟩, fun vals h => ?_⟩
  match vals, h with
  | [a0], _ => rfl
theorem at_s_compare (P : Params) : FnAt (hd.heap_39 P) 170 nm_s_compare bd_s_compare 2 := by
  refine ⟨_, _, _, _, _, _, _, _, _, _, _, _, _, _, rfl, rfl, ⟨rfl, rfl, rfl, rfl, rfl, rfl, rfl, rfl, by decide⟩, fun vals h => ?_⟩
  match vals, h with
  | [a0, a1], _ => rfl
theorem at_s_add (P : Params) : FnAt (hd.heap_39 P) 177 nm_s_add bd_s_add 3 := by
  refine ⟨_, _, _, _, _, _, _, _, _, _, _, _, _, _, rfl, rfl, ⟨rfl, rfl, rfl, rfl, rfl, rfl, rfl, rfl, by decide⟩, fun vals h => ?_⟩
  match vals, h with
  | [a0, a1, a2], _ => rfl
theorem at_s_sub (P : Params) : FnAt (hd.heap_39 P) 184 nm_s_sub bd_s_sub 3 := by
  refine ⟨_, _, _, _, _, _, _, _, _, _, _, _, _, _, rfl, rfl, ⟨rfl, rfl, rfl, rfl, rfl, rfl, rfl, rfl, by decide⟩, fun vals h => ?_⟩
  match vals, h with
  | [a0, a1, a2], _ => rfl
theorem at_s_mul (P : Params) : FnAt (hd.heap_39 P) 191 nm_s_mul bd_s_mul 4 := by
  refine ⟨_, _, _, _, _, _, _, _, _, _, _, _, _, _, rfl, rfl, ⟨rfl, rfl, rfl, rfl, rfl, rfl, rfl, rfl, by decide⟩, fun vals h => ?_⟩
  match vals, h with
  | [a0, a1, a2, a3], _ => rfl
theorem at_tdiv (P : Params) : FnAt (hd.heap_39 P) 198 nm_tdiv bd_tdiv 4 := by
  refine ⟨_, _, _, _, _, _, _, _, _, _, _, _, _, _, rfl, rfl, ⟨rfl, rfl, rfl, rfl, rfl, rfl, rfl, rfl, by decide⟩, fun vals h => ?_⟩
  match vals, h with
  | [a0, a1, a2, a3], _ => rfl
theorem at_fdiv (P : Params) : FnAt (hd.heap_39 P) 205 nm_fdiv bd_fdiv 4 := by
  refine ⟨_, _, _, _, _, _, _, _, _, _, _, _, _, _, rfl, rfl, ⟨rfl, rfl, rfl, rfl, rfl, rfl, rfl, rfl, by decide⟩, fun vals h => ?_⟩
  match vals, h with
  | [a0, a1, a2, a3], _ => rfl
theorem at_s_shift (P : Params) : FnAt (hd.heap_39 P) 212 nm_s_shift bd_s_shift 3 := by
  refine ⟨_, _, _, _, _, _, _, _, _, _, _, _, _, _, rfl, rfl, ⟨rfl, rfl, rfl, rfl, rfl, rfl, rfl, rfl, by decide⟩, fun vals h => ?_⟩
  match vals, h with
  | [a0, a1, a2], _ => rfl
theorem at_dot (P : Params) : FnAt (hd.heap_39 P) 221 nm_dot bd_dot 4 := by
  refine ⟨_, _, _, _, _, _, _, _, _, _, _, _, _, _, rfl, rfl, ⟨rfl, rfl, rfl, rfl, rfl, rfl, rfl, rfl, by decide⟩, fun vals h => ?_⟩
  match vals, h with
  | [a0, a1, a2, a3], _ => rfl
theorem at_row_less (P : Params) : FnAt (hd.heap_39 P) 226 nm_row_less bd_row_less 5 := by
  refine ⟨_, _, _, _, _, _, _, _, _, _, _, _, _, _, rfl, rfl, ⟨rfl, rfl, rfl, rfl, rfl, rfl, rfl, rfl, by decide⟩, fun vals h => ?_⟩
  match vals, h with
  | [a0, a1, a2, a3, a4], _ => rfl
theorem at_nearest_quotient (P : Params) : FnAt (hd.heap_39 P) 233 nm_nearest_quotient bd_nearest_quotient 4 := by
  refine ⟨_, _, _, _, _, _, _, _, _, _, _, _, _, _, rfl, rfl, ⟨rfl, rfl, rfl, rfl, rfl, rfl, rfl, rfl, by decide⟩, fun vals h => ?_⟩
  match vals, h with
  | [a0, a1, a2, a3], _ => rfl
theorem at_L_init__ (P : Params) : FnAt (hd.heap_39 P) 245 nm_L_init__ bd_L_init__ 7 := by
  refine ⟨_, _, _, _, _, _, _, _, _, _, _, _, _, _, rfl, rfl, ⟨rfl, rfl, rfl, rfl, rfl, rfl, rfl, rfl, by decide⟩, fun vals h => ?_⟩
  match vals, h with
  | [a0, a1, a2, a3, a4, a5, a6], _ => rfl
theorem at_L_product_of (P : Params) : FnAt (hd.heap_39 P) 252 nm_L_product_of bd_L_product_of 3 := by
  refine ⟨_, _, _, _, _, _, _, _, _, _, _, _, _, _, rfl, rfl, ⟨rfl, rfl, rfl, rfl, rfl, rfl, rfl, rfl, by decide⟩, fun vals h => ?_⟩
  match vals, h with
  | [a0, a1, a2], _ => rfl
theorem at_L_exact (P : Params) : FnAt (hd.heap_39 P) 259 nm_L_exact bd_L_exact 3 := by
  refine ⟨_, _, _, _, _, _, _, _, _, _, _, _, _, _, rfl, rfl, ⟨rfl, rfl, rfl, rfl, rfl, rfl, rfl, rfl, by decide⟩, fun vals h => ?_⟩
  match vals, h with
  | [a0, a1, a2], _ => rfl
theorem at_L_crossed (P : Params) : FnAt (hd.heap_39 P) 266 nm_L_crossed bd_L_crossed 5 := by
  refine ⟨_, _, _, _, _, _, _, _, _, _, _, _, _, _, rfl, rfl, ⟨rfl, rfl, rfl, rfl, rfl, rfl, rfl, rfl, by decide⟩, fun vals h => ?_⟩
  match vals, h with
  | [a0, a1, a2, a3, a4], _ => rfl
theorem at_L_take_in (P : Params) : FnAt (hd.heap_39 P) 273 nm_L_take_in bd_L_take_in 2 := by
  refine ⟨_, _, _, _, _, _, _, _, _, _, _, _, _, _, rfl, rfl, ⟨rfl, rfl, rfl, rfl, rfl, rfl, rfl, rfl, by decide⟩, fun vals h => ?_⟩
  match vals, h with
  | [a0, a1], _ => rfl
theorem at_L_shorten (P : Params) : FnAt (hd.heap_39 P) 280 nm_L_shorten bd_L_shorten 3 := by
  refine ⟨_, _, _, _, _, _, _, _, _, _, _, _, _, _, rfl, rfl, ⟨rfl, rfl, rfl, rfl, rfl, rfl, rfl, rfl, by decide⟩, fun vals h => ?_⟩
  match vals, h with
  | [a0, a1, a2], _ => rfl
theorem at_L_is_upright (P : Params) : FnAt (hd.heap_39 P) 287 nm_L_is_upright bd_L_is_upright 2 := by
  refine ⟨_, _, _, _, _, _, _, _, _, _, _, _, _, _, rfl, rfl, ⟨rfl, rfl, rfl, rfl, rfl, rfl, rfl, rfl, by decide⟩, fun vals h => ?_⟩
  match vals, h with
  | [a0, a1], _ => rfl
theorem at_L_exchange (P : Params) : FnAt (hd.heap_39 P) 294 nm_L_exchange bd_L_exchange 2 := by
  refine ⟨_, _, _, _, _, _, _, _, _, _, _, _, _, _, rfl, rfl, ⟨rfl, rfl, rfl, rfl, rfl, rfl, rfl, rfl, by decide⟩, fun vals h => ?_⟩
  match vals, h with
  | [a0, a1], _ => rfl
theorem at_L_run (P : Params) : FnAt (hd.heap_39 P) 301 nm_L_run bd_L_run 1 := by
  refine ⟨_, _, _, _, _, _, _, _, _, _, _, _, _, _, rfl, rfl, ⟨rfl, rfl, rfl, rfl, rfl, rfl, rfl, rfl, by decide⟩, fun vals h => ?_⟩
  match vals, h with
  | [a0], _ => rfl
theorem at_mul_school (P : Params) : FnAt (hd.heap_39 P) 315 nm_mul_school bd_mul_school 3 := by
  refine ⟨_, _, _, _, _, _, _, _, _, _, _, _, _, _, rfl, rfl, ⟨rfl, rfl, rfl, rfl, rfl, rfl, rfl, rfl, by decide⟩, fun vals h => ?_⟩
  match vals, h with
  | [a0, a1, a2], _ => rfl
theorem at_divrem_small (P : Params) : FnAt (hd.heap_39 P) 322 nm_divrem_small bd_divrem_small 3 := by
  refine ⟨_, _, _, _, _, _, _, _, _, _, _, _, _, _, rfl, rfl, ⟨rfl, rfl, rfl, rfl, rfl, rfl, rfl, rfl, by decide⟩, fun vals h => ?_⟩
  match vals, h with
  | [a0, a1, a2], _ => rfl
theorem at_guessed_limb (P : Params) : FnAt (hd.heap_39 P) 329 nm_guessed_limb bd_guessed_limb 4 := by
  refine ⟨_, _, _, _, _, _, _, _, _, _, _, _, _, _, rfl, rfl, ⟨rfl, rfl, rfl, rfl, rfl, rfl, rfl, rfl, by decide⟩, fun vals h => ?_⟩
  match vals, h with
  | [a0, a1, a2, a3], _ => rfl
theorem at_take_away (P : Params) : FnAt (hd.heap_39 P) 336 nm_take_away bd_take_away 5 := by
  refine ⟨_, _, _, _, _, _, _, _, _, _, _, _, _, _, rfl, rfl, ⟨rfl, rfl, rfl, rfl, rfl, rfl, rfl, rfl, by decide⟩, fun vals h => ?_⟩
  match vals, h with
  | [a0, a1, a2, a3, a4], _ => rfl
theorem at_put_back (P : Params) : FnAt (hd.heap_39 P) 343 nm_put_back bd_put_back 4 := by
  refine ⟨_, _, _, _, _, _, _, _, _, _, _, _, _, _, rfl, rfl, ⟨rfl, rfl, rfl, rfl, rfl, rfl, rfl, rfl, by decide⟩, fun vals h => ?_⟩
  match vals, h with
  | [a0, a1, a2, a3], _ => rfl
theorem at_divide_rows (P : Params) : FnAt (hd.heap_39 P) 350 nm_divide_rows bd_divide_rows 3 := by
  refine ⟨_, _, _, _, _, _, _, _, _, _, _, _, _, _, rfl, rfl, ⟨rfl, rfl, rfl, rfl, rfl, rfl, rfl, rfl, by decide⟩, fun vals h => ?_⟩
  match vals, h with
  | [a0, a1, a2], _ => rfl
theorem at_divrem_school (P : Params) : FnAt (hd.heap_39 P) 357 nm_divrem_school bd_divrem_school 3 := by
  refine ⟨_, _, _, _, _, _, _, _, _, _, _, _, _, _, rfl, rfl, ⟨rfl, rfl, rfl, rfl, rfl, rfl, rfl, rfl, by decide⟩, fun vals h => ?_⟩
  match vals, h with
  | [a0, a1, a2], _ => rfl
theorem at_law_raked (P : Params) : FnAt (hd.heap_39 P) 364 nm_law_raked bd_law_raked 2 := by
  refine ⟨_, _, _, _, _, _, _, _, _, _, _, _, _, _, rfl, rfl, ⟨rfl, rfl, rfl, rfl, rfl, rfl, rfl, rfl, by decide⟩, fun vals h => ?_⟩
  match vals, h with
  | [a0, a1], _ => rfl
theorem at_law_signed (P : Params) : FnAt (hd.heap_39 P) 371 nm_law_signed bd_law_signed 1 := by
  refine ⟨_, _, _, _, _, _, _, _, _, _, _, _, _, _, rfl, rfl, ⟨rfl, rfl, rfl, rfl, rfl, rfl, rfl, rfl, by decide⟩, fun vals h => ?_⟩
  match vals, h with
  | [a0], _ => rfl
theorem at_law_plain (P : Params) : FnAt (hd.heap_39 P) 376 nm_law_plain bd_law_plain 1 := by
  refine ⟨_, _, _, _, _, _, _, _, _, _, _, _, _, _, rfl, rfl, ⟨rfl, rfl, rfl, rfl, rfl, rfl, rfl, rfl, by decide⟩, fun vals h => ?_⟩
  match vals, h with
  | [a0], _ => rfl
theorem at_law_worth (P : Params) : FnAt (hd.heap_39 P) 381 nm_law_worth bd_law_worth 1 := by
  refine ⟨_, _, _, _, _, _, _, _, _, _, _, _, _, _, rfl, rfl, ⟨rfl, rfl, rfl, rfl, rfl, rfl, rfl, rfl, by decide⟩, fun vals h => ?_⟩
  match vals, h with
  | [a0], _ => rfl
theorem at_law_is_same (P : Params) : FnAt (hd.heap_39 P) 386 nm_law_is_same bd_law_is_same 3 := by
  refine ⟨_, _, _, _, _, _, _, _, _, _, _, _, _, _, rfl, rfl, ⟨rfl, rfl, rfl, rfl, rfl, rfl, rfl, rfl, by decide⟩, fun vals h => ?_⟩
  match vals, h with
  | [a0, a1, a2], _ => rfl
theorem at_law_sizes (P : Params) : FnAt (hd.heap_39 P) 391 nm_law_sizes bd_law_sizes 1 := by
  refine ⟨_, _, _, _, _, _, _, _, _, _, _, _, _, _, rfl, rfl, ⟨rfl, rfl, rfl, rfl, rfl, rfl, rfl, rfl, by decide⟩, fun vals h => ?_⟩
  match vals, h with
  | [a0], _ => rfl
theorem at_law_product (P : Params) : FnAt (hd.heap_39 P) 398 nm_law_product bd_law_product 1 := by
  refine ⟨_, _, _, _, _, _, _, _, _, _, _, _, _, _, rfl, rfl, ⟨rfl, rfl, rfl, rfl, rfl, rfl, rfl, rfl, by decide⟩, fun vals h => ?_⟩
  match vals, h with
  | [a0], _ => rfl
end Mine
end
section
set_option maxRecDepth 100000
namespace Mine
open PySem PySem.W PyProof.Rows PySem.Calls

theorem lookup_all {α β : Type} [BEq α] [LawfulBEq α] {P : α → β → Prop} : ∀ {l : List (α × β)} {x : α} {a : β}, l.lookup x = some a → (∀ y ∈ l, P y.1 y.2) → P x a
  | (y, b) :: l, x, a, h, hp => by
    rw [List.lookup_cons] at h
    cases hx : x == y with
    | true => rw [hx] at h; cases h; rw [beq_iff_eq.mp hx]; exact hp _ (.head _)
    | false => rw [hx] at h; exact lookup_all h fun z hz => hp z (.tail _ hz)

theorem kf_glo (P : Params) : ∀ y ∈ GT, nsIn (hd.heap_39 P) mainGlobals y.1 = some (some (.ref y.2)) := by
  intro y hy
  unfold GT GT0 at hy
  simp only [List.map_cons, List.map_nil, List.mem_cons, List.not_mem_nil, or_false] at hy
  rcases hy with rfl | rfl | rfl | rfl | rfl | rfl | rfl | rfl | rfl | rfl | rfl | rfl | rfl | rfl | rfl | rfl | rfl | rfl | rfl | rfl | rfl | rfl | rfl | rfl | rfl | rfl | rfl | rfl | rfl | rfl | rfl | rfl | rfl | rfl | rfl | rfl | rfl | rfl | rfl | rfl | rfl | rfl | rfl | rfl <;> rfl

theorem kf_meth (P : Params) : ∀ y ∈ MT, findIn (hd.heap_39 P) (.ref LAT) y.1 = some (some (.ref y.2)) ∧ typeIn (hd.heap_39 P) (.ref y.2) = some (.type "function") := by
  intro y hy
  unfold MT at hy
  simp only [List.mem_cons, List.not_mem_nil, or_false] at hy
  rcases hy with rfl | rfl | rfl | rfl | rfl | rfl | rfl | rfl <;> exact ⟨rfl, rfl⟩

theorem kf (P : Params) : KF (hd.heap_39 P) where
  glo := fun x a h => lookup_all (P := fun x a => nsIn (hd.heap_39 P) mainGlobals x = some (some (.ref a))) h (kf_glo P)
  bfs := fun b => by cases b <;> rfl
  rng := rfl
  enu := rfl
  zip := rfl
  meth := fun x f h => lookup_all (P := fun x f => findIn (hd.heap_39 P) (.ref LAT) x = some (some (.ref f)) ∧ typeIn (hd.heap_39 P) (.ref f) = some (.type "function")) h (kf_meth P)
  ga := rfl
  gat := rfl
  hd := rfl
  fld := fun k hk => by
    match k, hk with
    | 0, _ | 1, _ | 2, _ | 3, _ | 4, _ | 5, _ | 6, _ | 7, _ => rfl
  setA := rfl
  over := rfl
theorem k_makes (P : Params) : makesIn (hd.heap_39 P) LAT = true := rfl
theorem k_keeps (P : Params) : keepIn (hd.heap_39 P) (.ref LAT) = true := rfl
theorem k_init (P : Params) : findIn (hd.heap_39 P) (.ref LAT) "__init__" = some (some (.ref 245)) := rfl
theorem k_initT (P : Params) : typeIn (hd.heap_39 P) (.ref 245) = some (.type "function") := rfl
end Mine
end
section
set_option maxRecDepth 100000
namespace Mine
open PySem PySem.W PyProof.Rows PySem.Calls

theorem SemCall.up {prog : Program} {w : World} {K : Frag} {h0 : Heap} {n m : Nat} {f : V} {vs : List V} {σ : AHeap} {Q : V → AHeap → Prop} (h : SemCall prog w K h0 n f vs σ Q) (hm : n ≤ m) : SemCall prog w K h0 m f vs σ Q := by
  obtain ⟨a, e, k, hc⟩ := h
  exact ⟨a, e, k, fun A s vals R => hc A s vals ⟨by have := R.depth; omega, by have := R.units; omega, R.handled⟩⟩

noncomputable abbrev KK (w : World) : Frag := hd.heap_39 w.params
@[irreducible] def CC (prog : Program) (w : World) (h0 : Heap) (n : Nat) : V → List V → AHeap → (V → AHeap → Prop) → Prop := SemCall prog w (KK w) h0 n
theorem CC_eq {prog : Program} {w : World} {h0 : Heap} {n : Nat} : CC prog w h0 n = SemCall prog w (KK w) h0 n := by unfold CC; rfl
theorem CC.up {prog : Program} {w : World} {h0 : Heap} {n m : Nat} {f : V} {vs : List V} {σ : AHeap} {Q : V → AHeap → Prop} (h : CC prog w h0 n f vs σ Q) (hm : n ≤ m) : CC prog w h0 m f vs σ Q := by
  rw [CC_eq] at h ⊢; exact SemCall.up h hm

theorem enter {prog : Program} {w : World} {h0 : Heap} {mg mb : Str → Option Value} (G : Gd (KK w) h0 mg mb) {n : Nat} {f : Addr} {nm : List Str} {bd : Sts} {k : Nat} {vs : List V} {σ : AHeap} {Q : V → AHeap → Prop} (ρ : Loc) (H : FnAt (KK w) f nm bd k) (hv : vs.length = k) (hρ : entry nm.length vs = ρ)
    (h : wpSs (Bs h0) (CC prog w h0 n) bd ρ σ (fun _ σ => Q .none σ) Q) : CC prog w h0 (n + 1) (.ref f) vs σ Q :=
  by rw [CC_eq] at h ⊢; exact fn_call G H hv (by rw [hρ]; exact h)


theorem join {P : Loc → AHeap → Prop} {F : (Loc → AHeap → Prop) → Prop} {N0 : Loc → AHeap → Prop} (h : ∀ N, (∀ ρ σ, P ρ σ → N ρ σ) → F N) (hN : ∀ ρ σ, P ρ σ → N0 ρ σ) : F N0 := h N0 hN
theorem joinV {P : V → AHeap → Prop} {F : (V → AHeap → Prop) → Prop} {N0 : V → AHeap → Prop} (h : ∀ N, (∀ v σ, P v σ → N v σ) → F N) (hN : ∀ v σ, P v σ → N0 v σ) : F N0 := h N0 hN

abbrev iL (l : List Int) : AObj := .list (l.map .int)
def gt (l : List Int) (j : Nat) : Int := l.getD j 0
def val : List Int → Int
  | [] => 0
  | d :: r => d + 256 * val r
def Lo (l : List Int) : Prop := ∀ d ∈ l, 0 ≤ d ∧ d < 256
def Nrm (l : List Int) : Prop := Lo l ∧ (l = [] ∨ gt l (l.length - 1) ≠ 0)

theorem gt_eq {l : List Int} {j : Nat} (h : j < l.length) : l[j] = gt l j := by
  unfold gt; rw [List.getD_eq_getElem?_getD, List.getElem?_eq_getElem h]; rfl
theorem gt_some {l : List Int} {j : Nat} (h : j < l.length) : l[j]? = some (gt l j) := by rw [List.getElem?_eq_getElem h, gt_eq]
theorem gt_lo {l : List Int} (h : Lo l) (j : Nat) : 0 ≤ gt l j ∧ gt l j < 256 := by
  rcases Nat.lt_or_ge j l.length with q | q
  · rw [← gt_eq q]; exact h _ (List.getElem_mem _)
  · unfold gt; rw [List.getD_eq_getElem?_getD, List.getElem?_eq_none q]; exact ⟨by decide, by decide⟩
theorem gt_append_left {l m : List Int} {j : Nat} (h : j < l.length) : gt (l ++ m) j = gt l j := by
  unfold gt; rw [List.getD_eq_getElem?_getD, List.getD_eq_getElem?_getD, List.getElem?_append_left h]
theorem gt_append_right {l m : List Int} {j : Nat} (h : l.length ≤ j) : gt (l ++ m) j = gt m (j - l.length) := by
  unfold gt; rw [List.getD_eq_getElem?_getD, List.getD_eq_getElem?_getD, List.getElem?_append_right h]
theorem gt_take {l : List Int} {n j : Nat} (h : j < n) : gt (l.take n) j = gt l j := by
  unfold gt; rw [List.getD_eq_getElem?_getD, List.getD_eq_getElem?_getD, List.getElem?_take, if_pos h]
theorem gt_drop {l : List Int} {n j : Nat} : gt (l.drop n) j = gt l (n + j) := by
  unfold gt; rw [List.getD_eq_getElem?_getD, List.getD_eq_getElem?_getD, List.getElem?_drop]
theorem gt_set_self {l : List Int} {j : Nat} {v : Int} (h : j < l.length) : gt (l.set j v) j = v := by
  unfold gt; rw [List.getD_eq_getElem?_getD, List.getElem?_set_self h]; rfl
theorem gt_set_ne {l : List Int} {i j : Nat} {v : Int} (h : i ≠ j) : gt (l.set i v) j = gt l j := by
  unfold gt; rw [List.getD_eq_getElem?_getD, List.getD_eq_getElem?_getD, List.getElem?_set_ne h]
theorem gt_out {l : List Int} {j : Nat} (h : l.length ≤ j) : gt l j = 0 := by
  unfold gt; rw [List.getD_eq_getElem?_getD, List.getElem?_eq_none h]; rfl
theorem gt_rep {n j : Nat} {v : Int} (h : j < n) : gt (List.replicate n v) j = v := by
  unfold gt; rw [List.getD_eq_getElem?_getD, List.getElem?_replicate, if_pos h]; rfl

theorem val_append (l m : List Int) : val (l ++ m) = val l + 256 ^ l.length * val m := by
  induction l with
  | nil => simp [val]
  | cons d r ih =>
    rw [List.cons_append, val, val, ih, List.length_cons, Int.pow_succ]
    grind
theorem val_take_succ {l : List Int} {j : Nat} (h : j < l.length) : val (l.take (j + 1)) = val (l.take j) + 256 ^ j * gt l j := by
  rw [List.take_succ_eq_append_getElem h, val_append, List.length_take, Nat.min_eq_left (Nat.le_of_lt h), gt_eq]
  simp [val]
theorem val_drop {l : List Int} {j : Nat} (h : j < l.length) : val (l.drop j) = gt l j + 256 * val (l.drop (j + 1)) := by
  rw [List.drop_eq_getElem_cons h, val, gt_eq]
theorem val_split (l : List Int) (j : Nat) (h : j ≤ l.length) : val l = val (l.take j) + 256 ^ j * val (l.drop j) := by
  have := val_append (l.take j) (l.drop j)
  rwa [List.take_append_drop, List.length_take, Nat.min_eq_left h] at this
theorem val_set {l : List Int} {j : Nat} {v : Int} (h : j < l.length) : val (l.set j v) = val l + 256 ^ j * (v - gt l j) := by
  induction l generalizing j with
  | nil => simp at h
  | cons d r ih =>
    cases j with
    | zero => simp [val, gt]; omega
    | succ j =>
      have := ih (j := j) (by simpa using h)
      rw [List.set_cons_succ, val, val, this, Int.pow_succ]
      have : gt (d :: r) (j + 1) = gt r j := rfl
      rw [this]; grind
theorem val_rep_zero (n : Nat) : val (List.replicate n 0) = 0 := by
  induction n with
  | zero => rfl
  | succ n ih => rw [List.replicate_succ, val, ih]; rfl
theorem Lo.nil : Lo [] := fun _ h => nomatch h
theorem Lo.cons {d : Int} {l : List Int} (h : Lo (d :: l)) : (0 ≤ d ∧ d < 256) ∧ Lo l := ⟨h d (.head _), fun x hx => h x (.tail _ hx)⟩
theorem Lo.append {l m : List Int} (h : Lo l) (h' : Lo m) : Lo (l ++ m) := fun d hd => by
  rcases List.mem_append.mp hd with q | q
  · exact h d q
  · exact h' d q
theorem Lo.one {d : Int} (h : 0 ≤ d) (h' : d < 256) : Lo [d] := fun x hx => by rw [List.mem_singleton.mp hx]; exact ⟨h, h'⟩
theorem Lo.take {l : List Int} (h : Lo l) (n : Nat) : Lo (l.take n) := fun d hd => h d (List.mem_of_mem_take hd)
theorem Lo.drop {l : List Int} (h : Lo l) (n : Nat) : Lo (l.drop n) := fun d hd => h d (List.mem_of_mem_drop hd)
theorem Lo.set {l : List Int} (h : Lo l) {j : Nat} {v : Int} (h1 : 0 ≤ v) (h2 : v < 256) : Lo (l.set j v) := fun d hd => by
  rcases List.mem_or_eq_of_mem_set hd with q | q
  · exact h d q
  · subst q; exact ⟨h1, h2⟩
theorem Lo.rep {n : Nat} : Lo (List.replicate n 0) := fun d hd => by rw [List.eq_of_mem_replicate hd]; decide
theorem pow_pos' (n : Nat) : (0 : Int) < 256 ^ n := Int.pow_pos (by decide)
theorem val_nonneg {l : List Int} (h : Lo l) : 0 ≤ val l := by
  induction l with
  | nil => exact Int.le_refl _
  | cons d r ih => have := ih h.cons.2; have := h.cons.1; rw [val]; omega
theorem val_lt {l : List Int} (h : Lo l) : val l < 256 ^ l.length := by
  induction l with
  | nil => decide
  | cons d r ih => have := ih h.cons.2; have := h.cons.1; rw [val, List.length_cons, Int.pow_succ]; omega
theorem Nrm.nil : Nrm [] := ⟨Lo.nil, .inl rfl⟩
theorem Nrm.ge {l : List Int} (h : Nrm l) (hl : l ≠ []) : 256 ^ (l.length - 1) ≤ val l := by
  have hp : 0 < l.length := List.length_pos_iff.mpr hl
  have h1 := val_split l (l.length - 1) (by omega)
  have h2 := val_drop (l := l) (j := l.length - 1) (by omega)
  rw [show l.length - 1 + 1 = l.length by omega, List.drop_length] at h2
  simp only [val] at h2
  have h3 := val_nonneg (h.1.take (l.length - 1))
  have h4 := gt_lo h.1 (l.length - 1)
  have h5 : gt l (l.length - 1) ≠ 0 := h.2.resolve_left hl
  have h6 : (1 : Int) ≤ val (l.drop (l.length - 1)) := by omega
  have := Int.mul_le_mul_of_nonneg_left h6 (Int.le_of_lt (pow_pos' (l.length - 1)))
  omega
theorem Nrm.of_ge {l : List Int} (h : Lo l) (hv : l ≠ [] → 256 ^ (l.length - 1) ≤ val l) : Nrm l := by
  refine ⟨h, ?_⟩
  by_cases hl : l = []
  · exact .inl hl
  · right
    intro h0
    have hp : 0 < l.length := List.length_pos_iff.mpr hl
    have h1 := val_split l (l.length - 1) (by omega)
    have h2 := val_drop (l := l) (j := l.length - 1) (by omega)
    rw [show l.length - 1 + 1 = l.length by omega, List.drop_length, h0] at h2
    simp only [val] at h2
    rw [h2] at h1
    have h3 := val_lt (h.take (l.length - 1))
    rw [List.length_take, Nat.min_eq_left (by omega)] at h3
    have := hv hl
    omega
theorem Nrm.pos {l : List Int} (h : Nrm l) (hl : l ≠ []) : 0 < val l := Int.lt_of_lt_of_le (pow_pos' _) (h.ge hl)
theorem Nrm.zero {l : List Int} (h : Nrm l) (hv : val l = 0) : l = [] := by
  by_cases hl : l = []
  · exact hl
  · have := h.pos hl; omega
theorem pow_le {a b : Nat} (h : a ≤ b) : (256 : Int) ^ a ≤ 256 ^ b := by
  obtain ⟨c, rfl⟩ := Nat.exists_eq_add_of_le h
  rw [Int.pow_add]
  have := pow_pos' c
  have := Int.mul_le_mul_of_nonneg_left (show (1 : Int) ≤ 256 ^ c by omega) (Int.le_of_lt (pow_pos' a))
  omega
theorem Nrm.len_le {l : List Int} (h : Nrm l) {n : Nat} (hv : val l < 256 ^ n) : l.length ≤ n := by
  by_cases hl : l = []
  · subst hl; exact Nat.zero_le _
  · rcases Nat.lt_or_ge n l.length with q | q
    · have := h.ge hl
      have := pow_le (show n ≤ l.length - 1 by omega)
      omega
    · exact q

def IsN (σ : AHeap) (a : Addr) (z : Int) : Prop := ∃ l, σ a = some (iL l) ∧ Nrm l ∧ val l = z
theorem IsN.ext {σ σ' : AHeap} {a : Addr} {z : Int} (h : IsN σ a z) (e : Ext σ σ') : IsN σ' a z := by
  obtain ⟨l, h1, h2⟩ := h; exact ⟨l, e _ _ h1, h2⟩
theorem Ext.refl {σ : AHeap} : Ext σ σ := fun _ _ h => h
theorem Ext.trans {σ σ' σ'' : AHeap} (h : Ext σ σ') (h' : Ext σ' σ'') : Ext σ σ'' := fun a o e => h' a o (h a o e)
theorem Ext.but {σ0 σ σ' : AHeap} {x : Addr} (h : Ext σ0 σ) (h' : ExtBut x σ σ') (hx : σ0 x = none) : Ext σ0 σ' := fun a o e => h' a o (fun q => by rw [q, hx] at e; cases e) (h a o e)
theorem Ext.none {σ0 σ : AHeap} {x : Addr} (h : Ext σ0 σ) (hx : σ x = none) : σ0 x = .none := by
  cases e : σ0 x with
  | none => rfl
  | some o => rw [h x o e] at hx; cases hx
theorem Ext.ne {σ : AHeap} {x y : Addr} {o : AObj} (h : σ x = some o) (hy : σ y = Option.none) : x ≠ y := fun q => by rw [q, hy] at h; cases h

theorem ix {σ : AHeap} {x : Addr} {l : List Int} {n : Int} {Q : V → Prop} (h : σ x = some (iL l)) (j : Nat) (hn : n = (j : Int)) (hj : j < l.length) (q : Q (.int (gt l j))) :
    ∃ xs j v, ((σ x = some (.list xs) ∨ σ x = some (.tup xs)) ∧ seqIdx n xs.length j ∧ xs[j]? = some v) ∧ Q v :=
  ⟨_, j, _, ⟨.inl h, .inl hn, by rw [List.getElem?_map, gt_some hj]; rfl⟩, q⟩
theorem ixL {σ : AHeap} {x : Addr} {l : List V} {n : Int} {Q : V → Prop} (h : σ x = some (.list l)) (j : Nat) (v : V) (hn : n = (j : Int)) (hj : l[j]? = some v) (q : Q v) :
    ∃ xs j v, ((σ x = some (.list xs) ∨ σ x = some (.tup xs)) ∧ seqIdx n xs.length j ∧ xs[j]? = some v) ∧ Q v :=
  ⟨_, j, _, ⟨.inl h, .inl hn, hj⟩, q⟩
theorem ixT {σ : AHeap} {x : Addr} {l : List V} {n : Int} {Q : V → Prop} (h : σ x = some (.tup l)) (j : Nat) (v : V) (hn : n = (j : Int)) (hj : l[j]? = some v) (q : Q v) :
    ∃ xs j v, ((σ x = some (.list xs) ∨ σ x = some (.tup xs)) ∧ seqIdx n xs.length j ∧ xs[j]? = some v) ∧ Q v :=
  ⟨_, j, _, ⟨.inr h, .inl hn, hj⟩, q⟩
theorem bits_le {a : Int} {n : Nat} (h : a.natAbs < 2 ^ n) : bitsI a ≤ n := by
  unfold bitsI Builtin.Int.intBits
  split
  · exact Nat.zero_le _
  · rename_i q
    have q' : a.natAbs ≠ 0 := fun e => q (by simpa using e)
    exact (Nat.log2_lt q').mpr h
theorem bits_small {a : Int} (h1 : -(2 ^ 63) < a) (h2 : a < 2 ^ 63) : bitsI a ≤ 64 := bits_le (by
  have : (2 : Nat) ^ 64 = 18446744073709551616 := rfl
  omega)
theorem mulFits_small {a b : Int} (h1 : -(2 ^ 63) < a) (h2 : a < 2 ^ 63) : mulFits a b := .inl (bits_small h1 h2)
theorem mask_and {a : Int} (h : 0 ≤ a) : Builtin.bitAnd a 255 = a % 256 := by
  unfold Builtin.bitAnd
  rw [decide_eq_true h]
  show ((a.toNat &&& 255 : Nat) : Int) = a % 256
  rw [show (255 : Nat) = 2 ^ 8 - 1 from rfl, Nat.and_two_pow_sub_one_eq_mod]
  omega
theorem shr8 {a : Int} : a.fdiv (2 ^ (Int.toNat 8)) = a / 256 := by
  rw [Int.fdiv_eq_ediv_of_nonneg _ (by decide)]; rfl
end Mine
end
section
set_option maxRecDepth 100000
namespace Mine
open PySem PySem.W PyProof.Rows PySem.Calls

section
variable {h0 : Heap} {prog : Program} {w : World} {mg mb : Str → Option Value} (G : Gd (KK w) h0 mg mb) {n : Nat}

theorem cut_to {l : List Int} {e : Nat} (he : e ≤ l.length) : cut (l.map V.int) none (some (e : Int)) = (l.take e).map .int := by
  have e1 : cutHi (some (e : Int)) (l.map V.int).length = e := by
    unfold cutHi; dsimp only; rw [if_neg (by omega), List.length_map, Int.toNat_natCast]; omega
  rw [cut, e1]
  simp [cutLo]
theorem cut_all {l : List V} : cut l none none = l := by
  rw [cut]; simp [cutLo, cutHi]

theorem val_zeros {l : List Int} {e : Nat} (he : e ≤ l.length) (hz : ∀ i, e ≤ i → i < l.length → gt l i = 0) : val (l.take e) = val l := by
  have : val (l.drop e) = 0 := by
    have h : l.drop e = List.replicate (l.length - e) 0 := by
      apply List.ext_getElem (by simp)
      intro i h1 h2
      rw [List.getElem_drop, gt_eq, List.getElem_replicate]
      rw [List.length_drop] at h1
      exact hz _ (by omega) (by omega)
    rw [h, val_rep_zero]
  have := val_split l e he
  simp_all

include G in
theorem c_normal {a : Addr} {l : List Int} {σ : AHeap} {Q : V → AHeap → Prop} (h : σ a = some (iL l)) (hl : Lo l)
    (hQ : ∀ r σ', Bs h0 r → σ r = none → Ext σ σ' → IsN σ' r (val l) → Q (.ref r) σ') : CC prog w h0 (n + 1) (.ref 58) [.ref a] σ Q := by
  refine enter G [some (.ref a), none] (at_normal _) rfl rfl ?_
  conv => whnf
  refine ⟨_, h, ?_⟩
  conv => whnf
  refine ⟨fun n ρ τ => τ = σ ∧ ρ = [some (.ref a), some (.int n)] ∧ n ≤ l.length ∧ (∀ i, n ≤ i → i < l.length → gt l i = 0),
    fun ρ τ => ∃ n : Nat, τ = σ ∧ ρ = [some (.ref a), some (.int n)] ∧ n ≤ l.length ∧ (∀ i, n ≤ i → i < l.length → gt l i = 0) ∧ (n = 0 ∨ gt l (n - 1) ≠ 0), ⟨l.length, rfl, by simp, by simp, by intros; omega⟩, ?_, ?_⟩
  · rintro n _ _ ⟨rfl, rfl, hn, hz⟩
    conv => whnf
    refine ⟨fun e => ?_, fun e => ?_⟩
    · have e := of_decide_eq_true e
      obtain ⟨k, rfl⟩ : ∃ k, n = k + 1 := ⟨n - 1, by omega⟩
      conv => whnf
      refine ix h k (by omega) (by omega) ?_
      conv => whnf
      refine ⟨fun e2 => ?_, fun e2 => ?_⟩
      · conv => whnf
        refine ⟨k, by omega, rfl, by simp <;> omega, by omega, fun i h1 h2 => ?_⟩
        rcases Nat.lt_or_eq_of_le h1 with h1 | h1
        · exact hz i h1 h2
        · subst h1; exact of_decide_eq_true e2
      · exact ⟨k + 1, rfl, rfl, hn, hz, .inr (of_decide_eq_false e2)⟩
    · have e := of_decide_eq_false e
      exact ⟨nofun, fun _ => ⟨n, rfl, rfl, hn, hz, .inl (by omega)⟩⟩
  · rintro _ _ ⟨e, rfl, rfl, he, hz, hx⟩
    conv => whnf
    refine ⟨_, h, ?_⟩
    intro r σ' h1 h2 h3 h4
    rw [cut_to he] at h4
    refine hQ r σ' h1 h2 h3 ⟨_, h4, ⟨hl.take e, ?_⟩, val_zeros he hz⟩
    rcases hx with hx | hx
    · left; subst hx; rfl
    · rcases Nat.eq_zero_or_pos e with z | z
      · left; subst z; rfl
      · right
        rw [List.length_take, Nat.min_eq_left he, gt_take (by omega)]
        exact hx
end
end Mine
end
section
set_option maxRecDepth 100000
namespace Mine
open PySem PySem.W PyProof.Rows PySem.Calls

@[irreducible] def ML : Nat := 8388600
theorem ML_eq : ML = 8388600 := by unfold ML; rfl
theorem Nrm.lenM {l : List Int} (h : Nrm l) {n : Nat} (hv : val l < 256 ^ n) (hn : n ≤ ML) : l.length ≤ ML := Nat.le_trans (h.len_le hv) hn
def cmpI (x y : Int) : Int := if x < y then -1 else if x = y then 0 else 1

section
variable {h0 : Heap} {prog : Program} {w : World} {mg mb : Str → Option Value} (G : Gd (KK w) h0 mg mb) {n : Nat}

theorem upTo_get {a b : Int} {k : Nat} {it : List V} (h : (upTo a b)[k]? = some it) : it = [.int (a + k)] ∧ a + k < b := by
  have hlt : k < (b - a).toNat := by
    rcases Nat.lt_or_ge k (b - a).toNat with q | q
    · exact q
    · unfold upTo at h; rw [List.getElem?_eq_none (by simpa using q)] at h; cases h
  unfold upTo at h
  rw [List.getElem?_map, List.getElem?_range hlt] at h
  cases h
  exact ⟨rfl, by omega⟩
theorem downTo_get {a b : Int} {k : Nat} {it : List V} (h : (downTo a b)[k]? = some it) : it = [.int (a - k)] ∧ b < a - k := by
  have hlt : k < (a - b).toNat := by
    rcases Nat.lt_or_ge k (a - b).toNat with q | q
    · exact q
    · unfold downTo at h; rw [List.getElem?_eq_none (by simpa using q)] at h; cases h
  unfold downTo at h
  rw [List.getElem?_map, List.getElem?_range hlt] at h
  cases h
  exact ⟨rfl, by omega⟩
theorem upTo_len {a b : Int} : (upTo a b).length = (b - a).toNat := by unfold upTo; simp
theorem downTo_len {a b : Int} : (downTo a b).length = (a - b).toNat := by unfold downTo; simp

theorem len_lt_val {l m : List Int} (h : Nrm l) (h' : Nrm m) (hl : l.length < m.length) : val l < val m := by
  have h1 := val_lt h.1
  have h2 := h'.ge (fun e => by subst e; simp at hl)
  have := pow_le (show l.length ≤ m.length - 1 by omega)
  omega
theorem drop_lt_val {l m : List Int} (h : Lo l) (h' : Lo m) {j : Nat} (e : l.length = m.length) (hj : j < l.length) (hd : val (l.drop (j + 1)) = val (m.drop (j + 1))) (hg : gt l j < gt m j) : val l < val m := by
  have a1 := val_split l j (by omega)
  have a2 := val_split m j (by omega)
  have b1 := val_drop hj
  have b2 := val_drop (l := m) (j := j) (by omega)
  have c1 := val_lt (h.take j)
  have c2 := val_nonneg (h'.take j)
  rw [List.length_take, Nat.min_eq_left (by omega)] at c1
  have : val (l.drop j) + 1 ≤ val (m.drop j) := by omega
  have := Int.mul_le_mul_of_nonneg_left this (Int.le_of_lt (pow_pos' j))
  rw [Int.mul_add] at this
  omega

include G in
theorem c_compare {a b : Addr} {x y : Int} {σ : AHeap} {Q : V → AHeap → Prop} (ha : IsN σ a x) (hb : IsN σ b y) (hx : x < 256 ^ ML) (hy : y < 256 ^ ML)
    (hQ : Q (.int (cmpI x y)) σ) : CC prog w h0 (n + 1) (.ref 72) [.ref a, .ref b] σ Q := by
  obtain ⟨l, h1, n1, rfl⟩ := ha
  obtain ⟨m, h2, n2, rfl⟩ := hb
  have l1 := n1.len_le hx
  have l2 := n2.len_le hy
  refine enter G [some (.ref a), some (.ref b), none] (at_compare _) rfl rfl ?_
  conv => whnf
  refine ⟨_, h1, ?_⟩
  conv => whnf
  refine ⟨_, h2, ?_⟩
  conv => whnf
  simp only [List.length_map]
  refine ⟨fun e => ?_, fun e => ?_⟩
  · have e := of_decide_eq_true e
    conv => whnf
    refine ⟨_, h1, ?_⟩
    conv => whnf
    refine ⟨_, h2, ?_⟩
    conv => whnf
    simp only [List.length_map]
    refine ⟨fun e2 => ?_, fun e2 => ?_⟩
    · have e2 := of_decide_eq_true e2
      have := len_lt_val n1 n2 (by omega)
      unfold cmpI at hQ; rw [if_pos this] at hQ; exact hQ
    · have e2 := of_decide_eq_false e2
      have := len_lt_val n2 n1 (by omega)
      unfold cmpI at hQ; rw [if_neg (by omega), if_neg (by omega)] at hQ; exact hQ
  · have e := of_decide_eq_false e
    have e : l.length = m.length := by omega
    conv => whnf
    refine ⟨_, h1, ?_⟩
    conv => whnf
    simp only [List.length_map]
    refine ⟨⟨by have := ML_eq; unfold small; omega, by unfold small; omega, by first | rfl | trivial⟩, ?_⟩
    refine ⟨fun k ρ τ => τ = σ ∧ (∃ u, ρ = [some (.ref a), some (.ref b), u]) ∧ k ≤ l.length ∧ val (l.drop (l.length - k)) = val (m.drop (l.length - k)), ⟨rfl, ⟨_, rfl⟩, Nat.zero_le _, by rw [Nat.sub_zero, List.drop_length, e, List.drop_length]⟩, fun _ _ _ _ => trivial, ?_, ?_⟩
    · rintro k _ _ it ⟨rfl, ⟨u, rfl⟩, hk, hv⟩ hit
      obtain ⟨rfl, hb⟩ := downTo_get hit
      conv => whnf
      refine ix h1 (l.length - 1 - k) (by omega) (by omega) ?_
      conv => whnf
      refine ix h2 (l.length - 1 - k) (by omega) (by omega) ?_
      conv => whnf
      rw [show l.length - k = l.length - 1 - k + 1 by omega] at hv
      refine ⟨fun e1 => ?_, fun e1 => ?_⟩
      · have e1 := of_decide_eq_true e1
        conv => whnf
        refine ix h1 (l.length - 1 - k) (by omega) (by omega) ?_
        conv => whnf
        refine ix h2 (l.length - 1 - k) (by omega) (by omega) ?_
        conv => whnf
        refine ⟨fun e2 => ?_, fun e2 => ?_⟩
        · have e2 := of_decide_eq_true e2
          have := drop_lt_val n1.1 n2.1 e (by omega) hv e2
          unfold cmpI at hQ; rw [if_pos this] at hQ; exact hQ
        · have e2 := of_decide_eq_false e2
          have := drop_lt_val n2.1 n1.1 e.symm (by omega) hv.symm (by omega)
          unfold cmpI at hQ; rw [if_neg (by omega), if_neg (by omega)] at hQ; exact hQ
      · have e1 := of_decide_eq_false e1
        conv => whnf
        refine ⟨rfl, ⟨_, rfl⟩, by omega, ?_⟩
        rw [show l.length - (k + 1) = l.length - 1 - k by omega, val_drop (by omega), val_drop (l := m) (by omega), hv]
        omega
    · rintro _ _ ⟨rfl, ⟨u, rfl⟩, hk, hv⟩
      have hk' := hv
      rw [downTo_len] at hv
      rw [show l.length - ((l.length : Int) - 1 - -1).toNat = 0 by omega] at hv
      simp only [List.drop_zero] at hv
      unfold cmpI at hQ
      rw [if_neg (by omega), if_pos hv] at hQ
      exact hQ
end
end Mine
end
section
set_option maxRecDepth 100000
namespace Mine
open PySem PySem.W PyProof.Rows PySem.Calls

theorem wcons {B : Addr → Prop} {C : V → List V → AHeap → (V → AHeap → Prop) → Prop} {s : St} {r : Sts} {ρ : Loc} {σ : AHeap} {N : Loc → AHeap → Prop} {R : V → AHeap → Prop} (h : wpS B C s ρ σ (fun ρ σ => wpSs B C r ρ σ N R) R) : wpSs B C (.cons s r) ρ σ N R := h

section
variable {h0 : Heap} {prog : Program} {w : World} {mg mb : Str → Option Value} (G : Gd (KK w) h0 mg mb) {n : Nat}

theorem Lo.snoc {L : List Int} {d : Int} (h : Lo L) (h1 : 0 ≤ d) (h2 : d < 256) : Lo (L ++ [d]) := h.append (Lo.one h1 h2)
theorem val_snoc (L : List Int) (d : Int) : val (L ++ [d]) = val L + 256 ^ L.length * d := by rw [val_append]; simp [val]
theorem pow_s (k : Nat) : (256 : Int) ^ (k + 1) = 256 ^ k * 256 := Int.pow_succ ..
theorem take_all {l : List Int} {k : Nat} (h : l.length ≤ k) : l.take k = l := List.take_of_length_le h
theorem map_snoc (L : List Int) (d : Int) : L.map V.int ++ [.int d] = (L ++ [d]).map .int := by simp

include G in
theorem c_add {a b : Addr} {x y : Int} {σ : AHeap} {Q : V → AHeap → Prop} (ha : IsN σ a x) (hb : IsN σ b y) (hx : x < 256 ^ ML) (hy : y < 256 ^ ML)
    (hQ : ∀ r σ', Bs h0 r → σ r = none → Ext σ σ' → IsN σ' r (x + y) → Q (.ref r) σ') : CC prog w h0 (n + 1) (.ref 79) [.ref a, .ref b, .int 8] σ Q := by
  have hML := ML_eq
  refine enter G [some (.ref a), some (.ref b), some (.int 8), none, none, none, none] (at_add _) rfl rfl ?_
  refine wcons (join (P := (fun ρ τ => σ = τ ∧ ∃ a b l m, ρ = [some (.ref a), some (.ref b), some (.int 8), none, none, none, none] ∧ σ a = some (iL l) ∧ σ b = some (iL m) ∧ Nrm l ∧ Nrm m ∧ l.length ≤ ML ∧ m.length ≤ l.length ∧ val l + val m = x + y)) (F := fun N => wpS _ _ _ _ _ N _) ?_ ?_)
  · intro N hN
    obtain ⟨l, h1, n1, rfl⟩ := ha
    obtain ⟨m, h2, n2, rfl⟩ := hb
    have l1 := n1.len_le hx
    have l2 := n2.len_le hy
    conv => whnf
    refine ⟨_, h1, ?_⟩
    conv => whnf
    refine ⟨_, h2, ?_⟩
    conv => whnf
    simp only [List.length_map]
    refine ⟨fun e => ?_, fun e => ?_⟩
    · have e := of_decide_eq_true e
      conv => whnf
      exact hN _ _ ⟨rfl, b, a, m, l, rfl, h2, h1, n2, n1, l2, by omega, by omega⟩
    · have e := of_decide_eq_false e
      exact hN _ _ ⟨rfl, a, b, l, m, rfl, h1, h2, n1, n2, l1, by omega, rfl⟩
  · rintro _ _ ⟨rfl, a, b, l, m, rfl, h1, h2, n1, n2, l1, l2, hv⟩
    conv => whnf
    intro f τ hf1 hf2 hf3 hf4
    conv => whnf
    refine ⟨⟨by decide, by decide⟩, ?_⟩
    conv => whnf
    refine ⟨_, hf3 _ _ h2, ?_⟩
    conv => whnf
    simp only [List.length_map]
    refine ⟨by unfold small; omega, ?_⟩
    refine ⟨fun k ρ υ => ∃ c L u, ρ = [some (.ref a), some (.ref b), some (.int 8), some (.ref f), some (.int c), some (.int 255), u] ∧ Ext σ υ ∧ υ f = some (iL L) ∧ L.length = k ∧ k ≤ m.length ∧ Lo L ∧ 0 ≤ c ∧ c ≤ 1 ∧ val L + 256 ^ k * c = val (l.take k) + val (m.take k),
      ⟨0, [], none, rfl, hf3, hf4, rfl, Nat.zero_le _, Lo.nil, by decide, by decide, by simp [val]⟩, fun _ _ _ _ => trivial, ?_, ?_⟩
    · rintro k _ υ it ⟨c, L, u, rfl, he, hL, rfl, hk, lo, c0, c1, hv⟩ hit
      obtain ⟨rfl, hb⟩ := upTo_get hit
      conv => whnf
      refine ix (he _ _ h1) L.length (by omega) (by omega) ?_
      conv => whnf
      refine ix (he _ _ h2) L.length (by omega) (by omega) ?_
      conv => whnf
      have b1 := gt_lo n1.1 L.length
      have b2 := gt_lo n2.1 L.length
      refine ⟨⟨_, hL⟩, ?_⟩
      conv => whnf
      refine ⟨_, ⟨hf1, hL, by simp; show L.length < 16777216; omega⟩, ?_⟩
      intro υ' hu1 hu2
      rw [mask_and (by omega), map_snoc] at hu2
      conv => whnf
      refine ⟨rfl, ?_⟩
      conv => whnf
      refine ⟨by decide, ?_⟩
      rw [shr8]
      refine ⟨_, _, _, rfl, he.but hu1 hf2, hu2, by simp, by omega, lo.snoc (by omega) (by omega), by omega, by omega, ?_⟩
      rw [val_snoc, val_take_succ (by omega), val_take_succ (l := m) (by omega), pow_s]
      have e1 := Int.emod_add_mul_ediv (c + (gt l L.length + gt m L.length)) 256
      generalize (c + (gt l L.length + gt m L.length)) / 256 = q at *
      generalize (c + (gt l L.length + gt m L.length)) % 256 = r at *
      have : (256 : Int) ^ L.length * (r + 256 * q) = 256 ^ L.length * (c + (gt l L.length + gt m L.length)) := by rw [e1]
      grind
    · rintro _ υ ⟨c, L, u, rfl, he, hL, hLl, hk, lo, c0, c1, hv1⟩
      rw [upTo_len] at hLl hv1
      rw [show ((m.length : Int) - 0).toNat = m.length by omega] at hLl hv1
      rw [take_all (Nat.le_refl _)] at hv1
      conv => whnf
      refine ⟨_, he _ _ h2, ?_⟩
      conv => whnf
      refine ⟨_, he _ _ h1, ?_⟩
      conv => whnf
      simp only [List.length_map]
      refine ⟨⟨by unfold small; omega, by unfold small; omega⟩, ?_⟩
      refine ⟨fun k ρ υ => ∃ c L u, ρ = [some (.ref a), some (.ref b), some (.int 8), some (.ref f), some (.int c), some (.int 255), u] ∧ Ext σ υ ∧ υ f = some (iL L) ∧ L.length = m.length + k ∧ m.length + k ≤ l.length ∧ Lo L ∧ 0 ≤ c ∧ c ≤ 1 ∧ val L + 256 ^ (m.length + k) * c = val (l.take (m.length + k)) + val m,
        ⟨c, L, u, rfl, he, hL, hLl, l2, lo, c0, c1, by rw [Nat.add_zero]; exact hv1⟩, fun _ _ _ _ => trivial, ?_, ?_⟩
      · rintro k _ υ it ⟨c, L, u, rfl, he, hL, hLl, hk, lo, c0, c1, hv⟩ hit
        obtain ⟨rfl, hb⟩ := upTo_get hit
        conv => whnf
        refine ix (he _ _ h1) L.length (by omega) (by omega) ?_
        conv => whnf
        have b1 := gt_lo n1.1 L.length
        refine ⟨⟨_, hL⟩, ?_⟩
        conv => whnf
        refine ⟨_, ⟨hf1, hL, by simp; show L.length < 16777216; omega⟩, ?_⟩
        intro υ' hu1 hu2
        rw [mask_and (by omega), map_snoc] at hu2
        conv => whnf
        refine ⟨rfl, ?_⟩
        conv => whnf
        refine ⟨by decide, ?_⟩
        rw [shr8]
        refine ⟨_, _, _, rfl, he.but hu1 hf2, hu2, by simp; omega, by omega, lo.snoc (by omega) (by omega), by omega, by omega, ?_⟩
        rw [← hLl] at hv
        rw [← Nat.add_assoc, ← hLl, val_snoc, val_take_succ (by omega), pow_s]
        have e1 := Int.emod_add_mul_ediv (c + gt l L.length) 256
        generalize (c + gt l L.length) / 256 = q at *
        generalize (c + gt l L.length) % 256 = r at *
        have : (256 : Int) ^ L.length * (r + 256 * q) = 256 ^ L.length * (c + gt l L.length) := by rw [e1]
        grind
      · rintro _ υ ⟨c, L, u, rfl, he, hL, hLl, hk, lo, c0, c1, hv2⟩
        rw [upTo_len] at hLl hv2
        rw [show m.length + ((l.length : Int) - m.length).toNat = l.length by omega] at hLl hv2
        rw [take_all (Nat.le_refl _)] at hv2
        have hge : l ≠ [] → 256 ^ (l.length - 1) ≤ val l := n1.ge
        have hm := val_nonneg n2.1
        conv => whnf
        refine ⟨fun e => ?_, fun e => ?_⟩
        · have e := of_decide_eq_true e
          have c1 : c = 1 := by omega
          subst c1
          conv => whnf
          refine ⟨⟨_, hL⟩, ?_⟩
          conv => whnf
          refine ⟨_, ⟨hf1, hL, by simp; show L.length < 16777216; omega⟩, ?_⟩
          intro υ' hu1 hu2
          rw [map_snoc] at hu2
          conv => whnf
          refine ⟨rfl, ?_⟩
          conv => whnf
          refine hQ f υ' hf1 hf2 (he.but hu1 hf2) ⟨_, hu2, Nrm.of_ge (lo.snoc (by decide) (by decide)) fun _ => ?_, ?_⟩
          · rw [List.length_append, List.length_singleton, Nat.add_sub_cancel, val_snoc]
            have := val_nonneg lo
            omega
          · rw [val_snoc, hLl]; omega
        · have e := of_decide_eq_false e
          have c1 : c = 0 := by omega
          subst c1
          conv => whnf
          refine hQ f υ hf1 hf2 he ⟨_, hL, Nrm.of_ge lo fun hne => ?_, by omega⟩
          rw [hLl]
          have : l ≠ [] := fun q => hne (List.length_eq_zero_iff.mp (by rw [hLl, q]; rfl))
          have := hge this
          omega
end
end Mine
end
section
set_option maxRecDepth 100000
namespace Mine
open PySem PySem.W PyProof.Rows PySem.Calls


section
variable {h0 : Heap} {prog : Program} {w : World} {mg mb : Str → Option Value} (G : Gd (KK w) h0 mg mb) {n : Nat}

theorem val_take_s (l : List Int) (j : Nat) : val (l.take (j + 1)) = val (l.take j) + 256 ^ j * gt l j := by
  rcases Nat.lt_or_ge j l.length with h | h
  · exact val_take_succ h
  · rw [take_all h, take_all (Nat.le_succ_of_le h), gt_out h]; omega

include G in
theorem c_sub {a b : Addr} {x y : Int} {σ : AHeap} {Q : V → AHeap → Prop} (ha : IsN σ a x) (hb : IsN σ b y) (hx : x < 256 ^ ML) (hy : y < 256 ^ ML) (hyx : y ≤ x)
    (hQ : ∀ r σ', Bs h0 r → σ r = none → Ext σ σ' → IsN σ' r (x - y) → Q (.ref r) σ') : CC prog w h0 (n + 2) (.ref 86) [.ref a, .ref b, .int 8] σ Q := by
  have hML := ML_eq
  refine enter G [some (.ref a), some (.ref b), some (.int 8), none, none, none, none, none] (at_sub _) rfl rfl ?_
  conv => whnf
  refine c_compare G ha hb hx hy ?_
  obtain ⟨l, h1, n1, rfl⟩ := ha
  obtain ⟨m, h2, n2, rfl⟩ := hb
  have l1 := n1.len_le hx
  have l2 := n2.len_le hy
  conv => whnf
  refine ⟨fun e => ?_, fun e => ?_⟩
  · have e := of_decide_eq_true e
    unfold cmpI at e
    rw [if_neg (by omega)] at e
    split at e <;> omega
  clear e
  conv => whnf
  intro f τ hf1 hf2 hf3 hf4
  conv => whnf
  refine ⟨⟨by decide, by decide⟩, ?_⟩
  conv => whnf
  refine ⟨_, hf3 _ _ h1, ?_⟩
  conv => whnf
  simp only [List.length_map]
  refine ⟨by unfold small; omega, ?_⟩
  have hml : m.length ≤ l.length := by
    rcases Nat.lt_or_ge l.length m.length with q | q
    · have := len_lt_val n1 n2 q; omega
    · exact q
  refine ⟨fun k ρ υ => ∃ c L u v, ρ = [some (.ref a), some (.ref b), some (.int 8), some (.ref f), some (.int c), some (.int 256), u, v] ∧ Ext σ υ ∧ υ f = some (iL L) ∧ L.length = k ∧ k ≤ l.length ∧ Lo L ∧ 0 ≤ c ∧ c ≤ 1 ∧ val L - 256 ^ k * c = val (l.take k) - val (m.take k),
    ⟨0, [], none, none, rfl, hf3, hf4, rfl, Nat.zero_le _, Lo.nil, by decide, by decide, by simp [val]⟩, fun _ _ _ _ => trivial, ?_, ?_⟩
  · rintro k _ υ it ⟨c, L, u, v, rfl, he, hL, rfl, hk, lo, c0, c1, hv⟩ hit
    obtain ⟨rfl, hb⟩ := upTo_get hit
    have b1 := gt_lo n1.1 L.length
    have b2 := gt_lo n2.1 L.length
    conv => whnf
    refine ix (he _ _ h1) L.length (by omega) (by omega) ?_
    conv => whnf
    refine ⟨_, he _ _ h2, ?_⟩
    conv => whnf
    refine joinV (P := (fun v τ => υ = τ ∧ v = .int (gt m L.length))) (F := fun N => (decide _ = true → wpE _ _ _ _ _ N) ∧ (decide _ = false → wpE _ _ _ _ _ N)) ?_ ?_
    · intro N hN
      refine ⟨fun e => ?_, fun e => ?_⟩
      · have e := of_decide_eq_true e
        simp only [List.length_map] at e
        conv => whnf
        refine ix (he _ _ h2) L.length (by omega) (by omega) ?_
        exact hN _ _ ⟨rfl, rfl⟩
      · have e := of_decide_eq_false e
        simp only [List.length_map] at e
        refine hN _ _ ⟨rfl, ?_⟩
        rw [gt_out (by omega)]
    · rintro _ _ ⟨rfl, rfl⟩
      conv => whnf
      refine joinV (P := (fun v τ => υ = τ ∧ v = .int (if gt l L.length - c - gt m L.length < 0 then 1 else 0))) (F := fun N => (decide _ = true → wpE _ _ _ _ _ N) ∧ (decide _ = false → wpE _ _ _ _ _ N)) ?_ ?_
      · intro N hN
        refine ⟨fun e => ?_, fun e => ?_⟩
        · have e := of_decide_eq_true e
          exact hN _ _ ⟨rfl, by rw [if_pos e]⟩
        · have e := of_decide_eq_false e
          exact hN _ _ ⟨rfl, by rw [if_neg e]⟩
      · rintro _ _ ⟨rfl, rfl⟩
        conv => whnf
        refine ⟨⟨_, hL⟩, ?_⟩
        conv => whnf
        refine joinV (P := (fun v τ => υ = τ ∧ v = .int (if gt l L.length - c - gt m L.length < 0 then gt l L.length - c - gt m L.length + 256 else gt l L.length - c - gt m L.length))) (F := fun N => (decide _ = true → wpE _ _ _ _ _ N) ∧ (decide _ = false → wpE _ _ _ _ _ N)) ?_ ?_
        · intro N hN
          refine ⟨fun e => ?_, fun e => ?_⟩
          · have e := of_decide_eq_true e
            exact hN _ _ ⟨rfl, by rw [if_pos e]⟩
          · have e := of_decide_eq_false e
            exact hN _ _ ⟨rfl, by rw [if_neg e]⟩
        · rintro _ _ ⟨rfl, rfl⟩
          conv => whnf
          refine ⟨_, ⟨hf1, hL, by simp; show L.length < 16777216; omega⟩, ?_⟩
          intro υ' hu1 hu2
          rw [map_snoc] at hu2
          conv => whnf
          refine ⟨rfl, ?_⟩
          conv => whnf
          refine ⟨_, _, _, _, rfl, he.but hu1 hf2, hu2, by simp, by omega, lo.snoc (by split <;> omega) (by split <;> omega), by split <;> omega, by split <;> omega, ?_⟩
          rw [val_snoc, val_take_s, val_take_s, pow_s]
          split <;> grind
  · rintro _ υ ⟨c, L, u, v, rfl, he, hL, hLl, hk, lo, c0, c1, hv⟩
    rw [upTo_len] at hLl hv
    rw [show ((l.length : Int) - 0).toNat = l.length by omega] at hLl hv
    rw [take_all (Nat.le_refl _), take_all hml] at hv
    have hlt := val_lt lo
    rw [hLl] at hlt
    have c0' : c = 0 := by
      by_cases q : 0 < c
      · have : c = 1 := by omega
        subst this; omega
      · omega
    subst c0'
    conv => whnf
    refine c_normal G hL lo fun r σ' hr1 hr2 hr3 hr4 => ?_
    rw [show val L = val l - val m by omega] at hr4
    exact hQ r σ' hr1 (he.none hr2) (he.trans hr3) hr4

include G in
theorem c_add_limb {a : Addr} {x d : Int} {σ : AHeap} {Q : V → AHeap → Prop} (ha : IsN σ a x) (hx : x < 256 ^ ML) (hd0 : 0 ≤ d) (hd : d < 256)
    (hQ : ∀ r σ', Bs h0 r → σ r = none → Ext σ σ' → IsN σ' r (x + d) → Q (.ref r) σ') : CC prog w h0 (n + 1) (.ref 93) [.ref a, .int d, .int 8] σ Q := by
  have hML := ML_eq
  obtain ⟨l, h1, n1, rfl⟩ := ha
  have l1 := n1.len_le hx
  refine enter G [some (.ref a), some (.int d), some (.int 8), none, none, none] (at_add_limb _) rfl rfl ?_
  conv => whnf
  intro f τ hf1 hf2 hf3 hf4
  conv => whnf
  refine ⟨⟨by decide, by decide⟩, ?_⟩
  conv => whnf
  refine ⟨_, hf3 _ _ h1, ?_⟩
  refine ⟨fun k ρ υ => ∃ c L u, ρ = [some (.ref a), some (.int c), some (.int 8), some (.ref f), some (.int 255), u] ∧ Ext σ υ ∧ υ f = some (iL L) ∧ L.length = k ∧ k ≤ l.length ∧ Lo L ∧ 0 ≤ c ∧ c < 256 ∧ (0 < k → c ≤ 1) ∧ val L + 256 ^ k * c = val (l.take k) + d,
    ⟨d, [], none, rfl, hf3, hf4, rfl, Nat.zero_le _, Lo.nil, hd0, hd, fun q => absurd q (Nat.lt_irrefl _), by simp [val]⟩, ?_, ?_, ?_⟩
  · rintro k _ υ ⟨c, L, u, rfl, he, _⟩
    exact he _ _ h1
  · rintro k _ υ it ⟨c, L, u, rfl, he, hL, rfl, hk, lo, c0, c1, c2, hv⟩ hit
    have b1 := gt_lo n1.1 L.length
    obtain ⟨hkl, rfl⟩ : L.length < l.length ∧ it = [.int (gt l L.length)] := by
      rcases Nat.lt_or_ge L.length l.length with q | q
      · rw [List.getElem?_map, List.getElem?_map, gt_some q] at hit
        cases hit; exact ⟨q, rfl⟩
      · rw [List.getElem?_eq_none (by simpa using q)] at hit; cases hit
    conv => whnf
    refine ⟨⟨_, hL⟩, ?_⟩
    conv => whnf
    refine ⟨_, ⟨hf1, hL, by simp; show L.length < 16777216; omega⟩, ?_⟩
    intro υ' hu1 hu2
    rw [mask_and (by omega), map_snoc] at hu2
    conv => whnf
    refine ⟨rfl, ?_⟩
    conv => whnf
    refine ⟨by decide, ?_⟩
    rw [shr8]
    refine ⟨_, _, _, rfl, he.but hu1 hf2, hu2, by simp, by omega, lo.snoc (by omega) (by omega), by omega, by omega, fun _ => by omega, ?_⟩
    rw [val_snoc, val_take_s, pow_s]
    have e1 := Int.emod_add_mul_ediv (c + gt l L.length) 256
    generalize (c + gt l L.length) / 256 = q at *
    generalize (c + gt l L.length) % 256 = r at *
    have : (256 : Int) ^ L.length * (r + 256 * q) = 256 ^ L.length * (c + gt l L.length) := by rw [e1]
    grind
  · rintro _ υ ⟨c, L, u, rfl, he, hL, hLl, hk, lo, c0, c1, c2, hv⟩
    simp only [List.length_map] at hLl hv c2
    rw [take_all (Nat.le_refl _)] at hv
    have hge : l ≠ [] → 256 ^ (l.length - 1) ≤ val l := n1.ge
    have hm := val_nonneg lo
    conv => whnf
    refine ⟨fun e => ?_, fun e => ?_⟩
    · have e := of_decide_eq_true e
      conv => whnf
      refine ⟨⟨_, hL⟩, ?_⟩
      conv => whnf
      refine ⟨_, ⟨hf1, hL, by simp; show L.length < 16777216; omega⟩, ?_⟩
      intro υ' hu1 hu2
      rw [map_snoc] at hu2
      conv => whnf
      refine ⟨rfl, ?_⟩
      conv => whnf
      refine hQ f υ' hf1 hf2 (he.but hu1 hf2) ⟨_, hu2, Nrm.of_ge (lo.snoc (by omega) (by omega)) fun _ => ?_, ?_⟩
      · rw [List.length_append, List.length_singleton, Nat.add_sub_cancel, val_snoc]
        have := Int.mul_le_mul_of_nonneg_left (show 1 ≤ c by omega) (Int.le_of_lt (pow_pos' L.length))
        omega
      · rw [val_snoc, hLl]; omega
    · have e := of_decide_eq_false e
      have c0' : c = 0 := by omega
      subst c0'
      conv => whnf
      refine hQ f υ hf1 hf2 he ⟨_, hL, Nrm.of_ge lo fun hne => ?_, by omega⟩
      rw [hLl]
      have : l ≠ [] := fun q => hne (List.length_eq_zero_iff.mp (by rw [hLl, q]; rfl))
      have := hge this
      omega
end
end Mine
end
section
set_option maxRecDepth 100000
namespace Mine
open PySem PySem.W PyProof.Rows PySem.Calls

theorem bitOr_nn {x y : Int} (hx : 0 ≤ x) (hy : 0 ≤ y) : Builtin.bitOr x y = ((x.toNat ||| y.toNat : Nat) : Int) := by
  have e1 : decide (0 ≤ Builtin.bitNot x) = false := by
    unfold Builtin.bitNot; rw [decide_eq_false_iff_not]; omega
  have e2 : decide (0 ≤ Builtin.bitNot y) = false := by
    unfold Builtin.bitNot; rw [decide_eq_false_iff_not]; omega
  have f : ∀ z : Int, Builtin.bitNot (Builtin.bitNot z) = z := fun z => by unfold Builtin.bitNot; omega
  unfold Builtin.bitOr Builtin.bitAnd
  rw [e1, e2]
  dsimp only
  rw [f, f, f]
theorem or_add {x y : Int} {i : Nat} (hx : 0 ≤ x) (hy : 0 ≤ y) (h : y < 2 ^ i) : Builtin.bitOr (x * 2 ^ i) y = x * 2 ^ i + y := by
  have hp : (0 : Int) < 2 ^ i := Int.pow_pos (by decide)
  rw [bitOr_nn (Int.mul_nonneg hx (Int.le_of_lt hp)) hy]
  obtain ⟨a, rfl⟩ := Int.eq_ofNat_of_zero_le hx
  obtain ⟨b, rfl⟩ := Int.eq_ofNat_of_zero_le hy
  have e : ((a : Int) * 2 ^ i) = ((2 ^ i * a : Nat) : Int) := by rw [Int.natCast_mul, Int.natCast_pow, Int.mul_comm]; rfl
  have hb : b < 2 ^ i := by
    have : ((b : Nat) : Int) < ((2 ^ i : Nat) : Int) := by rw [Int.natCast_pow]; exact h
    exact Int.ofNat_lt.mp this
  rw [e, Int.toNat_natCast, Int.toNat_natCast, ← Nat.two_pow_add_eq_or_of_lt hb]
  omega
theorem or_comm' {x y : Int} (hx : 0 ≤ x) (hy : 0 ≤ y) : Builtin.bitOr x y = Builtin.bitOr y x := by
  rw [bitOr_nn hx hy, bitOr_nn hy hx, Nat.or_comm]
theorem fdiv_pos {a b : Int} (h : 0 ≤ b) : a.fdiv b = a / b := Int.fdiv_eq_ediv_of_nonneg _ h
theorem fmod_pos {a b : Int} (h : 0 ≤ b) : a.fmod b = a % b := Int.fmod_eq_emod_of_nonneg _ h
theorem dm_unique {q d c x : Int} (h0 : 0 ≤ c) (h1 : c < d) (h : q * d + c = x) : q = x / d ∧ c = x % d := by
  subst h
  have hd : d ≠ 0 := by omega
  refine ⟨?_, ?_⟩
  · rw [Int.add_comm, Int.add_mul_ediv_right _ _ hd, Int.ediv_eq_zero_of_lt h0 h1]; omega
  · rw [Int.add_comm, Int.add_mul_emod_self_right, Int.emod_eq_of_lt h0 h1]

theorem stx {B : Addr → Prop} {σ : AHeap} {x : Addr} {l : List Int} {n v : Int} {Q : AHeap → Prop} (hB : B x) (h : σ x = some (iL l)) (j : Nat) (hn : n = (j : Int)) (hj : j < l.length) (q : ∀ σ', ExtBut x σ σ' → σ' x = some (iL (l.set j v)) → Q σ') :
    ∃ xs j', (B x ∧ σ x = some (.list xs) ∧ n = ((j' : Nat) : Int) ∧ j' < xs.length) ∧ ∀ σ', ExtBut x σ σ' → σ' x = some (.list (xs.set j' (.int v))) → Q σ' :=
  ⟨_, j, ⟨hB, h, hn, by simpa using hj⟩, fun σ' e1 e2 => q σ' e1 (by rw [e2]; show _ = some (AObj.list ((l.set j v).map V.int)); rw [List.map_set])⟩
theorem rep_map (n : Nat) : List.replicate n (V.int 0) = (List.replicate n (0 : Int)).map .int := by simp

section
variable {h0 : Heap} {prog : Program} {w : World} {mg mb : Str → Option Value} (G : Gd (KK w) h0 mg mb) {n : Nat}

include G in
theorem c_divrem_limb {a : Addr} {x d : Int} {σ : AHeap} {Q : V → AHeap → Prop} (ha : IsN σ a x) (hx : x < 256 ^ ML) (hd0 : 0 < d) (hd : d < 256)
    (hQ : ∀ t r σ', Bs h0 t → σ t = none → σ r = none → Ext σ σ' → σ' t = some (.tup [.ref r, .int (x % d)]) → IsN σ' r (x / d) → Q (.ref t) σ') : CC prog w h0 (n + 2) (.ref 100) [.ref a, .int d, .int 8] σ Q := by
  have hML := ML_eq
  obtain ⟨l, h1, n1, rfl⟩ := ha
  have l1 := n1.len_le hx
  refine enter G [some (.ref a), some (.int d), some (.int 8), none, none, none] (at_divrem_limb _) rfl rfl ?_
  conv => whnf
  refine ⟨fun e => ?_, fun e => ?_⟩
  · have e := of_decide_eq_true e; omega
  clear e
  conv => whnf
  intro z τ hz1 hz2 hz3 hz4
  conv => whnf
  refine ⟨_, hz3 _ _ h1, ?_⟩
  conv => whnf
  simp only [List.length_map]
  refine ⟨.int 0, ⟨hz4, by omega, by show _ ≤ (16777216 : Int); omega⟩, ?_⟩
  intro f τ' hf1 hf2 hf3 hf4
  replace hf2 := hz3.none hf2
  replace hf3 := hz3.trans hf3
  rw [rep_map, Int.toNat_natCast] at hf4
  conv => whnf
  refine ⟨_, hf3 _ _ h1, ?_⟩
  conv => whnf
  simp only [List.length_map]
  refine ⟨⟨by unfold small; omega, by unfold small; omega, by first | rfl | trivial⟩, ?_⟩
  refine ⟨fun k ρ υ => ∃ c F u, ρ = [some (.ref a), some (.int d), some (.int 8), some (.ref f), some (.int c), u] ∧ Ext σ υ ∧ υ f = some (iL F) ∧ F.length = l.length ∧ k ≤ l.length ∧ Lo F ∧ 0 ≤ c ∧ c < d ∧ val (F.drop (l.length - k)) * d + c = val (l.drop (l.length - k)),
    ⟨0, _, none, rfl, hf3, hf4, by simp, Nat.zero_le _, Lo.rep, Int.le_refl _, hd0, by simp [val]⟩, fun _ _ _ _ => trivial, ?_, ?_⟩
  · rintro k _ υ it ⟨c, F, u, rfl, he, hF, hFl, hk, lo, c0, c1, hv⟩ hit
    obtain ⟨rfl, hb⟩ := downTo_get hit
    have b1 := gt_lo n1.1 (l.length - 1 - k)
    conv => whnf
    refine ⟨⟨by decide, ?_⟩, ?_⟩
    · have : bitsI c ≤ 64 := bits_small (by omega) (by omega)
      show (bitsI c : Int) + 8 ≤ 67108864
      omega
    conv => whnf
    refine ix (he _ _ h1) (l.length - 1 - k) (by omega) (by omega) ?_
    conv => whnf
    rw [show Int.toNat 8 = 8 from rfl, or_add c0 b1.1 (by show _ < (256 : Int); omega)]
    refine ⟨⟨by omega, by omega⟩, ?_⟩
    conv => whnf
    refine stx hf1 hF (l.length - 1 - k) (by omega) (by omega) fun υ' hu1 hu2 => ?_
    conv => whnf
    refine ⟨by omega, ?_⟩
    rw [fdiv_pos (by omega)] at hu2
    have hlt : c * 2 ^ 8 + gt l (l.length - 1 - k) < 256 * d := by
      have := Int.mul_le_mul_of_nonneg_right (show c ≤ d - 1 by omega) (show (0 : Int) ≤ 2 ^ 8 by decide)
      have e8 : (2 : Int) ^ 8 = 256 := rfl
      rw [e8] at *; omega
    have hge : 0 ≤ c * 2 ^ 8 + gt l (l.length - 1 - k) := by
      have := Int.mul_nonneg c0 (show (0 : Int) ≤ 2 ^ 8 by decide); omega
    have q0 : 0 ≤ (c * 2 ^ 8 + gt l (l.length - 1 - k)) / d := Int.ediv_nonneg hge (by omega)
    have q1 : (c * 2 ^ 8 + gt l (l.length - 1 - k)) / d < 256 := Int.ediv_lt_of_lt_mul hd0 hlt
    refine ⟨_, _, _, rfl, he.but hu1 hf2, hu2, by simp [hFl], by omega, lo.set q0 q1, ?_, ?_, ?_⟩
    · rw [fmod_pos (by omega)]; exact Int.emod_nonneg _ (by omega)
    · rw [fmod_pos (by omega)]; exact Int.emod_lt_of_pos _ hd0
    · rw [fmod_pos (by omega), show l.length - (k + 1) = l.length - 1 - k by omega]
      rw [show l.length - k = l.length - 1 - k + 1 by omega] at hv
      rw [val_drop (by simp; omega), val_drop (l := l) (by omega), gt_set_self (by omega), List.drop_set_of_lt (by omega)]
      have e1 := Int.emod_add_mul_ediv (c * 2 ^ 8 + gt l (l.length - 1 - k)) d
      generalize (c * 2 ^ 8 + gt l (l.length - 1 - k)) / d = q at *
      generalize (c * 2 ^ 8 + gt l (l.length - 1 - k)) % d = r at *
      have e8 : (2 : Int) ^ 8 = 256 := rfl
      rw [e8] at e1
      grind
  · rintro _ υ ⟨c, F, u, rfl, he, hF, hFl, hk, lo, c0, c1, hv⟩
    rw [downTo_len] at hv
    rw [show l.length - ((l.length : Int) - 1 - -1).toNat = 0 by omega] at hv
    simp only [List.drop_zero] at hv
    obtain ⟨e1, e2⟩ := dm_unique c0 c1 hv
    conv => whnf
    refine c_normal G hF lo fun r σ' hr1 hr2 hr3 hr4 => ?_
    conv => whnf
    intro t σ'' ht1 ht2 ht3 ht4
    refine hQ t r σ'' ht1 ((he.trans hr3).none ht2) (he.none hr2) ((he.trans hr3).trans ht3) ?_ ?_
    · rw [ht4, e2]
    · rw [← e1]; exact hr4.ext ht3
end
end Mine
end
section
set_option maxRecDepth 100000
namespace Mine
open PySem PySem.W PyProof.Rows PySem.Calls

section
variable {h0 : Heap} {prog : Program} {w : World} {mg mb : Str → Option Value} (G : Gd (KK w) h0 mg mb) {n : Nat}

include G in
theorem c_shift_left {a : Addr} {x : Int} {s : Nat} {σ : AHeap} {Q : V → AHeap → Prop} (ha : IsN σ a x) (hx : x < 256 ^ ML) (hs : s < 8)
    (hQ : ∀ t σ', Bs h0 t → σ t = none → Ext σ σ' → IsN σ' t (x * 2 ^ s) → Q (.ref t) σ') : CC prog w h0 (n + 1) (.ref 107) [.ref a, .int s, .int 8] σ Q := by
  have hML := ML_eq
  obtain ⟨l, h1, n1, rfl⟩ := ha
  have l1 := n1.len_le hx
  refine enter G [some (.ref a), some (.int s), some (.int 8), none, none, none, none, none, none] (at_shift_left _) rfl rfl ?_
  have hp : (0 : Int) < 2 ^ s := Int.pow_pos (by decide)
  have hp' : (2 : Int) ^ s ≤ 128 := by
    have : (2 : Int) ^ s ≤ 2 ^ 7 := by
      have h := Nat.pow_le_pow_right (show 0 < 2 by decide) (show s ≤ 7 by omega)
      have := Int.ofNat_le.mpr h
      rwa [Int.natCast_pow, Int.natCast_pow] at this
    omega
  conv => whnf
  refine ⟨_, h1, ?_⟩
  conv => whnf
  simp only [List.length_map]
  refine ⟨fun e => ?_, fun e => ?_⟩
  · have e := of_decide_eq_true e
    have e : l = [] := List.length_eq_zero_iff.mp (by omega)
    subst e
    conv => whnf
    intro t σ' h1 h2 h3 h4
    refine hQ t σ' h1 h2 h3 ⟨[], h4, Nrm.nil, by simp [val]⟩
  have e := of_decide_eq_false e
  have hne : l ≠ [] := fun q => e (by rw [q]; rfl)
  conv => whnf
  refine ⟨⟨by decide, by decide⟩, ?_⟩
  conv => whnf
  refine ⟨by decide, ?_⟩
  have e1 : (s : Int).fdiv 8 = 0 := by rw [fdiv_pos (by decide)]; omega
  have e2 : (s : Int).fmod 8 = s := by rw [fmod_pos (by decide)]; omega
  rw [e1, e2]
  conv => whnf
  intro z τ hz1 hz2 hz3 hz4
  conv => whnf
  refine ⟨.int 0, ⟨hz4, by decide, by decide⟩, ?_⟩
  intro f τ' hf1 hf2 hf3 hf4
  replace hf2 := hz3.none hf2
  replace hf3 := hz3.trans hf3
  conv => whnf
  refine ⟨⟨by decide, by decide⟩, ?_⟩
  conv => whnf
  refine ⟨_, hf3 _ _ h1, ?_⟩
  refine ⟨fun k ρ υ => ∃ c L u, ρ = [some (.ref a), some (.int s), some (.int 8), some (.int 0), some (.int s), some (.ref f), some (.int c), some (.int 255), u] ∧ Ext σ υ ∧ υ f = some (iL L) ∧ L.length = k ∧ k ≤ l.length ∧ Lo L ∧ 0 ≤ c ∧ c < 2 ^ s ∧ val L + 256 ^ k * c = val (l.take k) * 2 ^ s,
    ⟨0, [], none, rfl, hf3, hf4, rfl, Nat.zero_le _, Lo.nil, Int.le_refl _, hp, by simp [val]⟩, ?_, ?_, ?_⟩
  · rintro k _ υ ⟨c, L, u, rfl, he, _⟩
    exact he _ _ h1
  · rintro k _ υ it ⟨c, L, u, rfl, he, hL, rfl, hk, lo, c0, c1, hv⟩ hit
    have b1 := gt_lo n1.1 L.length
    obtain ⟨hkl, rfl⟩ : L.length < l.length ∧ it = [.int (gt l L.length)] := by
      rcases Nat.lt_or_ge L.length l.length with q | q
      · rw [List.getElem?_map, List.getElem?_map, gt_some q] at hit
        cases hit; exact ⟨q, rfl⟩
      · rw [List.getElem?_eq_none (by simpa using q)] at hit; cases hit
    conv => whnf
    refine ⟨⟨by omega, ?_⟩, ?_⟩
    · have : bitsI (gt l L.length) ≤ 64 := bits_small (by omega) (by omega)
      show (bitsI (gt l L.length) : Int) + s ≤ 67108864
      omega
    have g0 : 0 ≤ gt l L.length * 2 ^ s := Int.mul_nonneg b1.1 (Int.le_of_lt hp)
    have g1 : gt l L.length * 2 ^ s ≤ 255 * 2 ^ s := Int.mul_le_mul_of_nonneg_right (by omega) (Int.le_of_lt hp)
    conv => whnf
    rw [Int.toNat_natCast, or_comm' c0 g0, or_add b1.1 c0 c1]
    refine ⟨⟨_, hL⟩, ?_⟩
    conv => whnf
    refine ⟨_, ⟨hf1, hL, by simp; show L.length < 16777216; omega⟩, ?_⟩
    intro υ' hu1 hu2
    rw [mask_and (by omega), map_snoc] at hu2
    conv => whnf
    refine ⟨rfl, ?_⟩
    conv => whnf
    refine ⟨by decide, ?_⟩
    rw [shr8]
    refine ⟨_, _, _, rfl, he.but hu1 hf2, hu2, by simp, by omega, lo.snoc (by omega) (by omega), by omega, by omega, ?_⟩
    rw [val_snoc, val_take_s, pow_s]
    have e1 := Int.emod_add_mul_ediv (gt l L.length * 2 ^ s + c) 256
    generalize (gt l L.length * 2 ^ s + c) / 256 = q at *
    generalize (gt l L.length * 2 ^ s + c) % 256 = r at *
    have : (256 : Int) ^ L.length * (r + 256 * q) = 256 ^ L.length * (gt l L.length * 2 ^ s + c) := by rw [e1]
    generalize (2 : Int) ^ s = p at *
    grind
  · rintro _ υ ⟨c, L, u, rfl, he, hL, hLl, hk, lo, c0, c1, hv⟩
    simp only [List.length_map] at hLl hv
    rw [take_all (Nat.le_refl _)] at hv
    have hge := n1.ge hne
    have hm := val_nonneg lo
    have hxp : val l ≤ val l * 2 ^ s := by
      have := Int.mul_le_mul_of_nonneg_left (show (1 : Int) ≤ 2 ^ s by omega) (val_nonneg n1.1)
      omega
    conv => whnf
    refine ⟨fun e => ?_, fun e => ?_⟩
    · have e := of_decide_eq_true e
      conv => whnf
      refine ⟨⟨_, hL⟩, ?_⟩
      conv => whnf
      refine ⟨_, ⟨hf1, hL, by simp; show L.length < 16777216; omega⟩, ?_⟩
      intro υ' hu1 hu2
      rw [map_snoc] at hu2
      conv => whnf
      refine ⟨rfl, ?_⟩
      conv => whnf
      refine hQ f υ' hf1 hf2 (he.but hu1 hf2) ⟨_, hu2, Nrm.of_ge (lo.snoc (by omega) (by omega)) fun _ => ?_, ?_⟩
      · rw [List.length_append, List.length_singleton, Nat.add_sub_cancel, val_snoc]
        have := Int.mul_le_mul_of_nonneg_left (show 1 ≤ c by omega) (Int.le_of_lt (pow_pos' L.length))
        omega
      · rw [val_snoc, hLl]; omega
    · have e := of_decide_eq_false e
      have c0' : c = 0 := by omega
      subst c0'
      conv => whnf
      refine hQ f υ hf1 hf2 he ⟨_, hL, Nrm.of_ge lo fun _ => ?_, by omega⟩
      rw [hLl]
      omega

theorem digit_or {s : Nat} (hs : s < 8) {g ab : Int} (hg : 0 ≤ g ∧ g < 256) (hab : 0 ≤ ab ∧ ab < 256) :
    Builtin.bitAnd (Builtin.bitOr (g.fdiv (2 ^ s)) (ab * 2 ^ (8 - s))) 255 = g / 2 ^ s + ab % 2 ^ s * 2 ^ (8 - s) ∧ 0 ≤ g / 2 ^ s + ab % 2 ^ s * 2 ^ (8 - s) ∧ g / 2 ^ s + ab % 2 ^ s * 2 ^ (8 - s) < 256 := by
  have hp : (0 : Int) < 2 ^ s := Int.pow_pos (by decide)
  have hp' : (0 : Int) < 2 ^ (8 - s) := Int.pow_pos (by decide)
  have hd0 : 0 ≤ g / 2 ^ s := Int.ediv_nonneg hg.1 (Int.le_of_lt hp)
  have hd1 : g / 2 ^ s < 2 ^ (8 - s) := by
    refine Int.ediv_lt_of_lt_mul hp ?_
    rw [← Int.pow_add, show 8 - s + s = 8 by omega]; exact hg.2
  rw [fdiv_pos (Int.le_of_lt hp), or_comm' hd0 (Int.mul_nonneg hab.1 (Int.le_of_lt hp')), or_add hab.1 hd0 hd1, mask_and (by have := Int.mul_nonneg hab.1 (Int.le_of_lt hp'); omega)]
  match s, hs with
  | 0, _ | 1, _ | 2, _ | 3, _ | 4, _ | 5, _ | 6, _ | 7, _ =>
    simp only [Nat.reduceSub, Int.reducePow] at *
    omega

include G in
theorem c_shift_right {a : Addr} {x : Int} {s : Nat} {σ : AHeap} {Q : V → AHeap → Prop} (ha : IsN σ a x) (hx : x < 256 ^ ML) (hs : s < 8)
    (hQ : ∀ t σ', Bs h0 t → σ t = none → Ext σ σ' → IsN σ' t (x / 2 ^ s) → Q (.ref t) σ') : CC prog w h0 (n + 2) (.ref 114) [.ref a, .int s, .int 8] σ Q := by
  have hML := ML_eq
  obtain ⟨l, h1, n1, rfl⟩ := ha
  have l1 := n1.len_le hx
  refine enter G [some (.ref a), some (.int s), some (.int 8), none, none, none, none, none, none] (at_shift_right _) rfl rfl ?_
  have hp : (0 : Int) < 2 ^ s := Int.pow_pos (by decide)
  conv => whnf
  refine ⟨⟨by decide, by decide⟩, ?_⟩
  conv => whnf
  refine ⟨by decide, ?_⟩
  have e1 : (s : Int).fdiv 8 = 0 := by rw [fdiv_pos (by decide)]; omega
  have e2 : (s : Int).fmod 8 = s := by rw [fmod_pos (by decide)]; omega
  rw [e1, e2]
  conv => whnf
  intro f τ' hf1 hf2 hf3 hf4
  conv => whnf
  refine ⟨⟨by decide, by decide⟩, ?_⟩
  conv => whnf
  refine ⟨_, hf3 _ _ h1, ?_⟩
  conv => whnf
  simp only [List.length_map]
  refine ⟨⟨by unfold small; omega, by unfold small; omega⟩, ?_⟩
  refine ⟨fun k ρ υ => ∃ L u v, ρ = [some (.ref a), some (.int s), some (.int 8), some (.int 0), some (.int s), some (.ref f), some (.int 255), u, v] ∧ Ext σ υ ∧ υ f = some (iL L) ∧ L.length = k ∧ k ≤ l.length ∧ Lo L ∧ 2 ^ s * val L + gt l 0 % 2 ^ s = val (l.take k) + 256 ^ k * (gt l k % 2 ^ s),
    ⟨[], none, none, rfl, hf3, hf4, rfl, Nat.zero_le _, Lo.nil, by simp [val]⟩, fun _ _ _ _ => trivial, ?_, ?_⟩
  · rintro k _ υ it ⟨L, u, v, rfl, he, hL, rfl, hk, lo, hv⟩ hit
    obtain ⟨rfl, hb⟩ := upTo_get hit
    have b1 := gt_lo n1.1 L.length
    have b2 := gt_lo n1.1 (L.length + 1)
    conv => whnf
    refine ⟨_, he _ _ h1, ?_⟩
    conv => whnf
    refine joinV (P := (fun v τ => υ = τ ∧ v = .int (gt l (L.length + 1)))) (F := fun N => (decide _ = true → wpE _ _ _ _ _ N) ∧ (decide _ = false → wpE _ _ _ _ _ N)) ?_ ?_
    · intro N hN
      refine ⟨fun e => ?_, fun e => ?_⟩
      · have e := of_decide_eq_true e
        simp only [List.length_map] at e
        conv => whnf
        refine ix (he _ _ h1) (L.length + 1) (by omega) (by omega) ?_
        exact hN _ _ ⟨rfl, rfl⟩
      · have e := of_decide_eq_false e
        simp only [List.length_map] at e
        refine hN _ _ ⟨rfl, ?_⟩
        rw [gt_out (by omega)]
    · rintro _ _ ⟨rfl, rfl⟩
      conv => whnf
      refine ⟨⟨_, hL⟩, ?_⟩
      conv => whnf
      refine ix (he _ _ h1) L.length (by omega) (by omega) ?_
      conv => whnf
      refine ⟨by omega, ?_⟩
      conv => whnf
      refine ⟨⟨by omega, ?_⟩, ?_⟩
      · have : bitsI (gt l (L.length + 1)) ≤ 64 := bits_small (by omega) (by omega)
        show (bitsI (gt l (L.length + 1)) : Int) + (8 - s) ≤ 67108864
        omega
      conv => whnf
      refine ⟨_, ⟨hf1, hL, by simp; show L.length < 16777216; omega⟩, ?_⟩
      intro υ' hu1 hu2
      obtain ⟨d1, d2, d3⟩ := digit_or hs b1 b2
      rw [show Int.toNat (8 - (s : Int)) = 8 - s by omega, Int.toNat_natCast, d1, map_snoc] at hu2
      conv => whnf
      refine ⟨rfl, ?_⟩
      conv => whnf
      refine ⟨_, _, _, rfl, he.but hu1 hf2, hu2, by simp, by omega, lo.snoc d2 d3, ?_⟩
      rw [val_snoc, val_take_s, pow_s]
      have e1 := Int.emod_add_mul_ediv (gt l L.length) (2 ^ s)
      have e2 : (2 : Int) ^ s * 2 ^ (8 - s) = 256 := by
        rw [← Int.pow_add, show s + (8 - s) = 8 by omega]; rfl
      generalize gt l L.length / 2 ^ s = q at *
      generalize gt l L.length % 2 ^ s = r at *
      generalize gt l (L.length + 1) % 2 ^ s = r2 at *
      generalize (2 : Int) ^ s = p at *
      generalize (2 : Int) ^ (8 - s) = p2 at *
      have h3 : 256 ^ L.length * (r + p * q) = 256 ^ L.length * gt l L.length := by rw [e1]
      have h4 : 256 ^ L.length * (r2 * (p * p2)) = 256 ^ L.length * (r2 * 256) := by rw [e2]
      grind
  · rintro _ υ ⟨L, u, v, rfl, he, hL, hLl, hk, lo, hv⟩
    rw [upTo_len] at hLl hv
    rw [show ((l.length : Int) - 0).toNat = l.length by omega] at hLl hv
    rw [take_all (Nat.le_refl _), gt_out (Nat.le_refl _)] at hv
    have r0 := Int.emod_nonneg (gt l 0) (Int.ne_of_gt hp)
    have r1 := Int.emod_lt_of_pos (gt l 0) hp
    obtain ⟨q1, q2⟩ := dm_unique (q := val L) (x := val l) r0 r1 (by
      rw [Int.zero_emod] at hv
      rw [Int.mul_comm]; omega)
    conv => whnf
    refine c_normal G hL lo fun r σ' hr1 hr2 hr3 hr4 => ?_
    rw [q1] at hr4
    exact hQ r σ' hr1 (he.none hr2) (he.trans hr3) hr4

include G in
theorem c_bits {a : Addr} {t : Int} {σ : AHeap} {Q : V → AHeap → Prop} (ha : σ a = some (iL [t])) (hQ : Q (.int (bitsI t)) σ) : CC prog w h0 (n + 1) (.ref 121) [.ref a, .int 8] σ Q := by
  refine enter G [some (.ref a), some (.int 8)] (at_bits _) rfl rfl ?_
  conv => whnf
  refine ⟨_, ha, ?_⟩
  conv => whnf
  refine ⟨fun _ => ?_, fun e => absurd (of_decide_eq_false e) (by simp)⟩
  conv => whnf
  refine ⟨_, ha, ?_⟩
  conv => whnf
  refine ⟨.inr (.inl (bits_small (by decide) (by decide))), ?_⟩
  conv => whnf
  refine ⟨_, 0, .int t, ⟨.inl ha, .inr (by simp), rfl⟩, ?_⟩
  conv => whnf
  simpa using hQ

include G in
theorem c_divrem_small {a b : Addr} {x d : Int} {σ : AHeap} {Q : V → AHeap → Prop} (ha : IsN σ a x) (hx : x < 256 ^ ML) (hb : σ b = some (iL [d])) (hd0 : 0 < d) (hd : d < 256)
    (hQ : ∀ t r u σ', Bs h0 t → σ t = none → σ r = none → σ u = none → Ext σ σ' → σ' t = some (.tup [.ref r, .ref u]) → IsN σ' r (x / d) → IsN σ' u (x % d) → Q (.ref t) σ') : CC prog w h0 (n + 3) (.ref 322) [.ref a, .ref b, .int 8] σ Q := by
  refine enter G [some (.ref a), some (.ref b), some (.int 8), none, none] (at_divrem_small _) rfl rfl ?_
  conv => whnf
  refine ix hb 0 rfl (by simp) ?_
  conv => whnf
  refine c_divrem_limb G ha hx hd0 hd fun t r σ1 t1 t2 tr t3 t4 t5 => ?_
  conv => whnf
  refine ⟨_, ⟨t4, rfl⟩, ?_⟩
  have m0 := Int.emod_nonneg x (Int.ne_of_gt hd0)
  have m1 := Int.emod_lt_of_pos x hd0
  conv => whnf
  have fin : ∀ u σ2, σ1 u = none → Ext σ1 σ2 → IsN σ2 u (x % d) → allocW (Bs h0) (.tup [.ref r, .ref u]) σ2 Q := fun u σ2 hu e2 i2 => by
    intro t' σ3 q1 q2 q3 q4
    exact hQ t' r u σ3 q1 ((t3.trans e2).none q2) tr (t3.none hu) ((t3.trans e2).trans q3) q4 (t5.ext (e2.trans q3)) (i2.ext q3)
  refine ⟨fun e => ?_, fun e => ?_⟩
  · have e : 0 < x % d := of_decide_eq_true e
    conv => whnf
    intro u σ2 u1 u2 u3 u4
    exact fin u σ2 u2 u3 ⟨[x % d], u4, ⟨Lo.one m0 (by omega), .inr (by show x % d ≠ 0; omega)⟩, by simp [val]⟩
  · have e : ¬ 0 < x % d := of_decide_eq_false e
    conv => whnf
    intro u σ2 u1 u2 u3 u4
    exact fin u σ2 u2 u3 ⟨[], u4, Nrm.nil, by simp [val]; omega⟩
end
end Mine
end
section
set_option maxRecDepth 100000
namespace Mine
open PySem PySem.W PyProof.Rows PySem.Calls

theorem enum_get {l : List Int} {k : Nat} {it : List V} (h : (enumL (l.map V.int))[k]? = some it) : k < l.length ∧ it = [.int k, .int (gt l k)] := by
  unfold enumL at h
  rw [List.getElem?_mapIdx] at h
  rcases Nat.lt_or_ge k l.length with q | q
  · rw [List.getElem?_map, gt_some q] at h
    cases h; exact ⟨q, rfl⟩
  · rw [List.getElem?_eq_none (by simpa using q)] at h; cases h
theorem enum_len {l : List V} : (enumL l).length = l.length := by unfold enumL; simp

section
variable {h0 : Heap} {prog : Program} {w : World} {mg mb : Str → Option Value} (G : Gd (KK w) h0 mg mb) {n : Nat}

include G in
theorem c_mul_school {a b : Addr} {x y : Int} {σ : AHeap} {Q : V → AHeap → Prop} (ha : IsN σ a x) (hb : IsN σ b y) (hx : x < 256 ^ ML) (hy : y < 256 ^ ML)
    (hQ : ∀ r σ', Bs h0 r → σ r = none → Ext σ σ' → IsN σ' r (x * y) → Q (.ref r) σ') : CC prog w h0 (n + 2) (.ref 315) [.ref a, .ref b, .int 8] σ Q := by
  have hML := ML_eq
  obtain ⟨l, h1, n1, rfl⟩ := ha
  have l1 := n1.len_le hx
  obtain ⟨m, h2, n2, rfl⟩ := hb
  have l2 := n2.len_le hy
  refine enter G [some (.ref a), some (.ref b), some (.int 8), none, none, none, none, none, none, none] (at_mul_school _) rfl rfl ?_
  conv => whnf
  intro z τ hz1 hz2 hz3 hz4
  conv => whnf
  refine ⟨_, hz3 _ _ h1, ?_⟩
  conv => whnf
  refine ⟨_, hz3 _ _ h2, ?_⟩
  conv => whnf
  simp only [List.length_map]
  refine ⟨.int 0, ⟨hz4, by omega, by show _ ≤ (16777216 : Int); omega⟩, ?_⟩
  intro f τ' hf1 hf2 hf3 hf4
  replace hf2 := hz3.none hf2
  replace hf3 := hz3.trans hf3
  rw [rep_map, show ((l.length : Int) + m.length).toNat = l.length + m.length by omega] at hf4
  conv => whnf
  refine ⟨⟨by decide, by decide⟩, ?_⟩
  conv => whnf
  refine ⟨_, hf3 _ _ h1, ?_⟩
  refine ⟨fun k ρ υ => ∃ F u1 u2 u3 u4 u5, ρ = [some (.ref a), some (.ref b), some (.int 8), some (.ref f), some (.int 255), u1, u2, u3, u4, u5] ∧ Ext σ υ ∧ υ f = some (iL F) ∧ F.length = l.length + m.length ∧ k ≤ l.length ∧ Lo F ∧ (∀ i, k + m.length ≤ i → gt F i = 0) ∧ val F = val (l.take k) * val m,
    ⟨_, none, none, none, none, none, rfl, hf3, hf4, by simp, Nat.zero_le _, Lo.rep, fun i _ => ?_, by simp [val, val_rep_zero]⟩, ?_, ?_, ?_⟩
  · rcases Nat.lt_or_ge i (l.length + m.length) with q | q
    · exact gt_rep q
    · exact gt_out (by simpa using q)
  · rintro k _ υ ⟨F, u1, u2, u3, u4, u5, rfl, he, _⟩
    exact he _ _ h1
  · rintro k _ υ it ⟨F, u1, u2, u3, u4, u5, rfl, he, hF, hFl, hk, lo, hz, hv⟩ hit
    obtain ⟨hkl, rfl⟩ := enum_get hit
    have b1 := gt_lo n1.1 k
    conv => whnf
    refine ⟨_, he _ _ h2, ?_⟩
    refine ⟨fun j ρ υ => ∃ c F' u4 u5, ρ = [some (.ref a), some (.ref b), some (.int 8), some (.ref f), some (.int 255), some (.int k), some (.int (gt l k)), some (.int c), u4, u5] ∧ Ext σ υ ∧ υ f = some (iL F') ∧ F'.length = l.length + m.length ∧ j ≤ m.length ∧ Lo F' ∧ 0 ≤ c ∧ c < 256 ∧ (∀ i, k + j ≤ i → gt F' i = gt F i) ∧ val F' + 256 ^ (k + j) * c = val F + 256 ^ k * gt l k * val (m.take j),
      ⟨0, F, _, _, rfl, he, hF, hFl, Nat.zero_le _, lo, Int.le_refl _, by decide, fun _ _ => rfl, by simp [val]⟩, ?_, ?_, ?_⟩
    · rintro j _ υ ⟨c, F', u4, u5, rfl, he, _⟩
      exact he _ _ h2
    · rintro j _ υ it ⟨c, F', u4, u5, rfl, he, hF, hFl, hj, lo, c0, c1, hi, hv⟩ hit
      obtain ⟨hjl, rfl⟩ := enum_get hit
      have b2 := gt_lo n2.1 j
      have b3 := gt_lo lo (k + j)
      conv => whnf
      refine ix hF (k + j) (by omega) (by omega) ?_
      conv => whnf
      refine ⟨mulFits_small (by omega) (by omega), ?_⟩
      have g0 : 0 ≤ gt l k * gt m j := Int.mul_nonneg b1.1 b2.1
      have g1 : gt l k * gt m j ≤ 255 * 255 := Int.mul_le_mul (by omega) (by omega) b2.1 (by decide)
      conv => whnf
      refine stx hf1 hF (k + j) (by omega) (by omega) fun υ' hu1 hu2 => ?_
      rw [mask_and (by omega)] at hu2
      conv => whnf
      refine ⟨by decide, ?_⟩
      rw [shr8]
      refine ⟨_, _, _, _, rfl, he.but hu1 hf2, hu2, by simp [hFl], by omega, lo.set (by omega) (by omega), by omega, by omega, fun i hi2 => ?_, ?_⟩
      · rw [gt_set_ne (by omega)]; exact hi i (by omega)
      · rw [val_set (by omega), val_take_s, show k + (j + 1) = k + j + 1 by omega, pow_s, Int.pow_add] at *
        have e1 := Int.emod_add_mul_ediv (c + (gt F' (k + j) + gt l k * gt m j)) 256
        generalize (c + (gt F' (k + j) + gt l k * gt m j)) / 256 = q at *
        generalize (c + (gt F' (k + j) + gt l k * gt m j)) % 256 = r at *
        have : (256 : Int) ^ k * 256 ^ j * (r + 256 * q) = 256 ^ k * 256 ^ j * (c + (gt F' (k + j) + gt l k * gt m j)) := by rw [e1]
        grind
    · rintro _ υ ⟨c, F', u4, u5, rfl, he, hF, hFl, hj, lo, c0, c1, hi, hv2⟩
      rw [enum_len, List.length_map] at hv2 hi
      rw [take_all (Nat.le_refl _)] at hv2
      conv => whnf
      refine ⟨_, he _ _ h2, ?_⟩
      conv => whnf
      simp only [List.length_map]
      refine stx hf1 hF (k + m.length) (by omega) (by omega) fun υ' hu1 hu2 => ?_
      conv => whnf
      have z0 : gt F' (k + m.length) = 0 := by rw [hi _ (Nat.le_refl _)]; exact hz _ (Nat.le_refl _)
      refine ⟨_, _, _, _, _, _, rfl, he.but hu1 hf2, hu2, by simp [hFl], by omega, lo.set c0 c1, fun i hi2 => ?_, ?_⟩
      · rw [gt_set_ne (by omega), hi i (by omega)]; exact hz i (by omega)
      · rw [val_set (by omega), z0, val_take_s]
        rw [hv] at hv2
        grind
  · rintro _ υ ⟨F, u1, u2, u3, u4, u5, rfl, he, hF, hFl, hk, lo, hz, hv⟩
    rw [enum_len, List.length_map, take_all (Nat.le_refl _)] at hv
    conv => whnf
    refine c_normal G hF lo fun r σ' hr1 hr2 hr3 hr4 => ?_
    rw [hv] at hr4
    exact hQ r σ' hr1 (he.none hr2) (he.trans hr3) hr4
end
end Mine
end
section
set_option maxRecDepth 100000
namespace Mine
open PySem PySem.W PyProof.Rows PySem.Calls

section
variable {h0 : Heap} {prog : Program} {w : World} {mg mb : Str → Option Value} (G : Gd (KK w) h0 mg mb) {n : Nat}

include G in
theorem c_guessed {t : Addr} {t0 t1 t2 f1 f2 : Int} {σ : AHeap} {Q : V → AHeap → Prop} (ht : σ t = some (iL [t0, t1, t2])) (h0' : 0 ≤ t0 ∧ t0 < 256) (h1' : 0 ≤ t1 ∧ t1 < 256) (h2' : 0 ≤ t2 ∧ t2 < 256) (hf : 0 < f1 ∧ f1 < 256) (hf2 : 0 ≤ f2 ∧ f2 < 256)
    (hQ : ∀ g, 0 ≤ g → g ≤ 255 → (∀ q, 0 ≤ q → q ≤ 255 → q * (f1 * 256 + f2) ≤ t2 * 65536 + t1 * 256 + t0 → q ≤ g) → (g * f1 + 256 ≤ t2 * 256 + t1 ∨ g * (f1 * 256 + f2) ≤ t2 * 65536 + t1 * 256 + t0) → Q (.int g) σ) :
    CC prog w h0 (n + 1) (.ref 329) [.ref t, .int f1, .int f2, .int 8] σ Q := by
  refine enter G [some (.ref t), some (.int f1), some (.int f2), some (.int 8), none, none, none, none] (at_guessed_limb _) rfl rfl ?_
  conv => whnf
  refine ix ht 2 rfl (by simp) ?_
  rw [show gt [t0, t1, t2] 2 = t2 from rfl]
  conv => whnf
  refine ⟨⟨by decide, ?_⟩, ?_⟩
  · have : bitsI t2 ≤ 64 := bits_small (by omega) (by omega)
    show (bitsI t2 : Int) + 8 ≤ 67108864
    omega
  conv => whnf
  refine ix ht 1 rfl (by simp) ?_
  rw [show gt [t0, t1, t2] 1 = t1 from rfl]
  conv => whnf
  rw [show Int.toNat 8 = 8 from rfl, or_add h2'.1 h1'.1 (by show _ < (256 : Int); omega)]
  refine ⟨⟨by decide, by decide⟩, ?_⟩
  conv => whnf
  refine ⟨⟨by omega, by omega⟩, ?_⟩
  conv => whnf
  refine ⟨mulFits_small ?_ ?_, ?_⟩
  · rw [fdiv_pos (by omega)]
    have : 0 ≤ (t2 * 2 ^ 8 + t1) / f1 := Int.ediv_nonneg (by omega) (by omega)
    show _ < min _ (256 - 1 : Int)
    omega
  · show min _ (256 - 1 : Int) < _
    omega
  conv => whnf
  rw [fdiv_pos (by omega)]
  have e8 : t2 * 2 ^ 8 + t1 = t2 * 256 + t1 := rfl
  rw [e8]
  have hd0 : 0 ≤ (t2 * 256 + t1) / f1 := Int.ediv_nonneg (by omega) (by omega)
  have hd1 : (t2 * 256 + t1) / f1 * f1 ≤ t2 * 256 + t1 := Int.ediv_mul_le _ (by omega)
  generalize hg0 : min ((t2 * 256 + t1) / f1) ((1 : Int) * 2 ^ 8 - 1) = g0
  have e255 : (1 : Int) * 2 ^ 8 - 1 = 255 := rfl
  rw [e255] at hg0
  have g0a : 0 ≤ g0 := by omega
  have g0b : g0 ≤ 255 := by omega
  have g0c : g0 * f1 ≤ t2 * 256 + t1 := by
    have := Int.mul_le_mul_of_nonneg_right (show g0 ≤ (t2 * 256 + t1) / f1 by omega) (show 0 ≤ f1 by omega)
    omega
  have g0d : ∀ q, 0 ≤ q → q ≤ 255 → q * (f1 * 256 + f2) ≤ t2 * 65536 + t1 * 256 + t0 → q ≤ g0 := fun q q0 q1 hq => by
    have a1 : 0 ≤ q * f2 := Int.mul_nonneg q0 hf2.1
    have a2 : q * (f1 * 256 + f2) = q * f1 * 256 + q * f2 := by grind
    have a3 : q * f1 ≤ t2 * 256 + t1 := by omega
    have := (Int.le_ediv_iff_mul_le hf.1).mpr a3
    omega
  refine ⟨fun m ρ υ => σ = υ ∧ ∃ g r, ρ = [some (.ref t), some (.int f1), some (.int f2), some (.int 8), some (.int (t2 * 256 + t1)), some (.int 256), some (.int g), some (.int r)] ∧ 0 ≤ g ∧ g ≤ 255 ∧ r = t2 * 256 + t1 - g * f1 ∧ 0 ≤ r ∧ m = (256 - r).toNat ∧ (∀ q, 0 ≤ q → q ≤ 255 → q * (f1 * 256 + f2) ≤ t2 * 65536 + t1 * 256 + t0 → q ≤ g),
    fun ρ υ => σ = υ ∧ ∃ g r, ρ = [some (.ref t), some (.int f1), some (.int f2), some (.int 8), some (.int (t2 * 256 + t1)), some (.int 256), some (.int g), some (.int r)] ∧ Q (.int g) σ,
    ⟨_, rfl, g0, t2 * 256 + t1 - g0 * f1, rfl, g0a, g0b, rfl, by omega, rfl, g0d⟩, ?_, ?_⟩
  · rintro m _ _ ⟨rfl, g, r, rfl, ga, gb, hr, r0, rfl, hq⟩
    conv => whnf
    refine ⟨fun e => ?_, fun e => ?_⟩
    · have e := of_decide_eq_true e
      conv => whnf
      refine ⟨mulFits_small (by omega) (by omega), ?_⟩
      conv => whnf
      refine ⟨⟨by decide, ?_⟩, ?_⟩
      · have : bitsI r ≤ 64 := bits_small (by omega) (by omega)
        show (bitsI r : Int) + 8 ≤ 67108864
        omega
      conv => whnf
      refine ix ht 0 rfl (by simp) ?_
      rw [show gt [t0, t1, t2] 0 = t0 from rfl]
      conv => whnf
      rw [show Int.toNat 8 = 8 from rfl, or_add r0 h0'.1 (by show _ < (256 : Int); omega)]
      have e8 : r * 2 ^ 8 + t0 = r * 256 + t0 := rfl
      rw [e8]
      have e3 : g * (f1 * 256 + f2) = g * f1 * 256 + g * f2 := by grind
      refine ⟨fun e2 => ?_, fun e2 => ?_⟩
      · have e2 := of_decide_eq_true e2
        have gp : 0 < g := by
          rcases Int.lt_or_eq_of_le ga with q | q
          · exact q
          · subst q; omega
        conv => whnf
        refine ⟨(256 - (r + f1)).toNat, by omega, rfl, g - 1, r + f1, rfl, by omega, by omega, by grind, by omega, rfl, fun q q0 q1 hq' => ?_⟩
        have a1 := hq q q0 q1 hq'
        rcases Int.lt_or_eq_of_le a1 with z | z
        · omega
        · subst z; omega
      · have e2 := of_decide_eq_false e2
        exact ⟨rfl, g, r, rfl, hQ g ga gb hq (.inr (by omega))⟩
    · have e := of_decide_eq_false e
      exact ⟨nofun, fun _ => ⟨rfl, g, r, rfl, hQ g ga gb hq (.inl (by omega))⟩⟩
  · rintro _ _ ⟨rfl, g, r, rfl, hq⟩
    conv => whnf
    exact hq

include G in
theorem c_take_away {a b : Addr} {F m : List Int} {g : Int} {p : Nat} {σ : AHeap} {Q : V → AHeap → Prop} (hB : Bs h0 a) (ha : σ a = some (iL F)) (hb : σ b = some (iL m)) (hab : b ≠ a) (lF : Lo F) (lm : Lo m) (hF : F.length ≤ ML) (g0 : 0 ≤ g) (g1 : g ≤ 255) (hp : p + m.length < F.length)
    (hQ : ∀ e F' σ', ExtBut a σ σ' → σ' a = some (iL F') → F'.length = F.length → Lo F' → (e = 0 ∨ e = 1) → (∀ i, i < p ∨ p + m.length < i → gt F' i = gt F i) → val F' = val F - 256 ^ p * g * val m + 256 ^ (p + m.length) * 256 * e → Q (.int e) σ') :
    CC prog w h0 (n + 1) (.ref 336) [.ref a, .ref b, .int g, .int p, .int 8] σ Q := by
  have hML := ML_eq
  refine enter G [some (.ref a), some (.ref b), some (.int g), some (.int p), some (.int 8), none, none, none, none, none] (at_take_away _) rfl rfl ?_
  conv => whnf
  refine ⟨⟨by decide, by decide⟩, ?_⟩
  conv => whnf
  refine ⟨_, hb, ?_⟩
  have eb : ∀ {υ}, ExtBut a σ υ → υ b = some (iL m) := fun e => e _ _ hab hb
  refine ⟨fun j ρ υ => ∃ c F' u1 u2 u3, ρ = [some (.ref a), some (.ref b), some (.int g), some (.int p), some (.int 8), some (.int c), some (.int 256), u1, u2, u3] ∧ ExtBut a σ υ ∧ υ a = some (iL F') ∧ F'.length = F.length ∧ j ≤ m.length ∧ Lo F' ∧ 0 ≤ c ∧ c ≤ 256 ∧ (∀ i, i < p ∨ p + j ≤ i → gt F' i = gt F i) ∧ val F' - 256 ^ (p + j) * c = val F - 256 ^ p * g * val (m.take j),
    ⟨0, F, none, none, none, rfl, fun _ _ _ e => e, ha, rfl, Nat.zero_le _, lF, Int.le_refl _, by decide, fun _ _ => rfl, by simp [val]⟩, ?_, ?_, ?_⟩
  · rintro j _ υ ⟨c, F', u1, u2, u3, rfl, he, _⟩
    exact eb he
  · rintro j _ υ it ⟨c, F', u1, u2, u3, rfl, he, hF', hFl, hj, lo, c0, c1, hi, hv⟩ hit
    obtain ⟨hjl, rfl⟩ := enum_get hit
    have b2 := gt_lo lm j
    have b3 := gt_lo lo (p + j)
    have m0 : 0 ≤ g * gt m j := Int.mul_nonneg g0 b2.1
    have m1 : g * gt m j ≤ 255 * 255 := Int.mul_le_mul g1 (by omega) b2.1 (by decide)
    conv => whnf
    refine ix hF' (p + j) (by omega) (by omega) ?_
    conv => whnf
    refine ⟨mulFits_small (by omega) (by omega), ?_⟩
    conv => whnf
    refine ⟨by decide, ?_⟩
    conv => whnf
    refine ⟨mulFits_small (by omega) (by omega), ?_⟩
    conv => whnf
    refine ⟨⟨by decide, by decide⟩, ?_⟩
    conv => whnf
    rw [fmod_pos (by decide), fdiv_pos (by decide)]
    generalize hq : (g * gt m j + c) / 256 = q
    generalize hr : (g * gt m j + c) % 256 = r
    have e1 := Int.emod_add_mul_ediv (g * gt m j + c) 256
    rw [hq, hr] at e1
    generalize hh : gt F' (p + j) - r = here
    refine joinV (P := (fun v τ => υ = τ ∧ v = .int (if here < 0 then 1 else 0))) (F := fun N => (decide _ = true → wpE _ _ _ _ _ N) ∧ (decide _ = false → wpE _ _ _ _ _ N)) ?_ ?_
    · intro N hN
      refine ⟨fun e => ?_, fun e => ?_⟩
      · have e := of_decide_eq_true e
        exact hN _ _ ⟨rfl, by rw [if_pos e]⟩
      · have e := of_decide_eq_false e
        exact hN _ _ ⟨rfl, by rw [if_neg e]⟩
    · rintro _ _ ⟨rfl, rfl⟩
      conv => whnf
      refine joinV (P := (fun v τ => υ = τ ∧ v = .int (if here < 0 then here + 256 else here))) (F := fun N => (decide _ = true → wpE _ _ _ _ _ N) ∧ (decide _ = false → wpE _ _ _ _ _ N)) ?_ ?_
      · intro N hN
        refine ⟨fun e => ?_, fun e => ?_⟩
        · have e := of_decide_eq_true e
          exact hN _ _ ⟨rfl, by rw [if_pos e]⟩
        · have e := of_decide_eq_false e
          exact hN _ _ ⟨rfl, by rw [if_neg e]⟩
      · rintro _ _ ⟨rfl, rfl⟩
        conv => whnf
        refine stx hB hF' (p + j) (by omega) (by omega) fun υ' hu1 hu2 => ?_
        conv => whnf
        refine ⟨_, _, _, _, _, rfl, fun x o hx ho => hu1 x o hx (he x o hx ho), hu2, by simp [hFl], by omega, lo.set (by split <;> omega) (by split <;> omega), by split <;> omega, by split <;> omega, fun i hi2 => ?_, ?_⟩
        · rw [gt_set_ne (by omega)]; exact hi i (by omega)
        · rw [val_set (by omega), val_take_s, show p + (j + 1) = p + j + 1 by omega, pow_s, Int.pow_add] at *
          have : (256 : Int) ^ p * 256 ^ j * (r + 256 * q) = 256 ^ p * 256 ^ j * (g * gt m j + c) := by rw [e1]
          split <;> grind
  · rintro _ υ ⟨c, F', u1, u2, u3, rfl, he, hF', hFl, hj, lo, c0, c1, hi, hv⟩
    rw [enum_len, List.length_map] at hv hi
    rw [take_all (Nat.le_refl _)] at hv
    have b3 := gt_lo lo (p + m.length)
    conv => whnf
    refine ⟨_, eb he, ?_⟩
    conv => whnf
    simp only [List.length_map]
    refine ix hF' (p + m.length) (by omega) (by omega) ?_
    conv => whnf
    generalize hh : gt F' (p + m.length) - c = here
    refine joinV (P := (fun v τ => υ = τ ∧ v = .int (if here < 0 then here + 256 else here))) (F := fun N => (decide _ = true → wpE _ _ _ _ _ N) ∧ (decide _ = false → wpE _ _ _ _ _ N)) ?_ ?_
    · intro N hN
      refine ⟨fun e => ?_, fun e => ?_⟩
      · have e := of_decide_eq_true e
        exact hN _ _ ⟨rfl, by rw [if_pos e]⟩
      · have e := of_decide_eq_false e
        exact hN _ _ ⟨rfl, by rw [if_neg e]⟩
    · rintro _ _ ⟨rfl, rfl⟩
      conv => whnf
      refine ⟨_, eb he, ?_⟩
      conv => whnf
      simp only [List.length_map]
      refine stx hB hF' (p + m.length) (by omega) (by omega) fun υ' hu1 hu2 => ?_
      have fin : ∀ e : Int, e = (if here < 0 then 1 else 0) → Q (.int e) υ' := fun e ee => by
        refine hQ e _ υ' (fun x o hx ho => hu1 x o hx (he x o hx ho)) hu2 (by simp [hFl]) (lo.set (by split <;> omega) (by split <;> omega)) (by subst ee; split <;> simp) (fun i hi2 => ?_) ?_
        · rw [gt_set_ne (by omega)]; exact hi i (by omega)
        · rw [val_set (by omega)]
          subst ee
          split <;> grind
      conv => whnf
      refine ⟨fun e => ?_, fun e => ?_⟩
      · have e := of_decide_eq_true e
        exact fin 1 (by rw [if_pos e])
      · have e := of_decide_eq_false e
        exact fin 0 (by rw [if_neg e])

include G in
theorem c_put_back {a b : Addr} {F m : List Int} {p : Nat} {σ : AHeap} {Q : V → AHeap → Prop} (hB : Bs h0 a) (ha : σ a = some (iL F)) (hb : σ b = some (iL m)) (hab : b ≠ a) (lF : Lo F) (lm : Lo m) (hF : F.length ≤ ML) (hp : p + m.length < F.length)
    (hQ : ∀ e F' σ', ExtBut a σ σ' → σ' a = some (iL F') → F'.length = F.length → Lo F' → (e = 0 ∨ e = 1) → (∀ i, i < p ∨ p + m.length < i → gt F' i = gt F i) → val F' = val F + 256 ^ p * val m - 256 ^ (p + m.length) * 256 * e → Q .none σ') :
    CC prog w h0 (n + 1) (.ref 343) [.ref a, .ref b, .int p, .int 8] σ Q := by
  have hML := ML_eq
  refine enter G [some (.ref a), some (.ref b), some (.int p), some (.int 8), none, none, none, none] (at_put_back _) rfl rfl ?_
  conv => whnf
  refine ⟨⟨by decide, by decide⟩, ?_⟩
  conv => whnf
  refine ⟨_, hb, ?_⟩
  have eb : ∀ {υ}, ExtBut a σ υ → υ b = some (iL m) := fun e => e _ _ hab hb
  refine ⟨fun j ρ υ => ∃ c F' u1 u2, ρ = [some (.ref a), some (.ref b), some (.int p), some (.int 8), some (.int c), some (.int 255), u1, u2] ∧ ExtBut a σ υ ∧ υ a = some (iL F') ∧ F'.length = F.length ∧ j ≤ m.length ∧ Lo F' ∧ 0 ≤ c ∧ c ≤ 1 ∧ (∀ i, i < p ∨ p + j ≤ i → gt F' i = gt F i) ∧ val F' + 256 ^ (p + j) * c = val F + 256 ^ p * val (m.take j),
    ⟨0, F, none, none, rfl, fun _ _ _ e => e, ha, rfl, Nat.zero_le _, lF, Int.le_refl _, by decide, fun _ _ => rfl, by simp [val]⟩, ?_, ?_, ?_⟩
  · rintro j _ υ ⟨c, F', u1, u2, rfl, he, _⟩
    exact eb he
  · rintro j _ υ it ⟨c, F', u1, u2, rfl, he, hF', hFl, hj, lo, c0, c1, hi, hv⟩ hit
    obtain ⟨hjl, rfl⟩ := enum_get hit
    have b2 := gt_lo lm j
    have b3 := gt_lo lo (p + j)
    conv => whnf
    refine ix hF' (p + j) (by omega) (by omega) ?_
    conv => whnf
    refine stx hB hF' (p + j) (by omega) (by omega) fun υ' hu1 hu2 => ?_
    rw [mask_and (by omega)] at hu2
    conv => whnf
    refine ⟨by decide, ?_⟩
    rw [shr8]
    refine ⟨_, _, _, _, rfl, fun x o hx ho => hu1 x o hx (he x o hx ho), hu2, by simp [hFl], by omega, lo.set (by omega) (by omega), by omega, by omega, fun i hi2 => ?_, ?_⟩
    · rw [gt_set_ne (by omega)]; exact hi i (by omega)
    · rw [val_set (by omega), val_take_s, show p + (j + 1) = p + j + 1 by omega, pow_s, Int.pow_add] at *
      have e1 := Int.emod_add_mul_ediv (c + (gt F' (p + j) + gt m j)) 256
      generalize (c + (gt F' (p + j) + gt m j)) / 256 = q at *
      generalize (c + (gt F' (p + j) + gt m j)) % 256 = r at *
      have : (256 : Int) ^ p * 256 ^ j * (r + 256 * q) = 256 ^ p * 256 ^ j * (c + (gt F' (p + j) + gt m j)) := by rw [e1]
      grind
  · rintro _ υ ⟨c, F', u1, u2, rfl, he, hF', hFl, hj, lo, c0, c1, hi, hv⟩
    rw [enum_len, List.length_map] at hv hi
    rw [take_all (Nat.le_refl _)] at hv
    have b3 := gt_lo lo (p + m.length)
    conv => whnf
    refine ⟨_, eb he, ?_⟩
    conv => whnf
    simp only [List.length_map]
    refine ix hF' (p + m.length) (by omega) (by omega) ?_
    conv => whnf
    refine ⟨_, eb he, ?_⟩
    conv => whnf
    simp only [List.length_map]
    refine stx hB hF' (p + m.length) (by omega) (by omega) fun υ' hu1 hu2 => ?_
    rw [mask_and (by omega)] at hu2
    have e1 := Int.emod_add_mul_ediv (gt F' (p + m.length) + c) 256
    refine hQ ((gt F' (p + m.length) + c) / 256) _ υ' (fun x o hx ho => hu1 x o hx (he x o hx ho)) hu2 (by simp [hFl]) (lo.set (by omega) (by omega)) (by omega) (fun i hi2 => ?_) ?_
    · rw [gt_set_ne (by omega)]; exact hi i (by omega)
    · rw [val_set (by omega)]
      generalize (gt F' (p + m.length) + c) / 256 = q at *
      generalize (gt F' (p + m.length) + c) % 256 = r at *
      have : (256 : Int) ^ (p + m.length) * (r + 256 * q) = 256 ^ (p + m.length) * (gt F' (p + m.length) + c) := by rw [e1]
      grind
end
end Mine
end
section
set_option maxRecDepth 100000
namespace Mine
open PySem PySem.W PyProof.Rows PySem.Calls

theorem guess_q {W M P T3 hi t0 f1 f2 ml wl g : Int} (hP : 0 < P) (hW : W = wl + P * T3) (hwl : 0 ≤ wl ∧ wl < P) (hM : M = ml + P * (f1 * 256 + f2)) (hml : 0 ≤ ml ∧ ml < P) (hT : T3 = hi * 256 + t0) (ht0 : 0 ≤ t0 ∧ t0 < 256) (hhi : 0 ≤ hi)
    (hf1 : 128 ≤ f1) (hf2 : 0 ≤ f2 ∧ f2 < 256) (g0 : 0 ≤ g) (g1 : g ≤ 255) (hq : ∀ q, 0 ≤ q → q ≤ 255 → q * (f1 * 256 + f2) ≤ T3 → q ≤ g) (hg : g * f1 + 256 ≤ hi ∨ g * (f1 * 256 + f2) ≤ T3) (hWM : W < 256 * M) :
    0 ≤ W / M ∧ W / M ≤ 255 ∧ (g = W / M ∨ g = W / M + 1) ∧ 0 ≤ W - W / M * M ∧ W - W / M * M < M := by
  have hF2 : 128 * 256 ≤ f1 * 256 + f2 := by omega
  have hPF : P * (128 * 256) ≤ P * (f1 * 256 + f2) := Int.mul_le_mul_of_nonneg_left hF2 (Int.le_of_lt hP)
  have hMp : 0 < M := by omega
  have hT0 : 0 ≤ T3 := by omega
  have hW0 : 0 ≤ W := by have := Int.mul_nonneg (Int.le_of_lt hP) hT0; omega
  have q0 : 0 ≤ W / M := Int.ediv_nonneg hW0 (Int.le_of_lt hMp)
  have q1 : W / M < 256 := Int.ediv_lt_of_lt_mul hMp hWM
  have q2 : W / M * M ≤ W := Int.ediv_mul_le _ (by omega)
  have q3 : W < (W / M + 1) * M := Int.lt_ediv_add_one_mul_self _ hMp
  generalize W / M = q at *
  rw [Int.add_mul, Int.one_mul] at q3
  have q4 : q * M = q * ml + P * (q * (f1 * 256 + f2)) := by rw [hM]; grind
  have q5 : 0 ≤ q * ml := Int.mul_nonneg q0 hml.1
  have q6 : q * (f1 * 256 + f2) ≤ T3 := by
    rcases Int.lt_or_le T3 (q * (f1 * 256 + f2)) with z | z
    · have := Int.mul_le_mul_of_nonneg_left (show T3 + 1 ≤ q * (f1 * 256 + f2) by omega) (Int.le_of_lt hP)
      rw [Int.mul_add] at this
      omega
    · exact z
  have q7 := hq q q0 (by omega) q6
  have g4 : g * M = g * ml + P * (g * (f1 * 256 + f2)) := by rw [hM]; grind
  have g5 : g * ml ≤ 255 * P := Int.mul_le_mul g1 (by omega) hml.1 (by omega)
  have q8 : g ≤ q + 1 := by
    rcases Int.lt_or_le (q + 1) g with z | z
    · exfalso
      have z1 : (q + 2) * M ≤ g * M := Int.mul_le_mul_of_nonneg_right (by omega) (by omega)
      rw [Int.add_mul] at z1
      rcases hg with hg | hg
      · have a1 := Int.mul_le_mul_of_nonneg_left hg (show 0 ≤ P * 256 by omega)
        have a2 : P * 256 * (g * f1 + 256) = P * (g * f1 * 256) + P * 65536 := by grind
        have a3 : P * 256 * hi = P * (hi * 256) := by grind
        have a4 : P * (hi * 256) ≤ P * T3 := Int.mul_le_mul_of_nonneg_left (by omega) (Int.le_of_lt hP)
        have a5 : P * (g * (f1 * 256 + f2)) = P * (g * f1 * 256) + P * (g * f2) := by grind
        have a6 : g * f2 ≤ 255 * 255 := Int.mul_le_mul g1 (by omega) hf2.1 (by decide)
        have a7 : P * (g * f2) ≤ P * (255 * 255) := Int.mul_le_mul_of_nonneg_left a6 (Int.le_of_lt hP)
        omega
      · have a1 := Int.mul_le_mul_of_nonneg_left hg (Int.le_of_lt hP)
        omega
    · exact z
  exact ⟨q0, by omega, by omega, by omega, by omega⟩

theorem cut_three {F : List Int} {p : Nat} {i j : Int} (hi : i = (p : Int)) (hj : j = (p : Int) + 3) (h : p + 3 ≤ F.length) : cut (F.map V.int) (some i) (some j) = [gt F p, gt F (p + 1), gt F (p + 2)].map .int := by
  subst hi hj
  have e1 : cutLo (some (p : Int)) (F.map V.int).length = p := by
    unfold cutLo; dsimp only; rw [if_neg (by omega), List.length_map, Int.toNat_natCast]; omega
  have e2 : cutHi (some ((p : Int) + 3)) (F.map V.int).length = p + 3 := by
    unfold cutHi; dsimp only; rw [if_neg (by omega), List.length_map]; omega
  rw [cut, e1, e2, ← List.map_drop, ← List.map_take]
  congr 1
  rw [show p + 3 - p = 3 by omega, List.drop_eq_getElem_cons (by omega), List.drop_eq_getElem_cons (by omega), List.drop_eq_getElem_cons (by omega), gt_eq, gt_eq, gt_eq]
  rfl

theorem take_eq {F F' : List Int} {n : Nat} (hl : F'.length = F.length) (h : ∀ i, i < n → gt F' i = gt F i) : F'.take n = F.take n := by
  apply List.ext_getElem (by simp [hl])
  intro i h1 h2
  rw [List.getElem_take, List.getElem_take, gt_eq, gt_eq]
  rw [List.length_take] at h1
  exact h i (by omega)
theorem drop_eq {F F' : List Int} {n : Nat} (hl : F'.length = F.length) (h : ∀ i, n ≤ i → gt F' i = gt F i) : F'.drop n = F.drop n := by
  apply List.ext_getElem (by simp [hl])
  intro i h1 h2
  rw [List.getElem_drop, List.getElem_drop, gt_eq, gt_eq]
  exact h _ (by omega)

theorem drop_small {F : List Int} {j s : Nat} (h : Lo F) (hj : j + s ≤ F.length) (hv : val (F.drop j) < 256 ^ s) : val (F.drop (j + s)) = 0 := by
  have h1 := val_split (F.drop j) s (by rw [List.length_drop]; omega)
  rw [List.drop_drop] at h1
  have h2 := val_nonneg ((h.drop j).take s)
  have h3 := val_nonneg (h.drop (j + s))
  rcases Int.lt_or_eq_of_le h3 with q | q
  · have := Int.mul_le_mul_of_nonneg_left (show 1 ≤ val (F.drop (j + s)) by omega) (Int.le_of_lt (pow_pos' s))
    omega
  · exact q.symm

theorem win1 {p s : Nat} {vE vE1 tk dE dE1 g M e : Int} (s1 : vE = tk + 256 ^ p * dE) (s2 : vE1 = tk + 256 ^ p * dE1) (h : vE1 = vE - 256 ^ p * g * M + 256 ^ (p + s) * 256 * e) : dE1 = dE - g * M + 256 ^ s * 256 * e := by
  have pp := pow_pos' p
  have : 256 ^ p * dE1 = 256 ^ p * (dE - g * M + 256 ^ s * 256 * e) := by
    rw [Int.pow_add] at h
    grind
  exact Int.eq_of_mul_eq_mul_left (by omega) this
theorem win2 {p s : Nat} {vE vE1 tk dE dE1 M e : Int} (s1 : vE = tk + 256 ^ p * dE) (s2 : vE1 = tk + 256 ^ p * dE1) (h : vE1 = vE + 256 ^ p * M - 256 ^ (p + s) * 256 * e) : dE1 = dE + M - 256 ^ s * 256 * e := by
  have pp := pow_pos' p
  have : 256 ^ p * dE1 = 256 ^ p * (dE + M - 256 ^ s * 256 * e) := by
    rw [Int.pow_add] at h
    grind
  exact Int.eq_of_mul_eq_mul_left (by omega) this
theorem win3 {p : Nat} {vD q M tk dE vE vF : Int} (h : vD * M + vE = vF) (s1 : vE = tk + 256 ^ p * dE) : (vD + 256 ^ p * (q - 0)) * M + (tk + 256 ^ p * (dE - q * M)) = vF := by
  grind

section
variable {h0 : Heap} {prog : Program} {w : World} {mg mb : Str → Option Value} (G : Gd (KK w) h0 mg mb) {n : Nat}

set_option maxHeartbeats 4000000 in
include G in
theorem c_divide_rows {a b : Addr} {F m : List Int} {σ : AHeap} {Q : V → AHeap → Prop} (hB : Bs h0 a) (ha : σ a = some (iL F)) (hb : σ b = some (iL m)) (hab : b ≠ a) (lF : Lo F) (lm : Lo m) (hF : F.length ≤ ML) (hs : 2 ≤ m.length) (hsF : m.length < F.length) (htop : 128 ≤ gt m (m.length - 1))
    (hlow : val (F.drop (F.length - m.length)) < val m)
    (hQ : ∀ f D F' σ', Bs h0 f → σ f = none → ExtBut a σ σ' → σ' a = some (iL F') → σ' f = some (iL D) → Lo F' → Lo D → F'.length = F.length → D.length ≤ F.length → val D * val m + val F' = val F → val F' < val m → Q (.ref f) σ') :
    CC prog w h0 (n + 2) (.ref 350) [.ref a, .ref b, .int 8] σ Q := by
  have hML := ML_eq
  generalize hsz : m.length = s at *
  refine enter G [some (.ref a), some (.ref b), some (.int 8), none, none, none, none] (at_divide_rows _) rfl rfl ?_
  conv => whnf
  refine ⟨_, hb, ?_⟩
  conv => whnf
  intro z τ hz1 hz2 hz3 hz4
  conv => whnf
  refine ⟨_, hz3 _ _ ha, ?_⟩
  conv => whnf
  simp only [List.length_map, hsz]
  refine ⟨.int 0, ⟨hz4, by omega, by show _ ≤ (16777216 : Int); omega⟩, ?_⟩
  intro f τ' hf1 hf2 hf3 hf4
  replace hf2 := hz3.none hf2
  replace hf3 := hz3.trans hf3
  rw [rep_map, show ((F.length : Int) - s).toNat = F.length - s by omega] at hf4
  have hfa : f ≠ a := fun q => by rw [q, ha] at hf2; cases hf2
  conv => whnf
  refine ⟨_, hf3 _ _ ha, ?_⟩
  conv => whnf
  simp only [List.length_map, hsz]
  refine ⟨⟨by unfold small; omega, by unfold small; omega, by first | rfl | trivial⟩, ?_⟩
  have eb : ∀ {υ}, ExtBut a σ υ → υ b = some (iL m) := fun e => e _ _ hab hb
  have mlt : val m < 256 ^ s := by rw [← hsz]; exact val_lt lm
  refine ⟨fun k ρ υ => ∃ E D u1 u2, ρ = [some (.ref a), some (.ref b), some (.int 8), some (.int s), some (.ref f), u1, u2] ∧ ExtBut a σ υ ∧ υ a = some (iL E) ∧ υ f = some (iL D) ∧ E.length = F.length ∧ D.length = F.length - s ∧ k ≤ F.length - s ∧ Lo E ∧ Lo D ∧ (∀ i, i < F.length - s - k → gt D i = 0) ∧ val D * val m + val E = val F ∧ val (E.drop (F.length - s - k)) < val m,
    ⟨F, _, none, none, rfl, fun x o _ e => hf3 x o e, hf3 _ _ ha, hf4, rfl, by simp, Nat.zero_le _, lF, Lo.rep, fun i hi => gt_rep (by omega), by rw [val_rep_zero]; omega, hlow⟩, fun _ _ _ _ => trivial, ?_, ?_⟩
  · rintro k _ υ it ⟨E, D, u1, u2, rfl, he, hE, hD, hEl, hDl, hk, lE, lD, hz0, hv, hw⟩ hit
    obtain ⟨rfl, hbb⟩ := downTo_get hit
    obtain ⟨p, hp⟩ : ∃ p, p = F.length - s - 1 - k := ⟨_, rfl⟩
    have hpI : (F.length : Int) - s - 1 - k = (p : Int) := by omega
    rw [hpI]
    rw [show F.length - s - k = p + 1 by omega] at hw hz0
    have hps : p + s < F.length := by omega
    conv => whnf
    refine ⟨_, hE, ?_⟩
    intro t υ1 ht1 ht2 ht3 ht4
    rw [cut_three (p := p + s - 2) (by omega) (by omega) (by omega)] at ht4
    have hft : f ≠ t := fun q => by rw [q, ht2] at hD; cases hD
    have ext1 : ExtBut a σ υ1 := fun x o hx e => ht3 _ _ (he x o hx e)
    conv => whnf
    refine ix (eb ext1) (s - 1) (by omega) (by omega) ?_
    conv => whnf
    refine ix (eb ext1) (s - 2) (by omega) (by omega) ?_
    conv => whnf
    have d0 := gt_lo lE (p + s - 2)
    have d1 := gt_lo lE (p + s - 2 + 1)
    have d2 := gt_lo lE (p + s - 2 + 2)
    have m1 := gt_lo lm (s - 1)
    have m2 := gt_lo lm (s - 2)
    refine c_guessed G ht4 d0 d1 d2 (by omega) m2 fun g g0 g1 gq gg => ?_
    have w1 := drop_small lE (j := p + 1) (s := s) (by omega) (Int.lt_trans hw mlt)
    have w2 := val_split (E.drop p) (s - 2) (by rw [List.length_drop]; omega)
    rw [List.drop_drop, show p + (s - 2) = p + s - 2 by omega, val_drop (l := E) (j := p + s - 2) (by omega), val_drop (l := E) (j := p + s - 2 + 1) (by omega), val_drop (l := E) (j := p + s - 2 + 1 + 1) (by omega), show p + s - 2 + 1 + 1 + 1 = p + 1 + s by omega, w1, show p + s - 2 + 1 + 1 = p + s - 2 + 2 from rfl] at w2
    have w3 := val_nonneg ((lE.drop p).take (s - 2))
    have w4 := val_lt ((lE.drop p).take (s - 2))
    rw [List.length_take, List.length_drop, Nat.min_eq_left (by omega)] at w4
    have v2 := val_split m (s - 2) (by omega)
    rw [val_drop (l := m) (j := s - 2) (by omega), val_drop (l := m) (j := s - 2 + 1) (by omega), show s - 2 + 1 + 1 = m.length by omega, List.drop_length, show s - 2 + 1 = s - 1 by omega] at v2
    simp only [val] at v2
    have v3 := val_nonneg (lm.take (s - 2))
    have v4 := val_lt (lm.take (s - 2))
    rw [List.length_take, Nat.min_eq_left (by omega)] at v4
    have wd := val_drop (l := E) (j := p) (by omega)
    have gp := gt_lo lE p
    have K := guess_q (W := val (E.drop p)) (M := val m) (P := 256 ^ (s - 2)) (T3 := gt E (p + s - 2 + 2) * 65536 + gt E (p + s - 2 + 1) * 256 + gt E (p + s - 2)) (hi := gt E (p + s - 2 + 2) * 256 + gt E (p + s - 2 + 1)) (t0 := gt E (p + s - 2)) (f1 := gt m (s - 1)) (f2 := gt m (s - 2)) (ml := val (m.take (s - 2))) (wl := val ((E.drop p).take (s - 2))) (g := g)
      (pow_pos' _) (by rw [w2]; congr 2; omega) ⟨w3, w4⟩ (by rw [v2]; congr 2; omega) ⟨v3, v4⟩ (by omega) d0 (by omega) htop m2 g0 g1 gq gg (by omega)
    obtain ⟨q0, q1, qg, r0, r1⟩ := K
    generalize hqq : val (E.drop p) / val m = q at *
    have mpos : 0 < val m := by omega
    conv => whnf
    refine c_take_away G hB (ht3 _ _ hE) (eb ext1) hab lE lm (by omega) g0 g1 (by omega) fun e E1 υ2 hx1 hx2 hx3 lE1 he1 hx4 hx5 => ?_
    rw [hsz] at hx4 hx5
    have tk1 : E1.take p = E.take p := take_eq hx3 fun i hi => hx4 i (.inl hi)
    have dr1 : E1.drop (p + 1 + s) = E.drop (p + 1 + s) := drop_eq hx3 fun i hi => hx4 i (.inr (by omega))
    have s1 := val_split E p (by omega)
    have s2 := val_split E1 p (by omega)
    rw [tk1] at s2
    have pp := pow_pos' p
    have hwin1 : val (E1.drop p) = val (E.drop p) - g * val m + 256 ^ s * 256 * e := by
      exact win1 s1 s2 hx5
    have hwin2 := val_nonneg (lE1.drop p)
    have hwin3 : val (E1.drop p) < 256 ^ s * 256 := by
      have := val_split (E1.drop p) (s + 1) (by rw [List.length_drop]; omega)
      rw [List.drop_drop, show p + (s + 1) = p + 1 + s by omega, dr1, w1] at this
      have h2 := val_lt ((lE1.drop p).take (s + 1))
      rw [List.length_take, List.length_drop, Nat.min_eq_left (by omega), pow_s] at h2
      omega
    have ext2 : ExtBut a σ υ2 := fun x o hx ho => hx1 x o hx (ext1 x o hx ho)
    have hD2 : υ2 f = some (iL D) := hx1 _ _ hfa (ht3 _ _ hD)
    have gD := hz0 p (by omega)
    have sp := pow_pos' s
    have fin : ∀ (E2 : List Int) (υ3 : AHeap) (u1 u2 : Option V), ExtBut a σ υ3 → υ3 a = some (iL E2) → υ3 f = some (iL (D.set p q)) → E2.length = F.length → Lo E2 → E2.take p = E.take p → val (E2.drop p) = val (E.drop p) - q * val m →
        ∃ E D u1' u2', [some (.ref a), some (.ref b), some (.int 8), some (.int s), some (.ref f), u1, u2] = [some (.ref a), some (.ref b), some (.int 8), some (.int s), some (.ref f), u1', u2'] ∧ ExtBut a σ υ3 ∧ υ3 a = some (iL E) ∧ υ3 f = some (iL D) ∧ E.length = F.length ∧ D.length = F.length - s ∧ k + 1 ≤ F.length - s ∧ Lo E ∧ Lo D ∧ (∀ i, i < F.length - s - (k + 1) → gt D i = 0) ∧ val D * val m + val E = val F ∧ val (E.drop (F.length - s - (k + 1))) < val m := by
      intro E2 υ3 u1 u2 hy1 hy2 hy3 hy4 hy5 hy6 hy7
      refine ⟨E2, D.set p q, u1, u2, rfl, hy1, hy2, hy3, hy4, by rw [List.length_set, hDl], by omega, hy5, lD.set q0 (by omega), fun i hi => ?_, ?_, ?_⟩
      · rw [gt_set_ne (by omega)]; exact hz0 i (by omega)
      · have s3 := val_split E2 p (by omega)
        rw [hy6, hy7] at s3
        rw [val_set (by omega), gD, s3]
        exact win3 hv s1
      · rw [show F.length - s - (k + 1) = p by omega, hy7]; omega
    conv => whnf
    refine ⟨fun ee => ?_, fun ee => ?_⟩
    · have ee : e = 1 := of_decide_eq_true ee
      subst ee
      have hgq : g = q + 1 := by
        rcases qg with z | z
        · exfalso; subst z; omega
        · exact z
      conv => whnf
      refine c_put_back G hB hx2 (eb ext2) hab lE1 lm (by omega) (by omega) fun e2 E2 υ3 hy1 hy2 hy3 lE2 he2 hy4 hy5 => ?_
      rw [hsz] at hy4 hy5
      have tk2 : E2.take p = E.take p := (take_eq hy3 fun i hi => hy4 i (.inl hi)).trans tk1
      have dr2 : E2.drop (p + 1 + s) = E.drop (p + 1 + s) := (drop_eq hy3 fun i hi => hy4 i (.inr (by omega))).trans dr1
      have s3 := val_split E2 p (by omega)
      rw [tk2] at s3
      have hwin4 : val (E2.drop p) = val (E1.drop p) + val m - 256 ^ s * 256 * e2 := by
        exact win2 s2 s3 hy5
      have hwin5 : val (E2.drop p) < 256 ^ s * 256 := by
        have := val_split (E2.drop p) (s + 1) (by rw [List.length_drop]; omega)
        rw [List.drop_drop, show p + (s + 1) = p + 1 + s by omega, dr2, w1] at this
        have h2 := val_lt ((lE2.drop p).take (s + 1))
        rw [List.length_take, List.length_drop, Nat.min_eq_left (by omega), pow_s] at h2
        omega
      have hgm : g * val m = q * val m + val m := by rw [hgq, Int.add_mul, Int.one_mul]
      have he2' : e2 = 1 := by
        rcases he2 with z | z
        · exfalso; subst z; omega
        · exact z
      subst he2'
      have hD3 : υ3 f = some (iL D) := hy1 _ _ hfa hD2
      conv => whnf
      refine ⟨rfl, ?_⟩
      conv => whnf
      rw [show g - 1 = q by omega]
      refine stx hf1 hD3 p rfl (by omega) fun υ4 hw1 hw2 => ?_
      have ext4 : ExtBut a σ υ4 := fun x o hx ho => hw1 x o (fun z => by rw [z, hf2] at ho; cases ho) (hy1 x o hx (ext2 x o hx ho))
      exact fin E2 υ4 _ _ ext4 (hw1 _ _ (Ne.symm hfa) hy2) hw2 (by omega) lE2 tk2 (by omega)
    · have ee : ¬ e = 1 := of_decide_eq_false ee
      have ee : e = 0 := by omega
      subst ee
      have hgq : g = q := by
        rcases qg with z | z
        · exact z
        · exfalso
          have hgm : g * val m = q * val m + val m := by rw [z, Int.add_mul, Int.one_mul]
          omega
      subst hgq
      conv => whnf
      refine stx hf1 hD2 p rfl (by omega) fun υ4 hw1 hw2 => ?_
      have ext4 : ExtBut a σ υ4 := fun x o hx ho => hw1 x o (fun z => by rw [z, hf2] at ho; cases ho) (ext2 x o hx ho)
      exact fin E1 υ4 _ _ ext4 (hw1 _ _ (Ne.symm hfa) hx2) hw2 (by omega) lE1 tk1 (by omega)
  · rintro _ υ ⟨E, D, u1, u2, rfl, he, hE, hD, hEl, hDl, hk, lE, lD, hz0, hv, hw⟩
    rw [downTo_len, show F.length - s - ((F.length : Int) - s - 1 - -1).toNat = 0 by omega] at hw
    conv => whnf
    exact hQ f D E υ hf1 hf2 he hE hD lE lD hEl (by omega) hv hw
end
end Mine
end
section
set_option maxRecDepth 100000
namespace Mine
open PySem PySem.W PyProof.Rows PySem.Calls

theorem bits_top {t : Int} (h0 : 0 < t) (h1 : t < 256) : ∃ k : Nat, bitsI t = k + 1 ∧ k ≤ 7 ∧ (2 : Int) ^ k ≤ t ∧ t < 2 ^ (k + 1) := by
  obtain ⟨m, rfl⟩ := Int.eq_ofNat_of_zero_le (Int.le_of_lt h0)
  have hm : m ≠ 0 := by omega
  refine ⟨m.log2, ?_, ?_, ?_, ?_⟩
  · show Builtin.Int.intBits m = _
    unfold Builtin.Int.intBits
    rw [if_neg (by simp; omega)]
    rfl
  · have := (Nat.log2_lt hm (k := 8)).mpr (by omega); omega
  · have := Nat.log2_self_le hm
    have := Int.ofNat_le.mpr this
    rwa [Int.natCast_pow] at this
  · have := Nat.lt_log2_self (n := m)
    have := Int.ofNat_lt.mpr this
    rwa [Int.natCast_pow] at this

theorem norm_top {m m' : List Int} {sh k : Nat} {t : Int} (n1 : Nrm m) (n2 : Nrm m') (hne : m ≠ []) (ht : gt m (m.length - 1) = t) (hk : k ≤ 7) (hsh : sh = 7 - k) (hb : (2 : Int) ^ k ≤ t) (hb' : t < 2 ^ (k + 1)) (hv : val m' = val m * 2 ^ sh) :
    m'.length = m.length ∧ 128 ≤ gt m' (m'.length - 1) := by
  have hp : 0 < m.length := List.length_pos_iff.mpr hne
  have a1 := val_split m (m.length - 1) (by omega)
  have a2 := val_drop (l := m) (j := m.length - 1) (by omega)
  rw [show m.length - 1 + 1 = m.length by omega, List.drop_length, ht] at a2
  simp only [val] at a2
  have a3 := val_nonneg (n1.1.take (m.length - 1))
  have a4 := val_lt (n1.1.take (m.length - 1))
  rw [List.length_take, Nat.min_eq_left (by omega)] at a4
  have e1 : (2 : Int) ^ sh * 2 ^ k = 128 := by
    rw [← Int.pow_add, hsh, show 7 - k + k = 7 by omega]; rfl
  have e2 : (2 : Int) ^ sh * 2 ^ (k + 1) = 256 := by
    rw [← Int.pow_add, hsh, show 7 - k + (k + 1) = 8 by omega]; rfl
  have sp : (0 : Int) < 2 ^ sh := Int.pow_pos (by decide)
  have b1 : 128 ≤ 2 ^ sh * t := by have := Int.mul_le_mul_of_nonneg_left hb (Int.le_of_lt sp); omega
  have b2 : 2 ^ sh * (t + 1) ≤ 256 := by have := Int.mul_le_mul_of_nonneg_left (show t + 1 ≤ 2 ^ (k + 1) by omega) (Int.le_of_lt sp); omega
  have pw : (256 : Int) ^ m.length = 256 ^ (m.length - 1) * 256 := by rw [← pow_s]; congr 1; omega
  have P := pow_pos' (m.length - 1)
  generalize hP : (256 : Int) ^ (m.length - 1) = p at *
  have c1 : p * 128 ≤ val m' := by
    rw [hv, a1, a2]
    have : (val (m.take (m.length - 1)) + p * (t + 256 * 0)) * 2 ^ sh = val (m.take (m.length - 1)) * 2 ^ sh + p * (2 ^ sh * t) := by grind
    rw [this]
    have z1 := Int.mul_nonneg a3 (Int.le_of_lt sp)
    have z2 := Int.mul_le_mul_of_nonneg_left b1 (Int.le_of_lt P)
    omega
  have c2 : val m' < p * 256 := by
    rw [hv, a1, a2]
    have : (val (m.take (m.length - 1)) + p * (t + 256 * 0)) * 2 ^ sh = p * (2 ^ sh * (t + 1)) - (p - val (m.take (m.length - 1))) * 2 ^ sh := by grind
    rw [this]
    have z1 := Int.mul_pos (show 0 < p - val (m.take (m.length - 1)) by omega) sp
    have z2 := Int.mul_le_mul_of_nonneg_left b2 (Int.le_of_lt P)
    omega
  have len1 : m'.length ≤ m.length := n2.len_le (by rw [pw]; exact c2)
  have len2 : m.length ≤ m'.length := by
    rcases Nat.lt_or_ge m'.length m.length with q | q
    · have := val_lt n2.1
      have := pow_le (show m'.length ≤ m.length - 1 by omega)
      omega
    · exact q
  have len : m'.length = m.length := by omega
  refine ⟨len, ?_⟩
  have d1 := val_split m' (m'.length - 1) (by omega)
  have d2 := val_drop (l := m') (j := m'.length - 1) (by omega)
  rw [show m'.length - 1 + 1 = m'.length by omega, List.drop_length] at d2
  simp only [val] at d2
  have d4 := val_lt (n2.1.take (m'.length - 1))
  rw [List.length_take, Nat.min_eq_left (by omega)] at d4
  rw [show (256 : Int) ^ (m'.length - 1) = p by rw [len]; exact hP] at d1 d4
  rcases Int.lt_or_le (gt m' (m'.length - 1)) 128 with q | q
  · exfalso
    rw [d2] at d1
    have := Int.mul_le_mul_of_nonneg_left (show gt m' (m'.length - 1) + 256 * 0 ≤ 127 by omega) (Int.le_of_lt P)
    omega
  · exact q

section
variable {h0 : Heap} {prog : Program} {w : World} {mg mb : Str → Option Value} (G : Gd (KK w) h0 mg mb) {n : Nat}

theorem div_end {x y q r s : Int} (hs : 0 < s) (h : q * (y * s) + r = x * s) (h0 : 0 ≤ r) (h1 : r < y * s) : q = x / y ∧ r / s = x % y := by
  have e : r = (x - q * y) * s := by grind
  have r0 : 0 ≤ x - q * y := by
    rcases Int.lt_or_le (x - q * y) 0 with z | z
    · have := Int.mul_neg_of_neg_of_pos z hs; omega
    · exact z
  have r1 : x - q * y < y := by
    rcases Int.lt_or_le (x - q * y) y with z | z
    · exact z
    · have := Int.mul_le_mul_of_nonneg_right z (Int.le_of_lt hs); omega
  obtain ⟨a, b⟩ := dm_unique r0 r1 (q := q) (x := x) (by omega)
  refine ⟨a, ?_⟩
  rw [e, Int.mul_ediv_cancel _ (by omega)]
  exact b

set_option maxHeartbeats 4000000 in
include G in
theorem c_divrem_school {a b : Addr} {x y : Int} {σ : AHeap} {Q : V → AHeap → Prop} (ha : IsN σ a x) (hb : IsN σ b y) (hx : x < 256 ^ (ML - 8)) (hy : y < 256 ^ (ML - 8)) (hy0 : 0 < y)
    (hQ : ∀ t q r σ', Bs h0 t → σ t = none → σ q = none → σ r = none → Ext σ σ' → σ' t = some (.tup [.ref q, .ref r]) → IsN σ' q (x / y) → IsN σ' r (x % y) → Q (.ref t) σ') : CC prog w h0 (n + 4) (.ref 357) [.ref a, .ref b, .int 8] σ Q := by
  have hML := ML_eq
  have mono := pow_le (show ML - 8 ≤ ML by omega)
  have hx' : x < 256 ^ ML := by omega
  have hy' : y < 256 ^ ML := by omega
  refine enter G [some (.ref a), some (.ref b), some (.int 8), none, none, none, none] (at_divrem_school _) rfl rfl ?_
  have ha0 := ha
  have hb0 := hb
  obtain ⟨l, h1, n1, rfl⟩ := ha
  obtain ⟨m, h2, n2, rfl⟩ := hb
  have l1 := n1.len_le hx
  have l2 := n2.len_le hy
  have hne : m ≠ [] := fun q => by subst q; simp [val] at hy0
  have hmp : 0 < m.length := List.length_pos_iff.mpr hne
  have x0 := val_nonneg n1.1
  conv => whnf
  refine ⟨_, h2, ?_⟩
  conv => whnf
  simp only [List.length_map]
  refine ⟨fun e => ?_, fun e => ?_⟩
  · have e := of_decide_eq_true e; omega
  clear e
  conv => whnf
  refine c_compare G ha0 hb0 hx' hy' ?_
  conv => whnf
  refine ⟨fun e => ?_, fun e => ?_⟩
  · have e := of_decide_eq_true e
    have hlt : val l < val m := by
      unfold cmpI at e
      split at e
      · assumption
      · split at e <;> omega
    conv => whnf
    intro q σ1 q1 q2 q3 q4
    conv => whnf
    refine ⟨_, q3 _ _ h1, ?_⟩
    intro r σ2 r1 r2 r3 r4
    rw [cut_all] at r4
    conv => whnf
    intro t σ3 t1 t2 t3 t4
    refine hQ t q r σ3 t1 ((q3.trans r3).none t2) q2 (q3.none r2) ((q3.trans r3).trans t3) t4 ⟨[], t3 _ _ (r3 _ _ q4), Nrm.nil, ?_⟩ ⟨l, t3 _ _ r4, n1, ?_⟩
    · rw [Int.ediv_eq_zero_of_lt x0 hlt]; rfl
    · rw [Int.emod_eq_of_lt x0 hlt]
  have e := of_decide_eq_false e
  have hge : val m ≤ val l := by
    unfold cmpI at e
    split at e
    · omega
    · omega
  have hlen : m.length ≤ l.length := by
    rcases Nat.lt_or_ge l.length m.length with q | q
    · have := len_lt_val n1 n2 q; omega
    · exact q
  have gtop := gt_lo n2.1 (m.length - 1)
  have gtop' : gt m (m.length - 1) ≠ 0 := n2.2.resolve_left hne
  conv => whnf
  refine ⟨_, h2, ?_⟩
  conv => whnf
  simp only [List.length_map]
  refine ⟨fun e1 => ?_, fun e1 => ?_⟩
  · have e1 := of_decide_eq_true e1
    have em : m = [gt m 0] := by
      match m, e1 with
      | [d], _ => rfl
    have ev : val m = gt m 0 := by rw [em]; simp [val, gt]
    rw [show m.length - 1 = 0 by omega] at gtop gtop'
    conv => whnf
    refine c_divrem_small G ha0 hx' (by rw [← em]; exact h2) (by omega) gtop.2 ?_
    rw [← ev]
    exact hQ
  have e1 := of_decide_eq_false e1
  conv => whnf
  refine ⟨_, m.length - 1, .int (gt m (m.length - 1)), ⟨.inl h2, .inr (by rw [List.length_map]; omega), by rw [List.getElem?_map, gt_some (by omega)]; rfl⟩, ?_⟩
  conv => whnf
  intro c σ1 c1 c2 c3 c4
  conv => whnf
  refine c_bits G c4 ?_
  obtain ⟨k, bk, k7, bk1, bk2⟩ := bits_top (t := gt m (m.length - 1)) (by omega) gtop.2
  rw [bk]
  obtain ⟨sh, hsh⟩ : ∃ sh, sh = 7 - k := ⟨_, rfl⟩
  have sp : (0 : Int) < 2 ^ sh := Int.pow_pos (by decide)
  have sp' : (2 : Int) ^ sh ≤ 128 := by
    have h := Nat.pow_le_pow_right (show 0 < 2 by decide) (show sh ≤ 7 by omega)
    have := Int.ofNat_le.mpr h
    rwa [Int.natCast_pow, Int.natCast_pow] at this
  conv => whnf
  rw [show (8 : Int) - ((k + 1 : Nat) : Int) = (sh : Nat) by omega]
  have hmono2 := pow_le (show ML - 8 + 1 ≤ ML by omega)
  rw [pow_s] at hmono2
  refine c_shift_left G (hb0.ext c3) hy' (by omega) fun d σ2 d1 d2 d3 d4 => ?_
  conv => whnf
  refine c_shift_left G ((ha0.ext c3).ext d3) hx' (by omega) fun r σ3 r1 r2 r3 r4 => ?_
  obtain ⟨m', hm1, nm', hmv⟩ := d4
  obtain ⟨R, hr1, nR, hRv⟩ := r4
  obtain ⟨lenm, topm⟩ := norm_top n2 nm' hne rfl k7 hsh bk1 bk2 hmv
  have hxs : val l * 2 ^ sh ≤ val l * 128 := Int.mul_le_mul_of_nonneg_left sp' x0
  have hll := val_lt n1.1
  have lenR : R.length ≤ l.length + 1 := nR.len_le (by rw [pow_s, hRv]; omega)
  conv => whnf
  intro z σ4 z1 z2 z3 z4
  conv => whnf
  refine ⟨_, z3 _ _ (r3 _ _ (d3 _ _ (c3 _ _ h1))), ?_⟩
  conv => whnf
  refine ⟨_, z3 _ _ hr1, ?_⟩
  conv => whnf
  simp only [List.length_map]
  refine ⟨.int 0, ⟨z4, by omega, by show _ ≤ (16777216 : Int); omega⟩, ?_⟩
  intro z' σ5 y1 y2 y3 y4
  rw [rep_map, show ((l.length : Int) + 1 - R.length).toNat = l.length + 1 - R.length by omega] at y4
  conv => whnf
  refine ⟨_, _, ⟨y3 _ _ (z3 _ _ hr1), y4, by simp; show _ ≤ 16777216; omega⟩, ?_⟩
  intro f σ6 f1 f2 f3 f4
  rw [← List.map_append] at f4
  have ext6 : Ext σ σ6 := ((((c3.trans d3).trans r3).trans z3).trans y3).trans f3
  have hmd : σ6 d = some (iL m') := f3 _ _ (y3 _ _ (z3 _ _ (r3 _ _ hm1)))
  have hdf : d ≠ f := fun q => by
    have h' := y3 _ _ (z3 _ _ (r3 _ _ hm1))
    rw [q, f2] at h'; cases h'
  have lF : Lo (R ++ List.replicate (l.length + 1 - R.length) 0) := nR.1.append Lo.rep
  have lenF : (R ++ List.replicate (l.length + 1 - R.length) (0 : Int)).length = l.length + 1 := by simp; omega
  have vF : val (R ++ List.replicate (l.length + 1 - R.length) 0) = val l * 2 ^ sh := by rw [val_append, val_rep_zero, hRv]; omega
  generalize hF : R ++ List.replicate (l.length + 1 - R.length) (0 : Int) = F at *
  conv => whnf
  refine c_divide_rows G f1 f4 hmd hdf lF nm'.1 (by omega) (by omega) (by omega) topm ?_ ?_
  · -- the first window is below the divisor
    have t1 := val_split F (F.length - m'.length) (by omega)
    have t2 := val_nonneg (lF.take (F.length - m'.length))
    have P := pow_pos' (F.length - m'.length)
    have t3 : val l * 2 ^ sh < 256 ^ l.length * 2 ^ sh := Int.mul_lt_mul_of_pos_right hll sp
    have t4 : (256 : Int) ^ l.length = 256 ^ (F.length - m'.length) * 256 ^ (m'.length - 1) := by rw [← Int.pow_add]; congr 1; omega
    have t5 : 256 ^ (m'.length - 1) * 128 ≤ val m' := by
      have a1 := val_split m' (m'.length - 1) (by omega)
      have a2 := val_drop (l := m') (j := m'.length - 1) (by omega)
      rw [show m'.length - 1 + 1 = m'.length by omega, List.drop_length] at a2
      simp only [val] at a2
      have a3 := val_nonneg (nm'.1.take (m'.length - 1))
      have := Int.mul_le_mul_of_nonneg_left (show 128 ≤ val (m'.drop (m'.length - 1)) by omega) (Int.le_of_lt (pow_pos' (m'.length - 1)))
      omega
    have t6 : (256 : Int) ^ (m'.length - 1) * 2 ^ sh ≤ 256 ^ (m'.length - 1) * 128 := Int.mul_le_mul_of_nonneg_left sp' (Int.le_of_lt (pow_pos' _))
    rcases Int.lt_or_le (val (F.drop (F.length - m'.length))) (val m') with q | q
    · exact q
    · exfalso
      have u1 := Int.mul_le_mul_of_nonneg_left (show 256 ^ (m'.length - 1) * 2 ^ sh ≤ val (F.drop (F.length - m'.length)) by omega) (Int.le_of_lt P)
      rw [t4, Int.mul_assoc] at t3
      omega
  · intro g D F' σ7 g1 g2 g3 g4 g5 lF' lD lenF' lenD hv hr
    rw [hmv, vF] at hv
    rw [hmv] at hr
    have hr0 := val_nonneg lF'
    obtain ⟨eq1, eq2⟩ := div_end sp hv hr0 hr
    have ext7 : Ext σ σ7 := fun x o e => g3 x o (fun q => by
      have := f2
      have h' := ((((c3.trans d3).trans r3).trans z3).trans y3) _ _ e
      rw [q, this] at h'; cases h') (ext6 x o e)
    conv => whnf
    refine c_normal G g5 lD fun qq σ8 q1 q2 q3 q4 => ?_
    conv => whnf
    refine c_normal G (q3 _ _ g4) lF' fun rr σ9 rr1 rr2 rr3 rr4 => ?_
    conv => whnf
    have hb1 : val F' < 256 ^ ML := by
      have : val m * 2 ^ sh ≤ val m * 128 := Int.mul_le_mul_of_nonneg_left sp' (Int.le_of_lt hy0)
      omega
    refine c_shift_right G rr4 hb1 (by omega) fun ss σ10 ss1 ss2 ss3 ss4 => ?_
    conv => whnf
    intro t σ11 t1 t2 t3 t4
    have ext10 : Ext σ σ10 := ((ext7.trans q3).trans rr3).trans ss3
    refine hQ t qq ss σ11 t1 (ext10.none t2) (ext7.none q2) (((ext7.trans q3).trans rr3).none ss2) (ext10.trans t3) t4 ?_ ?_
    · rw [← eq1]; exact ((q4.ext rr3).ext ss3).ext t3
    · rw [← eq2]; exact ss4.ext t3
end
end Mine
end
section
set_option maxRecDepth 100000
namespace Mine
open PySem PySem.W PyProof.Rows PySem.Calls

def IsS (M : Addr → Prop) (σ : AHeap) (v : V) (z : Int) : Prop := ∃ t a, v = .ref t ∧ σ t = some (.tup [.bool (decide (z < 0)), .ref a]) ∧ IsN σ a z.natAbs ∧ ¬ M a
def Live (M : Addr → Prop) (σ : AHeap) : Prop := ∀ m, M m → σ m ≠ none
theorem IsS.ext {M : Addr → Prop} {σ σ' : AHeap} {v : V} {z : Int} (h : IsS M σ v z) (e : Ext σ σ') : IsS M σ' v z := by
  obtain ⟨t, a, h1, h2, h3, h4⟩ := h; exact ⟨t, a, h1, e _ _ h2, h3.ext e, h4⟩
theorem Live.ext {M : Addr → Prop} {σ σ' : AHeap} (h : Live M σ) (e : Ext σ σ') : Live M σ' := fun m hm => by
  cases q : σ m with
  | none => exact absurd q (h m hm)
  | some o => rw [e _ _ q]; simp
theorem Live.not {M : Addr → Prop} {σ : AHeap} (h : Live M σ) {a : Addr} (e : σ a = none) : ¬ M a := fun m => h a m e
def Bnd (k : Nat) (z : Int) : Prop := (z.natAbs : Int) < 256 ^ k
theorem Bnd.mono {k k' : Nat} {z : Int} (h : Bnd k z) (hk : k ≤ k') : Bnd k' z := Int.lt_of_lt_of_le h (pow_le hk)
theorem Bnd.add {k : Nat} {x y : Int} (h : Bnd k x) (h' : Bnd k y) : Bnd (k + 1) (x + y) := by
  unfold Bnd at *; rw [pow_s]; omega
theorem Bnd.sub {k : Nat} {x y : Int} (h : Bnd k x) (h' : Bnd k y) : Bnd (k + 1) (x - y) := by
  unfold Bnd at *; rw [pow_s]; omega
theorem Bnd.mul {k j : Nat} {x y : Int} (h : Bnd k x) (h' : Bnd j y) : Bnd (k + j) (x * y) := by
  unfold Bnd at *
  rw [Int.natAbs_mul, Int.natCast_mul, Int.pow_add]
  have p := pow_pos' j
  have := Int.mul_le_mul (show (x.natAbs : Int) ≤ 256 ^ k - 1 by omega) (Int.le_of_lt h') (by omega) (by have := pow_pos' k; omega)
  rw [Int.sub_mul, Int.one_mul] at this
  omega
theorem Bnd.neg {k : Nat} {x : Int} (h : Bnd k x) : Bnd k (-x) := by unfold Bnd at *; rw [Int.natAbs_neg]; exact h

theorem mul_sign (x y : Int) : x * y = if decide (decide (x < 0) ≠ decide (y < 0)) = true then -((x.natAbs : Int) * y.natAbs) else (x.natAbs : Int) * y.natAbs := by
  by_cases hx : x < 0 <;> by_cases hy : y < 0
  · rw [show (x.natAbs : Int) = -x by omega, show (y.natAbs : Int) = -y by omega]; simp [hx, hy]; grind
  · rw [show (x.natAbs : Int) = -x by omega, show (y.natAbs : Int) = y by omega]; simp [hx, hy]; grind
  · rw [show (x.natAbs : Int) = x by omega, show (y.natAbs : Int) = -y by omega]; simp [hx, hy]; grind
  · rw [show (x.natAbs : Int) = x by omega, show (y.natAbs : Int) = y by omega]; simp [hx, hy]
theorem IsN.nonneg {σ : AHeap} {a : Addr} {z : Int} (h : IsN σ a z) : 0 ≤ z := by
  obtain ⟨l, _, n, rfl⟩ := h; exact val_nonneg n.1
theorem IsN.list {σ : AHeap} {a : Addr} {z : Int} (h : IsN σ a z) : ∃ l, σ a = some (iL l) ∧ (0 < l.length ↔ 0 < z) := by
  obtain ⟨l, h1, n, rfl⟩ := h
  refine ⟨l, h1, fun h => n.pos (List.length_pos_iff.mp h), fun h => ?_⟩
  rcases Nat.eq_zero_or_pos l.length with q | q
  · rw [List.length_eq_zero_iff.mp q] at h; simp [val] at h
  · exact q

section
variable {h0 : Heap} {prog : Program} {w : World} {mg mb : Str → Option Value} (G : Gd (KK w) h0 mg mb) {n : Nat}

include G in
theorem c_signed {M : Addr → Prop} {b : Bool} {a : Addr} {x z : Int} {σ : AHeap} {Q : V → AHeap → Prop} (ha : IsN σ a x) (hM : ¬ M a) (hz : z = if b then -x else x) (hQ : ∀ t σ', Ext σ σ' → IsS M σ' (.ref t) z → Q (.ref t) σ') :
    CC prog w h0 (n + 1) (.ref 135) [.bool b, .ref a] σ Q := by
  have h0 := ha.nonneg
  obtain ⟨l, h1, hl⟩ := ha.list
  refine enter G [some (.bool b), some (.ref a)] (at_signed _) rfl rfl ?_
  have fin : ∀ c : Bool, c = decide (z < 0) → ∀ t σ', Ext σ σ' → σ' t = some (.tup [.bool c, .ref a]) → Q (.ref t) σ' := fun c hc t σ' e ht =>
    hQ t σ' e ⟨t, a, rfl, by rw [ht, hc], by
      rw [show ((z.natAbs : Nat) : Int) = x by rw [hz]; split <;> omega]; exact ha.ext e, hM⟩
  conv => whnf
  refine ⟨fun e => ?_, fun e => ?_⟩
  · subst e
    conv => whnf
    refine ⟨_, h1, ?_⟩
    conv => whnf
    intro t σ' _ _ t3 t4
    refine fin _ ?_ t σ' t3 t4
    rw [hz, if_pos rfl]
    simp only [List.length_map, decide_eq_decide]
    omega
  · subst e
    conv => whnf
    intro t σ' _ _ t3 t4
    refine fin _ ?_ t σ' t3 t4
    rw [hz, if_neg (by decide)]
    symm
    rw [decide_eq_false_iff_not]
    omega

include G in
theorem c_nat_of {x : Int} {σ : AHeap} {Q : V → AHeap → Prop} (h0' : 0 ≤ x) (hx : x < 256 ^ ML) (hQ : ∀ r σ', Bs h0 r → σ r = none → Ext σ σ' → IsN σ' r x → Q (.ref r) σ') : CC prog w h0 (n + 1) (.ref 65) [.int x, .int 8] σ Q := by
  have hML := ML_eq
  refine enter G [some (.int x), some (.int 8), none, none] (at_nat_of _) rfl rfl ?_
  conv => whnf
  refine ⟨fun e => ?_, fun e => ?_⟩
  · have e := of_decide_eq_true e; omega
  clear e
  conv => whnf
  intro f τ f1 f2 f3 f4
  conv => whnf
  refine ⟨⟨by decide, by decide⟩, ?_⟩
  conv => whnf
  refine ⟨fun m ρ υ => ∃ c L, ρ = [some (.int c), some (.int 8), some (.ref f), some (.int 255)] ∧ Ext σ υ ∧ υ f = some (iL L) ∧ Lo L ∧ 0 ≤ c ∧ m = c.toNat ∧ val L + 256 ^ L.length * c = x ∧ (L ≠ [] → 256 ^ (L.length - 1) ≤ x),
    fun ρ υ => ∃ L, ρ = [some (.int 0), some (.int 8), some (.ref f), some (.int 255)] ∧ Ext σ υ ∧ υ f = some (iL L) ∧ Lo L ∧ val L = x ∧ (L ≠ [] → 256 ^ (L.length - 1) ≤ x),
    ⟨_, x, [], rfl, f3, f4, Lo.nil, h0', rfl, by simp [val], fun q => absurd rfl q⟩, ?_, ?_⟩
  · rintro m _ υ ⟨c, L, rfl, he, hL, lo, c0, rfl, hv, hg⟩
    conv => whnf
    refine ⟨fun e => ?_, fun e => ?_⟩
    · have e := of_decide_eq_true e
      have hge : 256 ^ L.length ≤ x := by
        have := Int.mul_le_mul_of_nonneg_left (show 1 ≤ c by omega) (Int.le_of_lt (pow_pos' L.length))
        have := val_nonneg lo
        omega
      have hlen : L.length < ML := by
        rcases Nat.lt_or_ge L.length ML with q | q
        · exact q
        · have := pow_le q; omega
      conv => whnf
      refine ⟨⟨_, hL⟩, ?_⟩
      conv => whnf
      refine ⟨_, ⟨f1, hL, by simp; show L.length < 16777216; omega⟩, ?_⟩
      intro υ' hu1 hu2
      rw [mask_and c0, map_snoc] at hu2
      conv => whnf
      refine ⟨rfl, ?_⟩
      conv => whnf
      refine ⟨by decide, ?_⟩
      rw [shr8]
      refine ⟨(c / 256).toNat, by omega, _, _, rfl, he.but hu1 f2, hu2, lo.snoc (by omega) (by omega), by omega, rfl, ?_, fun _ => by rw [List.length_append, List.length_singleton, Nat.add_sub_cancel]; exact hge⟩
      rw [val_snoc, List.length_append, List.length_singleton, pow_s]
      have e1 := Int.emod_add_mul_ediv c 256
      generalize c / 256 = q at *
      generalize c % 256 = r at *
      subst e1
      grind
    · have e := of_decide_eq_false e
      have c0' : c = 0 := by omega
      subst c0'
      exact ⟨L, rfl, he, hL, lo, by omega, hg⟩
  · rintro _ υ ⟨L, rfl, he, hL, lo, hv, hg⟩
    conv => whnf
    exact hQ f υ f1 f2 he ⟨L, hL, Nrm.of_ge lo fun q => by rw [hv]; exact hg q, hv⟩

include G in
theorem c_s_of {M : Addr → Prop} {x : Int} {σ : AHeap} {Q : V → AHeap → Prop} (hM : Live M σ) (hx : Bnd ML x) (hQ : ∀ t σ', Ext σ σ' → IsS M σ' (.ref t) x → Q (.ref t) σ') : CC prog w h0 (n + 2) (.ref 142) [.int x, .int 8] σ Q := by
  refine enter G [some (.int x), some (.int 8)] (at_s_of _) rfl rfl ?_
  conv => whnf
  refine c_nat_of G (by omega) hx fun r σ1 r1 r2 r3 r4 => ?_
  conv => whnf
  intro t σ2 t1 t2 t3 t4
  exact hQ t σ2 (r3.trans t3) ⟨t, r, rfl, t4, r4.ext t3, hM.not r2⟩

include G in
theorem c_s_neg {M : Addr → Prop} {v : V} {x : Int} {σ : AHeap} {Q : V → AHeap → Prop} (hv : IsS M σ v x) (hQ : ∀ t σ', Ext σ σ' → IsS M σ' (.ref t) (-x) → Q (.ref t) σ') : CC prog w h0 (n + 2) (.ref 149) [v] σ Q := by
  obtain ⟨t, a, rfl, ht, ha, hM⟩ := hv
  refine enter G [some (.ref t)] (at_s_neg _) rfl rfl ?_
  conv => whnf
  refine ixT ht 0 _ rfl rfl ?_
  conv => whnf
  refine ixT ht 1 _ rfl rfl ?_
  conv => whnf
  refine c_signed G ha hM ?_ hQ
  by_cases q : x < 0
  · simp [q]; omega
  · simp [q]; omega

include G in
theorem c_s_abs {M : Addr → Prop} {v : V} {x : Int} {σ : AHeap} {Q : V → AHeap → Prop} (hv : IsS M σ v x) (hQ : ∀ t σ', Ext σ σ' → IsS M σ' (.ref t) x.natAbs → Q (.ref t) σ') : CC prog w h0 (n + 1) (.ref 156) [v] σ Q := by
  obtain ⟨t, a, rfl, ht, ha, hM⟩ := hv
  refine enter G [some (.ref t)] (at_s_abs _) rfl rfl ?_
  conv => whnf
  refine ixT ht 1 _ rfl rfl ?_
  conv => whnf
  intro u σ' u1 u2 u3 u4
  refine hQ u σ' u3 ⟨u, a, rfl, ?_, by simpa using ha.ext u3, hM⟩
  rw [u4, decide_eq_false (by omega)]

include G in
theorem c_s_sign {M : Addr → Prop} {v : V} {x : Int} {σ : AHeap} {Q : V → AHeap → Prop} (hv : IsS M σ v x) (hQ : Q (.int (if x = 0 then 0 else if x < 0 then -1 else 1)) σ) : CC prog w h0 (n + 1) (.ref 163) [v] σ Q := by
  obtain ⟨t, a, rfl, ht, ha, hM⟩ := hv
  obtain ⟨l, h1, hl⟩ := ha.list
  refine enter G [some (.ref t)] (at_s_sign _) rfl rfl ?_
  conv => whnf
  refine ixT ht 1 _ rfl rfl ?_
  conv => whnf
  refine ⟨_, h1, ?_⟩
  conv => whnf
  simp only [List.length_map]
  refine ⟨fun e => ?_, fun e => ?_⟩
  · have e := of_decide_eq_true e
    conv => whnf
    rw [if_pos (by omega)] at hQ
    exact hQ
  · have e := of_decide_eq_false e
    conv => whnf
    refine ixT ht 0 _ rfl rfl ?_
    conv => whnf
    rw [if_neg (by omega)] at hQ
    refine ⟨fun e => ?_, fun e => ?_⟩
    · have e := of_decide_eq_true e
      rw [if_pos e] at hQ; exact hQ
    · have e := of_decide_eq_false e
      rw [if_neg e] at hQ; exact hQ

include G in
theorem c_s_compare {M : Addr → Prop} {v u : V} {x y : Int} {σ : AHeap} {Q : V → AHeap → Prop} (hv : IsS M σ v x) (hu : IsS M σ u y) (hx : Bnd ML x) (hy : Bnd ML y) (hQ : Q (.int (cmpI x y)) σ) : CC prog w h0 (n + 2) (.ref 170) [v, u] σ Q := by
  obtain ⟨t, a, rfl, ht, ha, hM⟩ := hv
  obtain ⟨t', a', rfl, ht', ha', hM'⟩ := hu
  refine enter G [some (.ref t), some (.ref t')] (at_s_compare _) rfl rfl ?_
  conv => whnf
  refine ixT ht 0 _ rfl rfl ?_
  conv => whnf
  refine ixT ht' 0 _ rfl rfl ?_
  conv => whnf
  refine ⟨fun e => ?_, fun e => ?_⟩
  · have e := of_decide_eq_true e
    have e : ¬ (x < 0 ↔ y < 0) := fun q => e (by rw [decide_eq_decide]; exact q)
    conv => whnf
    refine ixT ht 0 _ rfl rfl ?_
    conv => whnf
    refine ⟨fun e2 => ?_, fun e2 => ?_⟩
    · have e2 := of_decide_eq_true e2
      unfold cmpI at hQ; rw [if_pos (by omega)] at hQ; exact hQ
    · have e2 := of_decide_eq_false e2
      unfold cmpI at hQ; rw [if_neg (by omega), if_neg (by omega)] at hQ; exact hQ
  · have e := of_decide_eq_false e
    have e : x < 0 ↔ y < 0 := by
      have := Classical.not_not.mp e
      rwa [decide_eq_decide] at this
    conv => whnf
    refine ixT ht 0 _ rfl rfl ?_
    conv => whnf
    refine ⟨fun e2 => ?_, fun e2 => ?_⟩
    · have e2 := of_decide_eq_true e2
      conv => whnf
      refine ixT ht' 1 _ rfl rfl ?_
      conv => whnf
      refine ixT ht 1 _ rfl rfl ?_
      conv => whnf
      refine c_compare G ha' ha hy hx ?_
      rw [show cmpI (y.natAbs : Int) x.natAbs = cmpI x y by unfold cmpI; have := e.mp e2; split <;> split <;> (try split) <;> (try split) <;> omega]
      exact hQ
    · have e2 := of_decide_eq_false e2
      conv => whnf
      refine ixT ht 1 _ rfl rfl ?_
      conv => whnf
      refine ixT ht' 1 _ rfl rfl ?_
      conv => whnf
      refine c_compare G ha ha' hx hy ?_
      have : ¬ y < 0 := fun q => e2 (e.mpr q)
      rw [show cmpI (x.natAbs : Int) y.natAbs = cmpI x y by unfold cmpI; split <;> split <;> (try split) <;> (try split) <;> omega]
      exact hQ

include G in
theorem c_s_add {M : Addr → Prop} {v u : V} {x y : Int} {σ : AHeap} {Q : V → AHeap → Prop} (hL : Live M σ) (hv : IsS M σ v x) (hu : IsS M σ u y) (hx : Bnd ML x) (hy : Bnd ML y) (hQ : ∀ t σ', Ext σ σ' → IsS M σ' (.ref t) (x + y) → Q (.ref t) σ') : CC prog w h0 (n + 3) (.ref 177) [v, u, .int 8] σ Q := by
  obtain ⟨t, a, rfl, ht, ha, hM⟩ := hv
  obtain ⟨t', a', rfl, ht', ha', hM'⟩ := hu
  refine enter G [some (.ref t), some (.ref t'), some (.int 8)] (at_s_add _) rfl rfl ?_
  conv => whnf
  refine ixT ht 0 _ rfl rfl ?_
  conv => whnf
  refine ixT ht' 0 _ rfl rfl ?_
  conv => whnf
  refine ⟨fun e => ?_, fun e => ?_⟩
  · have e := of_decide_eq_true e
    rw [decide_eq_decide] at e
    conv => whnf
    refine ixT ht 0 _ rfl rfl ?_
    conv => whnf
    refine ixT ht 1 _ rfl rfl ?_
    conv => whnf
    refine ixT ht' 1 _ rfl rfl ?_
    conv => whnf
    refine c_add G ha ha' hx hy fun r σ1 r1 r2 r3 r4 => ?_
    conv => whnf
    refine c_signed G r4 (hL.not r2) ?_ fun s σ2 s1 s2 => hQ s σ2 (r3.trans s1) s2
    by_cases q : x < 0
    · have := e.mp q; simp [q]; omega
    · have : ¬ y < 0 := fun z => q (e.mpr z)
      simp [q]; omega
  · have e := of_decide_eq_false e
    rw [decide_eq_decide] at e
    conv => whnf
    refine ixT ht 1 _ rfl rfl ?_
    conv => whnf
    refine ixT ht' 1 _ rfl rfl ?_
    conv => whnf
    refine c_compare G ha ha' hx hy ?_
    conv => whnf
    refine ⟨fun e2 => ?_, fun e2 => ?_⟩
    · have e2 := of_decide_eq_true e2
      have e2 : (x.natAbs : Int) < y.natAbs := by unfold cmpI at e2; split at e2 <;> (try split at e2) <;> omega
      conv => whnf
      refine ixT ht' 0 _ rfl rfl ?_
      conv => whnf
      refine ixT ht' 1 _ rfl rfl ?_
      conv => whnf
      refine ixT ht 1 _ rfl rfl ?_
      conv => whnf
      refine c_sub G ha' ha hy hx (by omega) fun r σ1 r1 r2 r3 r4 => ?_
      conv => whnf
      refine c_signed G r4 (hL.not r2) ?_ fun s σ2 s1 s2 => hQ s σ2 (r3.trans s1) s2
      by_cases q : y < 0
      · simp [q]; omega
      · simp [q]; omega
    · have e2 := of_decide_eq_false e2
      have e2 : (y.natAbs : Int) ≤ x.natAbs := by unfold cmpI at e2; split at e2 <;> (try split at e2) <;> omega
      conv => whnf
      refine ixT ht 0 _ rfl rfl ?_
      conv => whnf
      refine ixT ht 1 _ rfl rfl ?_
      conv => whnf
      refine ixT ht' 1 _ rfl rfl ?_
      conv => whnf
      refine c_sub G ha ha' hx hy (by omega) fun r σ1 r1 r2 r3 r4 => ?_
      conv => whnf
      refine c_signed G r4 (hL.not r2) ?_ fun s σ2 s1 s2 => hQ s σ2 (r3.trans s1) s2
      by_cases q : x < 0
      · simp [q]; omega
      · simp [q]; omega

include G in
theorem c_s_sub {M : Addr → Prop} {v u : V} {x y : Int} {σ : AHeap} {Q : V → AHeap → Prop} (hL : Live M σ) (hv : IsS M σ v x) (hu : IsS M σ u y) (hx : Bnd ML x) (hy : Bnd ML y) (hQ : ∀ t σ', Ext σ σ' → IsS M σ' (.ref t) (x - y) → Q (.ref t) σ') : CC prog w h0 (n + 4) (.ref 184) [v, u, .int 8] σ Q := by
  refine enter G [some v, some u, some (.int 8)] (at_s_sub _) rfl rfl ?_
  conv => whnf
  refine CC.up (n := n + 2) (c_s_neg G hu fun t σ1 t1 t2 => ?_) (by omega)
  conv => whnf
  refine c_s_add G (hL.ext t1) (hv.ext t1) t2 hx hy.neg fun s σ2 s1 s2 => hQ s σ2 (t1.trans s1) (by rw [Int.sub_eq_add_neg]; exact s2)

include G in
theorem c_s_mul {M : Addr → Prop} {v u : V} {x y : Int} {σ : AHeap} {Q : V → AHeap → Prop} (hL : Live M σ) (hv : IsS M σ v x) (hu : IsS M σ u y) (hx : Bnd ML x) (hy : Bnd ML y) (hQ : ∀ t σ', Ext σ σ' → IsS M σ' (.ref t) (x * y) → Q (.ref t) σ') : CC prog w h0 (n + 3) (.ref 191) [v, u, .int 8, .ref 315] σ Q := by
  obtain ⟨t, a, rfl, ht, ha, hM⟩ := hv
  obtain ⟨t', a', rfl, ht', ha', hM'⟩ := hu
  refine enter G [some (.ref t), some (.ref t'), some (.int 8), some (.ref 315)] (at_s_mul _) rfl rfl ?_
  conv => whnf
  refine ixT ht 0 _ rfl rfl ?_
  conv => whnf
  refine ixT ht' 0 _ rfl rfl ?_
  conv => whnf
  refine ixT ht 1 _ rfl rfl ?_
  conv => whnf
  refine ixT ht' 1 _ rfl rfl ?_
  conv => whnf
  refine c_mul_school G ha ha' hx hy fun r σ1 r1 r2 r3 r4 => ?_
  conv => whnf
  refine c_signed G r4 (hL.not r2) ?_ fun s σ2 s1 s2 => hQ s σ2 (r3.trans s1) s2
  exact mul_sign x y
end
end Mine
end
section
set_option maxRecDepth 100000
namespace Mine
open PySem PySem.W PyProof.Rows PySem.Calls

theorem tdiv_sign (x y : Int) : x.tdiv y = if decide (decide (x < 0) ≠ decide (y < 0)) = true then -((x.natAbs : Int) / y.natAbs) else (x.natAbs : Int) / y.natAbs := by
  rw [← Int.tdiv_eq_ediv_of_nonneg (show (0 : Int) ≤ x.natAbs by omega)]
  by_cases hx : x < 0 <;> by_cases hy : y < 0
  · rw [show (x.natAbs : Int) = -x by omega, show (y.natAbs : Int) = -y by omega, Int.tdiv_neg, Int.neg_tdiv, Int.neg_neg]; simp [hx, hy]
  · rw [show (x.natAbs : Int) = -x by omega, show (y.natAbs : Int) = y by omega, Int.neg_tdiv, Int.neg_neg]; simp [hx, hy]
  · rw [show (x.natAbs : Int) = x by omega, show (y.natAbs : Int) = -y by omega, Int.tdiv_neg, Int.neg_neg]; simp [hx, hy]
  · rw [show (x.natAbs : Int) = x by omega, show (y.natAbs : Int) = y by omega]; simp [hx, hy]
theorem tmod_sign (x y : Int) : x.tmod y = if decide (x < 0) = true then -((x.natAbs : Int) % y.natAbs) else (x.natAbs : Int) % y.natAbs := by
  have e : (x.natAbs : Int).tmod y.natAbs = (x.natAbs : Int).tmod y := by
    by_cases hy : y < 0
    · rw [show (y.natAbs : Int) = -y by omega, Int.tmod_neg]
    · rw [show (y.natAbs : Int) = y by omega]
  rw [← Int.tmod_eq_emod_of_nonneg (show (0 : Int) ≤ x.natAbs by omega), e]
  by_cases hx : x < 0
  · rw [show (x.natAbs : Int) = -x by omega, Int.neg_tmod, Int.neg_neg]; simp [hx]
  · rw [show (x.natAbs : Int) = x by omega]; simp [hx]
theorem dm_pos {x y : Int} (hy : 0 < y) : x = x / y * y + x % y ∧ 0 ≤ x % y ∧ x % y < y :=
  ⟨by rw [Int.mul_comm]; exact (Int.mul_ediv_add_emod x y).symm, Int.emod_nonneg _ (by omega), Int.emod_lt_of_pos _ hy⟩
theorem fdiv_cases {x y : Int} (hy : 0 < y) (hr : x.tmod y = 0 ∨ ¬ x < 0) : x.fdiv y = x.tdiv y := by
  rw [fdiv_pos (Int.le_of_lt hy)]
  by_cases hx : x < 0
  · have hr := hr.resolve_right (fun q => q hx)
    have a := tdiv_sign x y
    have b := tmod_sign x y
    rw [show (x.natAbs : Int) = -x by omega, show (y.natAbs : Int) = y by omega] at a b
    simp [hx, show ¬ y < 0 by omega] at a b
    obtain ⟨c, d, e⟩ := dm_pos (x := -x) hy
    rw [a]
    refine ((dm_unique (q := -(-x / y)) (c := 0) (d := y) (x := x) (Int.le_refl _) hy ?_).1).symm
    rw [Int.neg_mul]; omega
  · rw [Int.tdiv_eq_ediv_of_nonneg (by omega)]
theorem fdiv_less {x y : Int} (hy : 0 < y) (hr : x.tmod y ≠ 0) (hs : x < 0) : x.fdiv y = -((x.natAbs : Int) / y.natAbs + 1) := by
  rw [fdiv_pos (Int.le_of_lt hy)]
  have b := tmod_sign x y
  rw [show (x.natAbs : Int) = -x by omega, show (y.natAbs : Int) = y by omega] at b ⊢
  simp [hs] at b
  obtain ⟨c, d, e⟩ := dm_pos (x := -x) hy
  refine ((dm_unique (q := -(-x / y + 1)) (c := y - -x % y) (d := y) (x := x) (by omega) (by omega) ?_).1).symm
  rw [Int.neg_mul, Int.add_mul]; omega

def IsSs (M : Addr → Prop) (σ : AHeap) (vs : List V) (xs : List Int) : Prop := vs.length = xs.length ∧ ∀ (i : Nat) v x, vs[i]? = some v → xs[i]? = some x → IsS M σ v x
theorem IsSs.ext {M : Addr → Prop} {σ σ' : AHeap} {vs : List V} {xs : List Int} (h : IsSs M σ vs xs) (e : Ext σ σ') : IsSs M σ' vs xs := ⟨h.1, fun i v x h1 h2 => (h.2 i v x h1 h2).ext e⟩
theorem IsSs.at {M : Addr → Prop} {σ : AHeap} {vs : List V} {xs : List Int} (h : IsSs M σ vs xs) {i : Nat} (hi : i < xs.length) : ∃ v, vs[i]? = some v ∧ IsS M σ v (gt xs i) := by
  have : i < vs.length := by rw [h.1]; exact hi
  exact ⟨vs[i], List.getElem?_eq_getElem this, h.2 i _ _ (List.getElem?_eq_getElem this) (gt_some hi)⟩
theorem IsSs.nil {M : Addr → Prop} {σ : AHeap} : IsSs M σ [] [] := ⟨rfl, fun i v x h => by simp at h⟩
theorem IsSs.snoc {M : Addr → Prop} {σ : AHeap} {vs : List V} {xs : List Int} {v : V} {x : Int} (h : IsSs M σ vs xs) (hv : IsS M σ v x) : IsSs M σ (vs ++ [v]) (xs ++ [x]) := by
  refine ⟨by simp [h.1], fun i u y h1 h2 => ?_⟩
  rcases Nat.lt_or_ge i vs.length with q | q
  · rw [List.getElem?_append_left q] at h1
    rw [List.getElem?_append_left (by rw [← h.1]; exact q)] at h2
    exact h.2 i u y h1 h2
  · rw [List.getElem?_append_right q] at h1
    rw [List.getElem?_append_right (by rw [← h.1]; exact q)] at h2
    rw [← h.1] at h2
    rcases Nat.eq_zero_or_pos (i - vs.length) with z | z
    · rw [z] at h1 h2; cases h1; cases h2; exact hv
    · rw [List.getElem?_eq_none (by simp; omega)] at h1; cases h1

def dotI : List Int → List Int → Int
  | x :: xs, y :: ys => x * y + dotI xs ys
  | _, _ => 0
theorem zip_get {M : Addr → Prop} {σ : AHeap} {vs us : List V} {xs ys : List Int} {k : Nat} {it : List V} (h : IsSs M σ vs xs) (h' : IsSs M σ us ys) (hit : (zipL vs us)[k]? = some it) :
    ∃ v u, it = [v, u] ∧ k < xs.length ∧ k < ys.length ∧ IsS M σ v (gt xs k) ∧ IsS M σ u (gt ys k) := by
  unfold zipL at hit
  rw [List.getElem?_zipWith] at hit
  cases e1 : vs[k]? with
  | none => rw [e1] at hit; cases hit
  | some v =>
    cases e2 : us[k]? with
    | none => rw [e1, e2] at hit; cases hit
    | some u =>
      rw [e1, e2] at hit
      cases hit
      have k1 : k < vs.length := by
        rcases Nat.lt_or_ge k vs.length with q | q
        · exact q
        · rw [List.getElem?_eq_none q] at e1; cases e1
      have k2 : k < us.length := by
        rcases Nat.lt_or_ge k us.length with q | q
        · exact q
        · rw [List.getElem?_eq_none q] at e2; cases e2
      rw [h.1] at k1
      rw [h'.1] at k2
      exact ⟨v, u, rfl, k1, k2, h.2 k v _ e1 (gt_some k1), h'.2 k u _ e2 (gt_some k2)⟩
theorem zip_len {vs us : List V} : (zipL vs us).length = min vs.length us.length := by unfold zipL; simp
theorem dot_take {xs ys : List Int} {k : Nat} (h1 : k < xs.length) (h2 : k < ys.length) : dotI (xs.take (k + 1)) (ys.take (k + 1)) = dotI (xs.take k) (ys.take k) + gt xs k * gt ys k := by
  induction k generalizing xs ys with
  | zero =>
    match xs, ys, h1, h2 with
    | x :: xs, y :: ys, _, _ => simp [dotI, gt]
  | succ k ih =>
    match xs, ys, h1, h2 with
    | x :: xs, y :: ys, h1, h2 =>
      have := ih (xs := xs) (ys := ys) (by simpa using h1) (by simpa using h2)
      rw [List.take_succ_cons, List.take_succ_cons, dotI, this, List.take_succ_cons, List.take_succ_cons, dotI]
      have e1 : gt (x :: xs) (k + 1) = gt xs k := rfl
      have e2 : gt (y :: ys) (k + 1) = gt ys k := rfl
      rw [e1, e2]; omega
theorem dotI_take_min (xs ys : List Int) : dotI (xs.take (min xs.length ys.length)) (ys.take (min xs.length ys.length)) = dotI xs ys := by
  induction xs generalizing ys with
  | nil => simp [dotI]
  | cons x xs ih =>
    cases ys with
    | nil => simp [dotI]
    | cons y ys =>
      rw [List.length_cons, List.length_cons, Nat.succ_min_succ, List.take_succ_cons, List.take_succ_cons, dotI, dotI, ih]

section
variable {h0 : Heap} {prog : Program} {w : World} {mg mb : Str → Option Value} (G : Gd (KK w) h0 mg mb) {n : Nat}

include G in
theorem c_tdiv {M : Addr → Prop} {v u : V} {x y : Int} {σ : AHeap} {Q : V → AHeap → Prop} (hL : Live M σ) (hv : IsS M σ v x) (hu : IsS M σ u y) (hx : Bnd (ML - 8) x) (hy : Bnd (ML - 8) y) (hy0 : y ≠ 0)
    (hQ : ∀ t q r σ', Ext σ σ' → σ' t = some (.tup [.ref q, .ref r]) → IsS M σ' (.ref q) (x.tdiv y) → IsS M σ' (.ref r) (x.tmod y) → Q (.ref t) σ') : CC prog w h0 (n + 5) (.ref 198) [v, u, .int 8, .ref 357] σ Q := by
  obtain ⟨t, a, rfl, ht, ha, hM⟩ := hv
  obtain ⟨t', a', rfl, ht', ha', hM'⟩ := hu
  obtain ⟨l, h1, hl⟩ := ha'.list
  refine enter G [some (.ref t), some (.ref t'), some (.int 8), some (.ref 357), none, none] (at_tdiv _) rfl rfl ?_
  conv => whnf
  refine ixT ht' 1 _ rfl rfl ?_
  conv => whnf
  refine ⟨_, h1, ?_⟩
  conv => whnf
  simp only [List.length_map]
  refine ⟨fun e => ?_, fun e => ?_⟩
  · have e := of_decide_eq_true e; omega
  clear e
  conv => whnf
  refine ixT ht 1 _ rfl rfl ?_
  conv => whnf
  refine ixT ht' 1 _ rfl rfl ?_
  conv => whnf
  refine c_divrem_school G ha ha' hx hy (by omega) fun s q r σ1 s1 s2 s3 s4 s5 s6 s7 s8 => ?_
  conv => whnf
  refine ⟨_, ⟨s6, rfl⟩, ?_⟩
  conv => whnf
  refine ixT (s5 _ _ ht) 0 _ rfl rfl ?_
  conv => whnf
  refine ixT (s5 _ _ ht') 0 _ rfl rfl ?_
  conv => whnf
  refine CC.up (n := n + 1) (c_signed G s7 (hL.not s3) (tdiv_sign x y) fun q' σ2 q1 q2 => ?_) (by omega)
  conv => whnf
  refine ixT (q1 _ _ (s5 _ _ ht)) 0 _ rfl rfl ?_
  conv => whnf
  refine CC.up (n := n + 1) (c_signed G (s8.ext q1) (hL.not s4) (tmod_sign x y) fun r' σ3 r1 r2 => ?_) (by omega)
  conv => whnf
  intro u σ4 u1 u2 u3 u4
  exact hQ u q' r' σ4 (((s5.trans q1).trans r1).trans u3) u4 ((q2.ext r1).ext u3) (r2.ext u3)

include G in
theorem c_fdiv {M : Addr → Prop} {v u : V} {x y : Int} {σ : AHeap} {Q : V → AHeap → Prop} (hL : Live M σ) (hv : IsS M σ v x) (hu : IsS M σ u y) (hx : Bnd (ML - 8) x) (hy : Bnd (ML - 8) y) (hy0 : 0 < y)
    (hQ : ∀ t q r σ', Ext σ σ' → σ' t = some (.tup [.ref q, r]) → IsS M σ' (.ref q) (x.fdiv y) → Q (.ref t) σ') : CC prog w h0 (n + 6) (.ref 205) [v, u, .int 8, .ref 357] σ Q := by
  have hML := ML_eq
  refine enter G [some v, some u, some (.int 8), some (.ref 357), none, none] (at_fdiv _) rfl rfl ?_
  conv => whnf
  refine c_tdiv G hL hv hu hx hy (by omega) fun t q r σ1 t1 t2 t3 t4 => ?_
  conv => whnf
  refine ⟨_, ⟨t2, rfl⟩, ?_⟩
  have hv1 := hv.ext t1
  have hu1 := hu.ext t1
  obtain ⟨tv, av, rfl, htv, hav, hMv⟩ := hv1
  obtain ⟨tu, au, rfl, htu, hau, hMu⟩ := hu1
  obtain ⟨tr, ar, er, htr, har, hMr⟩ := t4
  cases er
  obtain ⟨tq, aq, eq, htq, haq, hMq⟩ := t3
  cases eq
  obtain ⟨l, h1, hl⟩ := har.list
  have plain : (x.tmod y = 0 ∨ ¬ x < 0) → allocW (Bs h0) (.tup [.ref q, .ref r]) σ1 Q := fun h => by
    intro t' σ2 s1 s2 s3 s4
    exact hQ t' q _ σ2 (t1.trans s3) s4 (by rw [fdiv_cases hy0 h]; exact IsS.ext ⟨q, aq, rfl, htq, haq, hMq⟩ s3)
  conv => whnf
  refine ixT htr 1 _ rfl rfl ?_
  conv => whnf
  refine ⟨_, h1, ?_⟩
  conv => whnf
  simp only [List.length_map]
  refine ⟨fun e => ?_, fun e => ?_⟩
  · have e := of_decide_eq_true e
    conv => whnf
    refine ixT htv 0 _ rfl rfl ?_
    conv => whnf
    refine ixT htu 0 _ rfl rfl ?_
    conv => whnf
    refine ⟨fun e2 => ?_, fun e2 => ?_⟩
    · have e2 := of_decide_eq_true e2
      have hx0 : x < 0 := by
        rcases Int.lt_or_le x 0 with z | z
        · exact z
        · exfalso; apply e2; rw [decide_eq_decide]; omega
      conv => whnf
      refine ixT htq 1 _ rfl rfl ?_
      conv => whnf
      refine CC.up (n := n + 1) (c_add_limb G haq (x := (x.tdiv y).natAbs) (d := 1) ?_ (by decide) (by decide) fun s σ2 s1 s2 s3 s4 => ?_) (by omega)
      · have := pow_le (show ML - 8 ≤ ML by omega)
        unfold Bnd at hx
        have := Int.natAbs_tdiv_le_natAbs x y
        omega
      conv => whnf
      intro z σ3 z1 z2 z3 z4
      conv => whnf
      have hr : Bnd ML (x.tmod y) := by
        have := pow_le (show ML - 8 ≤ ML by omega)
        have h3 := tmod_sign x y
        unfold Bnd at hx hy ⊢
        obtain ⟨_, d1, d2⟩ := dm_pos (x := (x.natAbs : Int)) (y := y.natAbs) (by omega)
        split at h3 <;> omega
      have hLs : Live M σ3 := ((hL.ext t1).ext s3).ext z3
      refine CC.up (n := n + 3) (c_s_add G hLs (IsS.ext ⟨r, ar, rfl, htr, har, hMr⟩ (s3.trans z3)) (IsS.ext ⟨tu, au, rfl, htu, hau, hMu⟩ (s3.trans z3)) hr (hy.mono (by omega)) fun b σ4 b1 b2 => ?_) (by omega)
      conv => whnf
      intro c σ5 c1 c2 c3 c4
      have hz : x.fdiv y = -(((x.tdiv y).natAbs : Int) + 1) := by
        rw [fdiv_less hy0 (by omega) hx0]
        have := tdiv_sign x y
        have q0 : 0 ≤ (x.natAbs : Int) / y.natAbs := Int.ediv_nonneg (by omega) (by omega)
        split at this <;> omega
      refine hQ c z _ σ5 ((((t1.trans s3).trans z3).trans b1).trans c3) c4 ⟨z, s, rfl, ?_, ?_, ?_⟩
      · rw [c3 _ _ (b1 _ _ z4), hz, decide_eq_true (by omega)]
      · rw [show (((x.fdiv y).natAbs : Nat) : Int) = ((x.tdiv y).natAbs : Int) + 1 by omega]
        exact ((s4.ext z3).ext b1).ext c3
      · exact (hL.ext t1).not s2
    · have e2 := of_decide_eq_false e2
      have hx0 : ¬ x < 0 := fun q => e2 (fun z => by
        rw [decide_eq_decide] at z; omega)
      exact plain (.inr hx0)
  · have e := of_decide_eq_false e
    exact ⟨nofun, fun _ => plain (.inl (by omega))⟩

include G in
theorem c_s_shift {M : Addr → Prop} {v : V} {x : Int} {σ : AHeap} {Q : V → AHeap → Prop} (hL : Live M σ) (hv : IsS M σ v x) (hx : Bnd ML x) (hQ : ∀ t σ', Ext σ σ' → IsS M σ' (.ref t) (2 * x) → Q (.ref t) σ') : CC prog w h0 (n + 2) (.ref 212) [v, .int 1, .int 8] σ Q := by
  obtain ⟨t, a, rfl, ht, ha, hM⟩ := hv
  refine enter G [some (.ref t), some (.int 1), some (.int 8), none] (at_s_shift _) rfl rfl ?_
  conv => whnf
  refine ⟨fun _ => ?_, fun e => absurd (of_decide_eq_false e) (by decide)⟩
  conv => whnf
  refine ixT ht 0 _ rfl rfl ?_
  conv => whnf
  refine ixT ht 1 _ rfl rfl ?_
  conv => whnf
  refine c_shift_left G (s := 1) ha hx (by decide) fun r σ1 r1 r2 r3 r4 => ?_
  conv => whnf
  refine c_signed G r4 (hL.not r2) ?_ fun s σ2 s1 s2 => hQ s σ2 (r3.trans s1) s2
  by_cases q : x < 0
  · simp [q]; omega
  · simp [q]; omega

include G in
theorem c_nearest {M : Addr → Prop} {v u : V} {x y : Int} {σ : AHeap} {Q : V → AHeap → Prop} (hL : Live M σ) (hv : IsS M σ v x) (hu : IsS M σ u y) (hx : Bnd (ML - 16) x) (hy : Bnd (ML - 16) y) (hy0 : 0 < y)
    (hQ : ∀ q σ', Ext σ σ' → IsS M σ' (.ref q) ((2 * x + y).fdiv (2 * y)) → Q (.ref q) σ') : CC prog w h0 (n + 7) (.ref 233) [v, u, .int 8, .ref 357] σ Q := by
  have hML := ML_eq
  have b2 : ∀ z, Bnd (ML - 16) z → Bnd (ML - 15) (2 * z) := fun z h => by
    have := pow_le (show ML - 16 ≤ ML - 15 by omega)
    have e : (256 : Int) ^ (ML - 15) = 256 ^ (ML - 16) * 256 := by rw [← pow_s]; congr 1; omega
    unfold Bnd at *; omega
  refine enter G [some v, some u, some (.int 8), some (.ref 357)] (at_nearest_quotient _) rfl rfl ?_
  conv => whnf
  refine CC.up (n := n + 2) (c_s_shift G hL hv (hx.mono (by omega)) fun s σ1 s1 s2 => ?_) (by omega)
  conv => whnf
  refine CC.up (n := n + 3) (c_s_add G (hL.ext s1) s2 (hu.ext s1) ((b2 x hx).mono (by omega)) (hy.mono (by omega)) fun a σ2 a1 a2 => ?_) (by omega)
  conv => whnf
  have e2 := s1.trans a1
  refine CC.up (n := n + 2) (c_s_shift G (hL.ext e2) (hu.ext e2) (hy.mono (by omega)) fun c σ3 c1 c2 => ?_) (by omega)
  conv => whnf
  refine c_fdiv G ((hL.ext e2).ext c1) (a2.ext c1) c2 ((Bnd.add (b2 x hx) (hy.mono (show ML - 16 ≤ ML - 15 by omega))).mono (by omega)) ((b2 y hy).mono (by omega)) (by omega) fun t q r σ4 t1 t2 t3 => ?_
  conv => whnf
  refine ixT t2 0 _ rfl rfl ?_
  exact hQ q σ4 ((e2.trans c1).trans t1) t3

include G in
theorem c_dot {M : Addr → Prop} {a b : Addr} {vs us : List V} {xs ys : List Int} {k : Nat} {σ : AHeap} {Q : V → AHeap → Prop} (hL : Live M σ) (hN : IsS M σ (.ref 214) 0) (ha : σ a = some (.list vs)) (hb : σ b = some (.list us)) (hv : IsSs M σ vs xs) (hu : IsSs M σ us ys) (hx : ∀ i, Bnd k (gt xs i)) (hy : ∀ i, Bnd k (gt ys i)) (hk : 2 * k + xs.length ≤ ML)
    (hQ : ∀ t σ', Ext σ σ' → IsS M σ' (.ref t) (dotI xs ys) → Q (.ref t) σ') : CC prog w h0 (n + 4) (.ref 221) [.ref a, .ref b, .int 8, .ref 315] σ Q := by
  refine enter G [some (.ref a), some (.ref b), some (.int 8), some (.ref 315), none, none, none] (at_dot _) rfl rfl ?_
  conv => whnf
  refine ⟨_, _, ⟨ha, hb⟩, ?_⟩
  refine ⟨fun j ρ υ => ∃ t u1 u2, ρ = [some (.ref a), some (.ref b), some (.int 8), some (.ref 315), some (.ref t), u1, u2] ∧ Ext σ υ ∧ IsS M υ (.ref t) (dotI (xs.take j) (ys.take j)) ∧ Bnd (2 * k + j) (dotI (xs.take j) (ys.take j)),
    ⟨214, none, none, rfl, .refl, by simpa [dotI] using hN, by simp [dotI, Bnd]; exact pow_pos' _⟩, ?_, ?_, ?_⟩
  · rintro j _ υ ⟨t, u1, u2, rfl, he, _⟩
    exact ⟨he _ _ ha, he _ _ hb⟩
  · rintro j _ υ it ⟨t, u1, u2, rfl, he, ht, hbd⟩ hit
    obtain ⟨v, u, rfl, j1, j2, i1, i2⟩ := zip_get (hv.ext he) (hu.ext he) hit
    conv => whnf
    refine c_s_mul G (hL.ext he) i1 i2 ((hx j).mono (by omega)) ((hy j).mono (by omega)) fun m σ1 m1 m2 => ?_
    conv => whnf
    have bm : Bnd (2 * k + j) (gt xs j * gt ys j) := (Bnd.mul (hx j) (hy j)).mono (by omega)
    refine c_s_add G ((hL.ext he).ext m1) (ht.ext m1) m2 (hbd.mono (by omega)) (bm.mono (by omega)) fun s σ2 s1 s2 => ?_
    rw [← dot_take j1 j2] at s2
    refine ⟨s, _, _, rfl, (he.trans m1).trans s1, s2, ?_⟩
    rw [dot_take j1 j2]
    exact Bnd.add hbd bm
  · rintro _ υ ⟨t, u1, u2, rfl, he, ht, hbd⟩
    rw [zip_len, hv.1, hu.1, dotI_take_min] at ht
    conv => whnf
    exact hQ t υ he ht

def rowLess (xs ys : List Int) (m : Int) : List Int := List.zipWith (fun x y => x - y * m) xs ys
theorem gt_rowLess {xs ys : List Int} {m : Int} {j : Nat} (h1 : j < xs.length) (h2 : j < ys.length) : gt (rowLess xs ys m) j = gt xs j - gt ys j * m := by
  have : (rowLess xs ys m)[j]? = some (gt xs j - gt ys j * m) := by
    unfold rowLess
    rw [List.getElem?_zipWith, gt_some h1, gt_some h2]
  unfold gt
  rw [List.getD_eq_getElem?_getD, this]
  rfl
include G in
theorem c_row_less {M : Addr → Prop} {a b : Addr} {vs us : List V} {xs ys : List Int} {m : Int} {vm : V} {k : Nat} {σ : AHeap} {Q : V → AHeap → Prop} (hL : Live M σ) (ha : σ a = some (.list vs)) (hb : σ b = some (.list us)) (hv : IsSs M σ vs xs) (hu : IsSs M σ us ys) (hm : IsS M σ vm m) (hx : ∀ i, Bnd k (gt xs i)) (hy : ∀ i, Bnd k (gt ys i)) (hmb : Bnd k m) (hk : 2 * k + xs.length ≤ ML)
    (hQ : ∀ r vs' σ', Bs h0 r → σ r = none → Ext σ σ' → σ' r = some (.list vs') → IsSs M σ' vs' (rowLess xs ys m) → Q (.ref r) σ') : CC prog w h0 (n + 5) (.ref 226) [.ref a, .ref b, vm, .int 8, .ref 315] σ Q := by
  have hML := ML_eq
  refine enter G [some (.ref a), some (.ref b), some vm, some (.int 8), some (.ref 315)] (at_row_less _) rfl rfl ?_
  conv => whnf
  refine ⟨_, _, ⟨ha, hb⟩, ?_⟩
  refine ⟨by rw [zip_len, hv.1, hu.1]; show _ ≤ 16777216; omega, fun acc υ => Ext σ υ ∧ ∃ zs, IsSs M υ acc zs ∧ zs = (rowLess xs ys m).take acc.length ∧ acc.length ≤ min xs.length ys.length, ⟨.refl, [], .nil, rfl, Nat.zero_le _⟩, ?_, ?_, ?_⟩
  · rintro acc υ ⟨he, _⟩
    exact ⟨he _ _ ha, he _ _ hb⟩
  · rintro acc υ it ⟨he, zs, hz, ez, hle⟩ hit
    obtain ⟨v, u, rfl, j1, j2, i1, i2⟩ := zip_get (hv.ext he) (hu.ext he) hit
    conv => whnf
    refine CC.up (n := n + 3) (c_s_mul G (hL.ext he) i2 (hm.ext he) ((hy _).mono (by omega)) (hmb.mono (by omega)) fun p σ1 p1 p2 => ?_) (by omega)
    conv => whnf
    refine c_s_sub G ((hL.ext he).ext p1) (i1.ext p1) p2 ((hx _).mono (by omega)) ((Bnd.mul (hy acc.length) hmb).mono (by omega)) fun s σ2 s1 s2 => ?_
    refine ⟨(he.trans p1).trans s1, zs ++ [gt xs acc.length - gt ys acc.length * m], ((hz.ext p1).ext s1).snoc s2, ?_, by simp; omega⟩
    rw [List.length_append, List.length_singleton, ez]
    have hlen : acc.length < (rowLess xs ys m).length := by unfold rowLess; rw [List.length_zipWith]; omega
    rw [List.take_succ_eq_append_getElem hlen]
    rw [gt_eq, gt_rowLess j1 j2]
  · rintro acc υ ⟨he, zs, hz, ez, hle⟩ hlen
    intro r σ' r1 r2 r3 r4
    refine hQ r acc σ' r1 (he.none r2) (he.trans r3) r4 ?_
    rw [zip_len, hv.1, hu.1] at hlen
    rw [hlen, take_all (by unfold rowLess; rw [List.length_zipWith]; exact Nat.le_refl _)] at ez
    subst ez
    exact hz.ext r3
end
end Mine
end
section
set_option maxRecDepth 100000
namespace Mine
open PySem PySem.W PyProof.Rows PySem.Calls

@[irreducible] def KB : Nat := 262144
theorem KB_eq : KB = 262144 := by unfold KB; rfl

theorem atx {σ : AHeap} {x dx : Addr} {fs : List V} {k : Nat} {v : V} {Q : V → Prop} (h1 : σ x = some (.inst dx)) (h2 : σ dx = some (.dict fs)) (h3 : fs[k]? = some v) (hp : plainV v) (q : Q v) :
    ∃ dx vs v, (σ x = some (.inst dx) ∧ σ dx = some (.dict vs) ∧ vs[k]? = some v ∧ plainV v) ∧ Q v := ⟨dx, fs, v, ⟨h1, h2, h3, hp⟩, q⟩

def Self (σ : AHeap) (x : Addr) : Prop := ∃ dx fs, σ x = some (.inst dx) ∧ σ dx = some (.dict fs) ∧ fs[3]? = some (.int 8) ∧ fs[4]? = some (.ref 315) ∧ fs[5]? = some (.ref 357)
theorem Self.ext {σ σ' : AHeap} {x : Addr} (h : Self σ x) (e : Ext σ σ') : Self σ' x := by
  obtain ⟨dx, fs, h1, h2, h3⟩ := h; exact ⟨dx, fs, e _ _ h1, e _ _ h2, h3⟩
theorem Self.inst {σ : AHeap} {x : Addr} (h : Self σ x) : isInst (.ref x) σ := by
  obtain ⟨dx, fs, h1, h2, _⟩ := h; exact ⟨dx, fs, h1, h2⟩

section
variable {h0 : Heap} {prog : Program} {w : World} {mg mb : Str → Option Value} (G : Gd (KK w) h0 mg mb) {n : Nat}

include G in
theorem c_product_of {M : Addr → Prop} {s : Addr} {v u : V} {x y : Int} {σ : AHeap} {Q : V → AHeap → Prop} (hs : Self σ s) (hL : Live M σ) (hv : IsS M σ v x) (hu : IsS M σ u y) (hx : Bnd ML x) (hy : Bnd ML y) (hQ : ∀ t σ', Ext σ σ' → IsS M σ' (.ref t) (x * y) → Q (.ref t) σ') :
    CC prog w h0 (n + 4) (.ref 252) [.ref s, v, u] σ Q := by
  obtain ⟨dx, fs, a1, a2, a3, a4, a5⟩ := hs
  refine enter G [some (.ref s), some v, some u] (at_L_product_of _) rfl rfl ?_
  conv => whnf
  refine atx a1 a2 a3 trivial ?_
  conv => whnf
  refine atx a1 a2 a4 trivial ?_
  exact c_s_mul G hL hv hu hx hy hQ

include G in
theorem c_exact {M : Addr → Prop} {s : Addr} {v u : V} {x y : Int} {σ : AHeap} {Q : V → AHeap → Prop} (hs : Self σ s) (hL : Live M σ) (hv : IsS M σ v x) (hu : IsS M σ u y) (hx : Bnd (ML - 8) x) (hy : Bnd (ML - 8) y) (hy0 : y ≠ 0) (hQ : ∀ t σ', Ext σ σ' → IsS M σ' (.ref t) (x.tdiv y) → Q (.ref t) σ') :
    CC prog w h0 (n + 6) (.ref 259) [.ref s, v, u] σ Q := by
  obtain ⟨dx, fs, a1, a2, a3, a4, a5⟩ := hs
  refine enter G [some (.ref s), some v, some u] (at_L_exact _) rfl rfl ?_
  conv => whnf
  refine atx a1 a2 a3 trivial ?_
  conv => whnf
  refine atx a1 a2 a5 trivial ?_
  conv => whnf
  refine c_tdiv G hL hv hu hx hy hy0 fun t q r σ1 t1 t2 t3 t4 => ?_
  conv => whnf
  refine ixT t2 0 _ rfl rfl ?_
  exact hQ q σ1 t1 t3

include G in
theorem c_crossed {M : Addr → Prop} {s : Addr} {v1 v2 v3 v4 : V} {a b c d : Int} {k : Nat} {σ : AHeap} {Q : V → AHeap → Prop} (hs : Self σ s) (hL : Live M σ) (h1 : IsS M σ v1 a) (h2 : IsS M σ v2 b) (h3 : IsS M σ v3 c) (h4 : IsS M σ v4 d)
    (b1 : Bnd k a) (b2 : Bnd k b) (b3 : Bnd k c) (b4 : Bnd k d) (hk : 2 * k + 16 ≤ ML) (hQ : ∀ t σ', Ext σ σ' → IsS M σ' (.ref t) (a * b - c * d) → Q (.ref t) σ') :
    CC prog w h0 (n + 5) (.ref 266) [.ref s, v1, v2, v3, v4] σ Q := by
  refine enter G [some (.ref s), some v1, some v2, some v3, some v4] (at_L_crossed _) rfl rfl ?_
  conv => whnf
  refine ⟨hs.inst, ?_⟩
  conv => whnf
  refine c_product_of G hs hL h1 h2 (b1.mono (by omega)) (b2.mono (by omega)) fun t σ1 t1 t2 => ?_
  conv => whnf
  refine ⟨(hs.ext t1).inst, ?_⟩
  conv => whnf
  refine c_product_of G (hs.ext t1) (hL.ext t1) (h3.ext t1) (h4.ext t1) (b3.mono (by omega)) (b4.mono (by omega)) fun u σ2 u1 u2 => ?_
  have e2 := t1.trans u1
  obtain ⟨dx, fs, a1, a2, a3, a4, a5⟩ := hs.ext e2
  conv => whnf
  refine atx a1 a2 a3 trivial ?_
  conv => whnf
  exact c_s_sub G (hL.ext e2) (t2.ext u1) u2 ((Bnd.mul b1 b2).mono (by omega)) ((Bnd.mul b3 b4).mono (by omega)) fun z σ3 z1 z2 => hQ z σ3 (e2.trans z1) z2
end
end Mine
end
section
set_option maxRecDepth 100000
namespace Mine
open PySem PySem.W PyProof.Rows PySem.Calls

structure LA where
  dx : Addr
  aR : Addr
  aS : Addr
  aP : Addr
  vt : V
  vb : V
  rs : List Addr
  ps : List Addr
structure LC where
  rows : List (List Int)
  sizes : List Int
  parts : List (List Int)
  top : Int
  bot : Int

def IsLs (M : Addr → Prop) (σ : AHeap) (as : List Addr) (ls : List (List Int)) : Prop := as.length = ls.length ∧ ∀ (i : Nat) a l, as[i]? = some a → ls[i]? = some l → ∃ vs, σ a = some (.list vs) ∧ IsSs M σ vs l
theorem IsLs.ext {M : Addr → Prop} {σ σ' : AHeap} {as : List Addr} {ls : List (List Int)} (h : IsLs M σ as ls) (e : Ext σ σ') : IsLs M σ' as ls :=
  ⟨h.1, fun i a l h1 h2 => by obtain ⟨vs, q1, q2⟩ := h.2 i a l h1 h2; exact ⟨vs, e _ _ q1, q2.ext e⟩⟩

structure LatAt (h0 : Heap) (M : Addr → Prop) (σ : AHeap) (s : Addr) (A : LA) (L : LC) : Prop where
  inst : σ s = some (.inst A.dx)
  dict : σ A.dx = some (.dict [.ref A.aR, A.vt, A.vb, .int 8, .ref 315, .ref 357, .ref A.aS, .ref A.aP])
  rows : σ A.aR = some (.list (A.rs.map .ref))
  rowsL : IsLs M σ A.rs L.rows
  sizes : ∃ ss, σ A.aS = some (.list ss) ∧ IsSs M σ ss L.sizes
  parts : σ A.aP = some (.list (A.ps.map .ref))
  partsL : IsLs M σ A.ps L.parts
  top : IsS M σ A.vt L.top
  bot : IsS M σ A.vb L.bot
  nought : IsS M σ (.ref 214) 0
  live : Live M σ
  mu : M A.aR ∧ M A.aS ∧ M A.aP ∧ ∀ p ∈ A.ps, M p
  nd : (A.aR :: A.aS :: A.aP :: A.ps).Nodup
  rsM : ∀ r ∈ A.rs, ¬ M r
  bs : Bs h0 A.aR ∧ Bs h0 A.aS ∧ Bs h0 A.aP ∧ ∀ p ∈ A.ps, Bs h0 p

section
variable {h0 : Heap} {M : Addr → Prop} {σ σ' : AHeap} {s : Addr} {A : LA} {L : LC}

theorem LatAt.ext (h : LatAt h0 M σ s A L) (e : Ext σ σ') : LatAt h0 M σ' s A L :=
  { h with inst := e _ _ h.inst, dict := e _ _ h.dict, rows := e _ _ h.rows, rowsL := h.rowsL.ext e, sizes := by obtain ⟨ss, a, b⟩ := h.sizes; exact ⟨ss, e _ _ a, b.ext e⟩, parts := e _ _ h.parts, partsL := h.partsL.ext e, top := h.top.ext e, bot := h.bot.ext e, nought := h.nought.ext e, live := h.live.ext e }
theorem LatAt.self (h : LatAt h0 M σ s A L) : Self σ s := ⟨A.dx, _, h.inst, h.dict, rfl, rfl, rfl⟩
theorem IsS.plain {v : V} {z : Int} (h : IsS M σ v z) : plainV v := by obtain ⟨t, a, rfl, _⟩ := h; trivial

theorem LatAt.aRx (h : LatAt h0 M σ s A L) {Q : V → Prop} (q : Q (.ref A.aR)) : ∃ dx vs v, (σ s = some (.inst dx) ∧ σ dx = some (.dict vs) ∧ vs[0]? = some v ∧ plainV v) ∧ Q v := atx h.inst h.dict rfl trivial q
theorem LatAt.vtx (h : LatAt h0 M σ s A L) {Q : V → Prop} (q : Q A.vt) : ∃ dx vs v, (σ s = some (.inst dx) ∧ σ dx = some (.dict vs) ∧ vs[1]? = some v ∧ plainV v) ∧ Q v := atx h.inst h.dict rfl h.top.plain q
theorem LatAt.vbx (h : LatAt h0 M σ s A L) {Q : V → Prop} (q : Q A.vb) : ∃ dx vs v, (σ s = some (.inst dx) ∧ σ dx = some (.dict vs) ∧ vs[2]? = some v ∧ plainV v) ∧ Q v := atx h.inst h.dict rfl h.bot.plain q
theorem LatAt.wx (h : LatAt h0 M σ s A L) {Q : V → Prop} (q : Q (.int 8)) : ∃ dx vs v, (σ s = some (.inst dx) ∧ σ dx = some (.dict vs) ∧ vs[3]? = some v ∧ plainV v) ∧ Q v := atx h.inst h.dict rfl trivial q
theorem LatAt.mulx (h : LatAt h0 M σ s A L) {Q : V → Prop} (q : Q (.ref 315)) : ∃ dx vs v, (σ s = some (.inst dx) ∧ σ dx = some (.dict vs) ∧ vs[4]? = some v ∧ plainV v) ∧ Q v := atx h.inst h.dict rfl trivial q
theorem LatAt.divx (h : LatAt h0 M σ s A L) {Q : V → Prop} (q : Q (.ref 357)) : ∃ dx vs v, (σ s = some (.inst dx) ∧ σ dx = some (.dict vs) ∧ vs[5]? = some v ∧ plainV v) ∧ Q v := atx h.inst h.dict rfl trivial q
theorem LatAt.aSx (h : LatAt h0 M σ s A L) {Q : V → Prop} (q : Q (.ref A.aS)) : ∃ dx vs v, (σ s = some (.inst dx) ∧ σ dx = some (.dict vs) ∧ vs[6]? = some v ∧ plainV v) ∧ Q v := atx h.inst h.dict rfl trivial q
theorem LatAt.aPx (h : LatAt h0 M σ s A L) {Q : V → Prop} (q : Q (.ref A.aP)) : ∃ dx vs v, (σ s = some (.inst dx) ∧ σ dx = some (.dict vs) ∧ vs[7]? = some v ∧ plainV v) ∧ Q v := atx h.inst h.dict rfl trivial q

def gl (l : List (List Int)) (i : Nat) : List Int := l.getD i []
theorem gl_some {l : List (List Int)} {j : Nat} (h : j < l.length) : l[j]? = some (gl l j) := by unfold gl; rw [List.getD_eq_getElem?_getD, List.getElem?_eq_getElem h]; rfl
def ga (l : List Addr) (i : Nat) : Addr := l.getD i 0
theorem ga_some {l : List Addr} {j : Nat} (h : j < l.length) : l[j]? = some (ga l j) := by unfold ga; rw [List.getD_eq_getElem?_getD, List.getElem?_eq_getElem h]; rfl
theorem ga_mem {l : List Addr} {j : Nat} (h : j < l.length) : ga l j ∈ l := List.mem_of_getElem? (ga_some h)

theorem IsLs.at {as : List Addr} {ls : List (List Int)} (h : IsLs M σ as ls) {i : Nat} (hi : i < ls.length) : as[i]? = some (ga as i) ∧ ∃ vs, σ (ga as i) = some (.list vs) ∧ IsSs M σ vs (gl ls i) := by
  have : i < as.length := by rw [h.1]; exact hi
  exact ⟨ga_some this, h.2 i _ _ (ga_some this) (gl_some hi)⟩

theorem ixR {x : Addr} {l : List Addr} {n : Int} {Q : V → Prop} (h : σ x = some (.list (l.map .ref))) (j : Nat) (hn : n = (j : Int)) (hj : j < l.length) (q : Q (.ref (ga l j))) :
    ∃ xs j v, ((σ x = some (.list xs) ∨ σ x = some (.tup xs)) ∧ seqIdx n xs.length j ∧ xs[j]? = some v) ∧ Q v :=
  ⟨_, j, _, ⟨.inl h, .inl hn, by rw [List.getElem?_map, ga_some hj]; rfl⟩, q⟩

theorem LatAt.len_rs (h : LatAt h0 M σ s A L) : A.rs.length = L.rows.length := h.rowsL.1
theorem LatAt.len_ps (h : LatAt h0 M σ s A L) : A.ps.length = L.parts.length := h.partsL.1

theorem IsS.but {x : Addr} {l : List V} {v : V} {z : Int} (h : IsS M σ v z) (hx : M x) (hl : σ x = some (.list l)) (e : ExtBut x σ σ') : IsS M σ' v z := by
  obtain ⟨t, a, h1, h2, ⟨li, h3, h4⟩, h5⟩ := h
  exact ⟨t, a, h1, e _ _ (fun q => by rw [q, hl] at h2; cases h2) h2, ⟨li, e _ _ (fun q => h5 (q ▸ hx)) h3, h4⟩, h5⟩
theorem IsSs.but {x : Addr} {l : List V} {vs : List V} {xs : List Int} (h : IsSs M σ vs xs) (hx : M x) (hl : σ x = some (.list l)) (e : ExtBut x σ σ') : IsSs M σ' vs xs := ⟨h.1, fun i v y h1 h2 => (h.2 i v y h1 h2).but hx hl e⟩
theorem IsLs.but {x : Addr} {l : List V} {as : List Addr} {ls : List (List Int)} (h : IsLs M σ as ls) (hx : M x) (hl : σ x = some (.list l)) (e : ExtBut x σ σ') (hn : x ∉ as) : IsLs M σ' as ls :=
  ⟨h.1, fun i a r h1 h2 => by
    obtain ⟨vs, q1, q2⟩ := h.2 i a r h1 h2
    exact ⟨vs, e _ _ (fun q => hn (q ▸ List.mem_of_getElem? h1)) q1, q2.but hx hl e⟩⟩
theorem Live.but {x : Addr} {o : AObj} (h : Live M σ) (e : ExtBut x σ σ') (hx : σ' x = some o) : Live M σ' := fun m hm => by
  by_cases q : m = x
  · rw [q, hx]; simp
  · cases z : σ m with
    | none => exact absurd z (h m hm)
    | some o => rw [e _ _ q z]; simp

theorem IsSs.set {vs : List V} {xs : List Int} {j : Nat} {v : V} {z : Int} (h : IsSs M σ vs xs) (hv : IsS M σ v z) : IsSs M σ (vs.set j v) (xs.set j z) := by
  refine ⟨by simp [h.1], fun i u y h1 h2 => ?_⟩
  by_cases q : j = i
  · subst q
    rw [List.getElem?_set_self'] at h1 h2
    cases e1 : vs[j]? with
    | none => rw [e1] at h1; cases h1
    | some a =>
      cases e2 : xs[j]? with
      | none => rw [e2] at h2; cases h2
      | some b => rw [e1] at h1; rw [e2] at h2; cases h1; cases h2; exact hv
  · rw [List.getElem?_set_ne q] at h1 h2; exact h.2 i u y h1 h2
theorem IsLs.set {as : List Addr} {ls : List (List Int)} {j : Nat} {a : Addr} {l : List Int} (h : IsLs M σ as ls) (ha : ∃ vs, σ a = some (.list vs) ∧ IsSs M σ vs l) : IsLs M σ (as.set j a) (ls.set j l) := by
  refine ⟨by simp [h.1], fun i u y h1 h2 => ?_⟩
  by_cases q : j = i
  · subst q
    rw [List.getElem?_set_self'] at h1 h2
    cases e1 : as[j]? with
    | none => rw [e1] at h1; cases h1
    | some b =>
      cases e2 : ls[j]? with
      | none => rw [e2] at h2; cases h2
      | some c => rw [e1] at h1; rw [e2] at h2; cases h1; cases h2; exact ha
  · rw [List.getElem?_set_ne q] at h1 h2; exact h.2 i u y h1 h2

theorem nodup_four {a b c : Addr} {l : List Addr} (h : (a :: b :: c :: l).Nodup) : a ≠ b ∧ a ≠ c ∧ b ≠ c ∧ a ∉ l ∧ b ∉ l ∧ c ∉ l ∧ l.Nodup := by
  simp only [List.nodup_cons, List.mem_cons, not_or] at h
  exact ⟨h.1.1, h.1.2.1, h.2.1.1, h.1.2.2, h.2.1.2, h.2.2.1, h.2.2.2⟩

theorem LatAt.setRow (h : LatAt h0 M σ s A L) {k : Nat} {r : Addr} {vs : List V} {l : List Int} (hr : σ r = some (.list vs)) (hv : IsSs M σ vs l) (hM : ¬ M r) (e : ExtBut A.aR σ σ') (e' : σ' A.aR = some (.list ((A.rs.map .ref).set k (.ref r)))) :
    LatAt h0 M σ' s { A with rs := A.rs.set k r } { L with rows := L.rows.set k l } := by
  obtain ⟨n1, n2, n3, n4, n5, n6, n7⟩ := nodup_four h.nd
  have hx := h.mu.1
  have hl := h.rows
  refine { inst := e _ _ (fun q => by have := h.inst; rw [q, hl] at this; cases this) h.inst, dict := e _ _ (fun q => by have := h.dict; rw [q, hl] at this; cases this) h.dict, rows := by rw [e', List.map_set], rowsL := ?_, sizes := ?_, parts := e _ _ (Ne.symm n2) h.parts, partsL := h.partsL.but hx hl e n4, top := h.top.but hx hl e, bot := h.bot.but hx hl e, nought := h.nought.but hx hl e, live := h.live.but e e', mu := h.mu, nd := h.nd, rsM := fun q hq => ?_, bs := h.bs }
  · exact (h.rowsL.but hx hl e fun q => h.rsM _ q hx).set ⟨vs, e _ _ (fun q => hM (q ▸ hx)) hr, hv.but hx hl e⟩
  · obtain ⟨ss, a, b⟩ := h.sizes
    exact ⟨ss, e _ _ (Ne.symm n1) a, b.but hx hl e⟩
  · rcases List.mem_or_eq_of_mem_set hq with q | q
    · exact h.rsM _ q
    · subst q; exact hM

theorem LatAt.setPart (h : LatAt h0 M σ s A L) {k j : Nat} {v : V} {z : Int} {vs : List V} (hk : k < L.parts.length) (hvs : σ (ga A.ps k) = some (.list vs)) (hS : IsSs M σ vs (gl L.parts k)) (hv : IsS M σ v z) (e : ExtBut (ga A.ps k) σ σ') (e' : σ' (ga A.ps k) = some (.list (vs.set j v))) :
    LatAt h0 M σ' s A { L with parts := L.parts.set k ((gl L.parts k).set j z) } := by
  obtain ⟨n1, n2, n3, n4, n5, n6, n7⟩ := nodup_four h.nd
  have hk' : k < A.ps.length := by rw [h.len_ps]; exact hk
  have hm := ga_mem hk'
  have hx := h.mu.2.2.2 _ hm
  have ne : ∀ a, a ∉ A.ps → a ≠ ga A.ps k := fun a ha q => ha (by rw [q]; exact hm)
  refine { inst := e _ _ (fun q => by have := h.inst; rw [q, hvs] at this; cases this) h.inst, dict := e _ _ (fun q => by have := h.dict; rw [q, hvs] at this; cases this) h.dict, rows := e _ _ (ne _ n4) h.rows, rowsL := h.rowsL.but hx hvs e fun q => h.rsM _ q hx, sizes := ?_, parts := e _ _ (ne _ n6) h.parts, partsL := ?_, top := h.top.but hx hvs e, bot := h.bot.but hx hvs e, nought := h.nought.but hx hvs e, live := h.live.but e e', mu := h.mu, nd := h.nd, rsM := h.rsM, bs := h.bs }
  · obtain ⟨ss, a, b⟩ := h.sizes
    exact ⟨ss, e _ _ (ne _ n5) a, b.but hx hvs e⟩
  · refine ⟨by simp [h.partsL.1], fun i a l h1 h2 => ?_⟩
    by_cases q : k = i
    · subst q
      rw [ga_some hk'] at h1
      rw [List.getElem?_set_self hk] at h2
      cases h1; cases h2
      exact ⟨_, e', (hS.but hx hvs e).set (hv.but hx hvs e)⟩
    · rw [List.getElem?_set_ne q] at h2
      obtain ⟨us, u1, u2⟩ := h.partsL.2 i a l h1 h2
      refine ⟨us, e _ _ (fun z => q ?_) u1, u2.but hx hvs e⟩
      have hi : i < A.ps.length := by
        rcases Nat.lt_or_ge i A.ps.length with w | w
        · exact w
        · rw [List.getElem?_eq_none w] at h1; cases h1
      have a1 := ga_some hk'
      rw [← z] at a1
      exact (List.getElem?_inj hk' n7).mp (a1.trans h1.symm)

theorem LatAt.setSize (h : LatAt h0 M σ s A L) {k : Nat} {v : V} {z : Int} {ss : List V} (hss : σ A.aS = some (.list ss)) (hS : IsSs M σ ss L.sizes) (hv : IsS M σ v z) (e : ExtBut A.aS σ σ') (e' : σ' A.aS = some (.list (ss.set k v))) :
    LatAt h0 M σ' s A { L with sizes := L.sizes.set k z } := by
  obtain ⟨n1, n2, n3, n4, n5, n6, n7⟩ := nodup_four h.nd
  have hx := h.mu.2.1
  exact { inst := e _ _ (fun q => by have := h.inst; rw [q, hss] at this; cases this) h.inst, dict := e _ _ (fun q => by have := h.dict; rw [q, hss] at this; cases this) h.dict, rows := e _ _ n1 h.rows, rowsL := h.rowsL.but hx hss e fun q => h.rsM _ q hx, sizes := ⟨_, e', (hS.but hx hss e).set (hv.but hx hss e)⟩, parts := e _ _ (Ne.symm n3) h.parts, partsL := h.partsL.but hx hss e n5, top := h.top.but hx hss e, bot := h.bot.but hx hss e, nought := h.nought.but hx hss e, live := h.live.but e e', mu := h.mu, nd := h.nd, rsM := h.rsM, bs := h.bs }

theorem IsS.more {r : Addr} {v : V} {z : Int} (h : IsS M σ v z) (hr : σ r = none) : IsS (fun m => M m ∨ m = r) σ v z := by
  obtain ⟨t, a, h1, h2, ⟨li, h3, h4⟩, h5⟩ := h
  exact ⟨t, a, h1, h2, ⟨li, h3, h4⟩, fun q => by
    rcases q with q | q
    · exact h5 q
    · rw [q, hr] at h3; cases h3⟩
theorem IsSs.more {r : Addr} {vs : List V} {xs : List Int} (h : IsSs M σ vs xs) (hr : σ r = none) : IsSs (fun m => M m ∨ m = r) σ vs xs := ⟨h.1, fun i v y h1 h2 => (h.2 i v y h1 h2).more hr⟩
theorem IsLs.more {r : Addr} {as : List Addr} {ls : List (List Int)} (h : IsLs M σ as ls) (hr : σ r = none) : IsLs (fun m => M m ∨ m = r) σ as ls :=
  ⟨h.1, fun i a l h1 h2 => by obtain ⟨vs, q1, q2⟩ := h.2 i a l h1 h2; exact ⟨vs, q1, q2.more hr⟩⟩
theorem LatAt.more (h : LatAt h0 M σ s A L) {r : Addr} {o : AObj} (hr : σ r = none) (e : Ext σ σ') (e' : σ' r = some o) : LatAt h0 (fun m => M m ∨ m = r) σ' s A L := by
  refine { inst := e _ _ h.inst, dict := e _ _ h.dict, rows := e _ _ h.rows, rowsL := (h.rowsL.more hr).ext e, sizes := by obtain ⟨ss, a, b⟩ := h.sizes; exact ⟨ss, e _ _ a, (b.more hr).ext e⟩, parts := e _ _ h.parts, partsL := (h.partsL.more hr).ext e, top := (h.top.more hr).ext e, bot := (h.bot.more hr).ext e, nought := (h.nought.more hr).ext e, live := fun m hm => ?_, mu := ⟨.inl h.mu.1, .inl h.mu.2.1, .inl h.mu.2.2.1, fun p hp => .inl (h.mu.2.2.2 p hp)⟩, nd := h.nd, rsM := fun q hq z => ?_, bs := h.bs }
  · rcases hm with hm | hm
    · exact h.live.ext e m hm
    · rw [hm, e']; simp
  · rcases z with z | z
    · exact h.rsM q hq z
    · obtain ⟨i, hi, rfl⟩ := List.getElem_of_mem hq
      have h1 := List.getElem?_eq_getElem hi
      have h2 : i < L.rows.length := by rw [← h.rowsL.1]; exact hi
      obtain ⟨vs, q1, _⟩ := h.rowsL.2 i _ _ h1 (gl_some h2)
      rw [z, hr] at q1; cases q1

theorem mem_set_sub {l : List Addr} {k : Nat} {p x : Addr} (h : x ∈ l.set k p) : x ∈ l ∨ x = p := List.mem_or_eq_of_mem_set h
theorem nodup_set {l : List Addr} {k : Nat} {p : Addr} (h : l.Nodup) (hp : p ∉ l) : (l.set k p).Nodup := by
  induction l generalizing k with
  | nil => simp
  | cons a r ih =>
    rw [List.nodup_cons] at h
    cases k with
    | zero => rw [List.set_cons_zero, List.nodup_cons]; exact ⟨fun q => hp (.tail _ q), h.2⟩
    | succ k =>
      rw [List.set_cons_succ, List.nodup_cons]
      refine ⟨fun q => ?_, ih h.2 fun q => hp (.tail _ q)⟩
      rcases mem_set_sub q with q | q
      · exact h.1 q
      · exact hp (by rw [q]; exact .head _)
theorem nodup_mk {a b c : Addr} {l : List Addr} (h1 : a ≠ b) (h2 : a ≠ c) (h3 : b ≠ c) (h4 : a ∉ l) (h5 : b ∉ l) (h6 : c ∉ l) (h7 : l.Nodup) : (a :: b :: c :: l).Nodup := by
  simp only [List.nodup_cons, List.mem_cons, not_or]
  exact ⟨⟨h1, h2, h4⟩, ⟨h3, h5⟩, h6, h7⟩
theorem nodup_snoc {l : List Addr} {p : Addr} (h : l.Nodup) (hp : p ∉ l) : (l ++ [p]).Nodup := by
  rw [List.nodup_append]
  exact ⟨h, by simp, fun a ha b hb q => hp (by rw [List.mem_singleton.mp hb] at q; exact q ▸ ha)⟩

theorem LatAt.setParts (h : LatAt h0 M σ s A L) {k : Nat} {p : Addr} {vs : List V} {l : List Int} (hp : σ p = some (.list vs)) (hv : IsSs M σ vs l) (hM : M p) (hB : Bs h0 p) (hn : p ∉ A.aR :: A.aS :: A.aP :: A.ps) (e : ExtBut A.aP σ σ') (e' : σ' A.aP = some (.list ((A.ps.map .ref).set k (.ref p)))) :
    LatAt h0 M σ' s { A with ps := A.ps.set k p } { L with parts := L.parts.set k l } := by
  obtain ⟨n1, n2, n3, n4, n5, n6, n7⟩ := nodup_four h.nd
  simp only [List.mem_cons, not_or] at hn
  obtain ⟨p1, p2, p3, p4⟩ := hn
  have hx := h.mu.2.2.1
  have hl := h.parts
  have sub : ∀ a, a ∉ A.ps → a ≠ p → a ∉ A.ps.set k p := fun a ha hp q => by rcases mem_set_sub q with q | q; exact ha q; exact hp q
  refine { inst := e _ _ (fun q => by have := h.inst; rw [q, hl] at this; cases this) h.inst, dict := e _ _ (fun q => by have := h.dict; rw [q, hl] at this; cases this) h.dict, rows := e _ _ n2 h.rows, rowsL := h.rowsL.but hx hl e fun q => h.rsM _ q hx, sizes := ?_, parts := by rw [e', List.map_set], partsL := (h.partsL.but hx hl e n6).set ⟨vs, e _ _ p3 hp, hv.but hx hl e⟩, top := h.top.but hx hl e, bot := h.bot.but hx hl e, nought := h.nought.but hx hl e, live := h.live.but e e', mu := ⟨h.mu.1, h.mu.2.1, h.mu.2.2.1, fun q hq => ?_⟩, nd := ?_, rsM := h.rsM, bs := ⟨h.bs.1, h.bs.2.1, h.bs.2.2.1, fun q hq => ?_⟩ }
  · obtain ⟨ss, a, b⟩ := h.sizes
    exact ⟨ss, e _ _ n3 a, b.but hx hl e⟩
  · rcases mem_set_sub hq with q | q
    · exact h.mu.2.2.2 _ q
    · rw [q]; exact hM
  · exact nodup_mk n1 n2 n3 (sub _ n4 (Ne.symm p1)) (sub _ n5 (Ne.symm p2)) (sub _ n6 (Ne.symm p3)) (nodup_set n7 p4)
  · rcases mem_set_sub hq with q | q
    · exact h.bs.2.2.2 _ q
    · rw [q]; exact hB

theorem LatAt.appParts (h : LatAt h0 M σ s A L) {p : Addr} {vs : List V} {l : List Int} (hp : σ p = some (.list vs)) (hv : IsSs M σ vs l) (hM : M p) (hB : Bs h0 p) (hn : p ∉ A.aR :: A.aS :: A.aP :: A.ps) (e : ExtBut A.aP σ σ') (e' : σ' A.aP = some (.list (A.ps.map .ref ++ [.ref p]))) :
    LatAt h0 M σ' s { A with ps := A.ps ++ [p] } { L with parts := L.parts ++ [l] } := by
  obtain ⟨n1, n2, n3, n4, n5, n6, n7⟩ := nodup_four h.nd
  simp only [List.mem_cons, not_or] at hn
  obtain ⟨p1, p2, p3, p4⟩ := hn
  have hx := h.mu.2.2.1
  have hl := h.parts
  have sub : ∀ a, a ∉ A.ps → a ≠ p → a ∉ A.ps ++ [p] := fun a ha hp q => by
    rcases List.mem_append.mp q with q | q
    · exact ha q
    · exact hp (List.mem_singleton.mp q)
  refine { inst := e _ _ (fun q => by have := h.inst; rw [q, hl] at this; cases this) h.inst, dict := e _ _ (fun q => by have := h.dict; rw [q, hl] at this; cases this) h.dict, rows := e _ _ n2 h.rows, rowsL := h.rowsL.but hx hl e fun q => h.rsM _ q hx, sizes := ?_, parts := by rw [e', List.map_append]; rfl, partsL := ?_, top := h.top.but hx hl e, bot := h.bot.but hx hl e, nought := h.nought.but hx hl e, live := h.live.but e e', mu := ⟨h.mu.1, h.mu.2.1, h.mu.2.2.1, fun q hq => ?_⟩, nd := ?_, rsM := h.rsM, bs := ⟨h.bs.1, h.bs.2.1, h.bs.2.2.1, fun q hq => ?_⟩ }
  · obtain ⟨ss, a, b⟩ := h.sizes
    exact ⟨ss, e _ _ n3 a, b.but hx hl e⟩
  · have hb := h.partsL.but hx hl e n6
    refine ⟨by simp [hb.1], fun i a r h1 h2 => ?_⟩
    rcases Nat.lt_or_ge i A.ps.length with q | q
    · rw [List.getElem?_append_left q] at h1
      rw [List.getElem?_append_left (by rw [← hb.1]; exact q)] at h2
      exact hb.2 i a r h1 h2
    · rw [List.getElem?_append_right q] at h1
      rw [List.getElem?_append_right (by rw [← hb.1]; exact q), ← hb.1] at h2
      rcases Nat.eq_zero_or_pos (i - A.ps.length) with z | z
      · rw [z] at h1 h2; cases h1; cases h2; exact ⟨vs, e _ _ p3 hp, hv.but hx hl e⟩
      · rw [List.getElem?_eq_none (by simp; omega)] at h1; cases h1
  · rcases List.mem_append.mp hq with q | q
    · exact h.mu.2.2.2 _ q
    · rw [List.mem_singleton.mp q]; exact hM
  · exact nodup_mk n1 n2 n3 (sub _ n4 (Ne.symm p1)) (sub _ n5 (Ne.symm p2)) (sub _ n6 (Ne.symm p3)) (nodup_snoc n7 p4)
  · rcases List.mem_append.mp hq with q | q
    · exact h.bs.2.2.2 _ q
    · rw [List.mem_singleton.mp q]; exact hB

theorem LatAt.appPart (h : LatAt h0 M σ s A L) {k : Nat} {v : V} {z : Int} {vs : List V} (hk : k < L.parts.length) (hvs : σ (ga A.ps k) = some (.list vs)) (hS : IsSs M σ vs (gl L.parts k)) (hv : IsS M σ v z) (e : ExtBut (ga A.ps k) σ σ') (e' : σ' (ga A.ps k) = some (.list (vs ++ [v]))) :
    LatAt h0 M σ' s A { L with parts := L.parts.set k (gl L.parts k ++ [z]) } := by
  obtain ⟨n1, n2, n3, n4, n5, n6, n7⟩ := nodup_four h.nd
  have hk' : k < A.ps.length := by rw [h.len_ps]; exact hk
  have hm := ga_mem hk'
  have hx := h.mu.2.2.2 _ hm
  have ne : ∀ a, a ∉ A.ps → a ≠ ga A.ps k := fun a ha q => ha (by rw [q]; exact hm)
  refine { inst := e _ _ (fun q => by have := h.inst; rw [q, hvs] at this; cases this) h.inst, dict := e _ _ (fun q => by have := h.dict; rw [q, hvs] at this; cases this) h.dict, rows := e _ _ (ne _ n4) h.rows, rowsL := h.rowsL.but hx hvs e fun q => h.rsM _ q hx, sizes := ?_, parts := e _ _ (ne _ n6) h.parts, partsL := ?_, top := h.top.but hx hvs e, bot := h.bot.but hx hvs e, nought := h.nought.but hx hvs e, live := h.live.but e e', mu := h.mu, nd := h.nd, rsM := h.rsM, bs := h.bs }
  · obtain ⟨ss, a, b⟩ := h.sizes
    exact ⟨ss, e _ _ (ne _ n5) a, b.but hx hvs e⟩
  · refine ⟨by simp [h.partsL.1], fun i a l h1 h2 => ?_⟩
    by_cases q : k = i
    · subst q
      rw [ga_some hk'] at h1
      rw [List.getElem?_set_self hk] at h2
      cases h1; cases h2
      exact ⟨_, e', (hS.but hx hvs e).snoc (hv.but hx hvs e)⟩
    · rw [List.getElem?_set_ne q] at h2
      obtain ⟨us, u1, u2⟩ := h.partsL.2 i a l h1 h2
      refine ⟨us, e _ _ (fun z => q ?_) u1, u2.but hx hvs e⟩
      have a1 := ga_some hk'
      rw [← z] at a1
      exact (List.getElem?_inj hk' n7).mp (a1.trans h1.symm)

theorem LatAt.appSize (h : LatAt h0 M σ s A L) {v : V} {z : Int} {ss : List V} (hss : σ A.aS = some (.list ss)) (hS : IsSs M σ ss L.sizes) (hv : IsS M σ v z) (e : ExtBut A.aS σ σ') (e' : σ' A.aS = some (.list (ss ++ [v]))) :
    LatAt h0 M σ' s A { L with sizes := L.sizes ++ [z] } := by
  obtain ⟨n1, n2, n3, n4, n5, n6, n7⟩ := nodup_four h.nd
  have hx := h.mu.2.1
  exact { inst := e _ _ (fun q => by have := h.inst; rw [q, hss] at this; cases this) h.inst, dict := e _ _ (fun q => by have := h.dict; rw [q, hss] at this; cases this) h.dict, rows := e _ _ n1 h.rows, rowsL := h.rowsL.but hx hss e fun q => h.rsM _ q hx, sizes := ⟨_, e', (hS.but hx hss e).snoc (hv.but hx hss e)⟩, parts := e _ _ (Ne.symm n3) h.parts, partsL := h.partsL.but hx hss e n5, top := h.top.but hx hss e, bot := h.bot.but hx hss e, nought := h.nought.but hx hss e, live := h.live.but e e', mu := h.mu, nd := h.nd, rsM := h.rsM, bs := h.bs }
end
end Mine
end
section
set_option maxRecDepth 100000
namespace Mine
open PySem PySem.W PyProof.Rows PySem.Calls

structure BndL (L : LC) : Prop where
  rows : ∀ i j, Bnd KB (gt (gl L.rows i) j)
  sizes : ∀ i, Bnd KB (gt L.sizes i)
  parts : ∀ i j, Bnd KB (gt (gl L.parts i) j)
  top : Bnd KB L.top
  bot : Bnd KB L.bot

def ExtM (M : Addr → Prop) (σ σ' : AHeap) : Prop := ∀ a o, ¬ M a → σ a = some o → σ' a = some o
theorem Ext.toM {M : Addr → Prop} {σ σ' : AHeap} (h : Ext σ σ') : ExtM M σ σ' := fun a o _ e => h a o e
theorem ExtM.trans {M : Addr → Prop} {σ σ1 σ2 : AHeap} (h : ExtM M σ σ1) (h' : ExtM M σ1 σ2) : ExtM M σ σ2 := fun a o n e => h' a o n (h a o n e)
theorem ExtM.but {M : Addr → Prop} {σ σ1 σ2 : AHeap} {x : Addr} (h : ExtM M σ σ1) (h' : ExtBut x σ1 σ2) (hx : M x) : ExtM M σ σ2 := fun a o n e => h' a o (fun q => n (q ▸ hx)) (h a o n e)

section
variable {h0 : Heap} {prog : Program} {w : World} {mg mb : Str → Option Value} (G : Gd (KK w) h0 mg mb) {n : Nat}

def uprightI (L : LC) (k : Nat) : Bool :=
  decide (gt L.sizes k * gt L.sizes k * L.top ≤ (gt L.sizes (k + 1) * gt L.sizes (k - 1) + gt (gl L.parts k) (k - 1) * gt (gl L.parts k) (k - 1)) * L.bot)

theorem cmp_ge (x y : Int) : decide (0 ≤ cmpI x y) = decide (y ≤ x) := by
  unfold cmpI; rw [decide_eq_decide]; split <;> (try split) <;> omega

include G in
theorem c_is_upright {M : Addr → Prop} {s : Addr} {A : LA} {L : LC} {k : Nat} {σ : AHeap} {Q : V → AHeap → Prop} (h : LatAt h0 M σ s A L) (hb : BndL L) (hk0 : 0 < k) (hk : k < L.parts.length) (hkl : k - 1 < (gl L.parts k).length) (hks : k + 1 < L.sizes.length)
    (hQ : ∀ σ', Ext σ σ' → Q (.bool (uprightI L k)) σ') : CC prog w h0 (n + 5) (.ref 287) [.ref s, .int k] σ Q := by
  have hML := ML_eq
  have hKB := KB_eq
  obtain ⟨ss, hss, hS⟩ := h.sizes
  obtain ⟨_, vs, hvs, hP⟩ := h.partsL.at hk
  obtain ⟨vp, vp1, vp2⟩ := hP.at hkl
  obtain ⟨v0, v01, v02⟩ := hS.at (show k - 1 < L.sizes.length by omega)
  obtain ⟨v1, v11, v12⟩ := hS.at (show k < L.sizes.length by omega)
  obtain ⟨v2, v21, v22⟩ := hS.at hks
  have lp := h.len_ps
  refine enter G [some (.ref s), some (.int k), none, none, none, none] (at_L_is_upright _) rfl rfl ?_
  conv => whnf
  refine h.aPx ?_
  conv => whnf
  refine ixR h.parts k rfl (by omega) ?_
  conv => whnf
  refine ixL hvs (k - 1) vp (by omega) vp1 ?_
  conv => whnf
  refine h.aSx ?_
  conv => whnf
  refine ixL hss k v1 rfl v11 ?_
  conv => whnf
  refine ⟨h.self.inst, ?_⟩
  conv => whnf
  refine h.aSx ?_
  conv => whnf
  refine ixL hss (k + 1) v2 (by omega) v21 ?_
  conv => whnf
  refine h.aSx ?_
  conv => whnf
  refine ixL hss (k - 1) v0 (by omega) v01 ?_
  conv => whnf
  refine c_product_of G h.self h.live v22 v02 ((hb.sizes _).mono (by omega)) ((hb.sizes _).mono (by omega)) fun t1 σ1 e1 i1 => ?_
  have h1 := h.ext e1
  conv => whnf
  refine ⟨h1.self.inst, ?_⟩
  conv => whnf
  refine c_product_of G h1.self h1.live (vp2.ext e1) (vp2.ext e1) ((hb.parts _ _).mono (by omega)) ((hb.parts _ _).mono (by omega)) fun t2 σ2 e2 i2 => ?_
  have h2 := h1.ext e2
  conv => whnf
  refine h2.wx ?_
  refine CC.up (n := n + 3) (c_s_add G h2.live (i1.ext e2) i2 ((Bnd.mul (hb.sizes _) (hb.sizes _)).mono (by omega)) ((Bnd.mul (hb.parts _ _) (hb.parts _ _)).mono (by omega)) fun t3 σ3 e3 i3 => ?_) (by omega)
  have h3 := h2.ext e3
  have v1' := ((v12.ext e1).ext e2).ext e3
  conv => whnf
  refine ⟨h3.self.inst, ?_⟩
  conv => whnf
  refine ⟨h3.self.inst, ?_⟩
  conv => whnf
  refine c_product_of G h3.self h3.live v1' v1' ((hb.sizes _).mono (by omega)) ((hb.sizes _).mono (by omega)) fun t4 σ4 e4 i4 => ?_
  have h4 := h3.ext e4
  conv => whnf
  refine h4.vtx ?_
  conv => whnf
  refine c_product_of G h4.self h4.live i4 h4.top ((Bnd.mul (hb.sizes _) (hb.sizes _)).mono (by omega)) (hb.top.mono (by omega)) fun t5 σ5 e5 i5 => ?_
  have h5 := h4.ext e5
  conv => whnf
  refine ⟨h5.self.inst, ?_⟩
  conv => whnf
  refine h5.vbx ?_
  conv => whnf
  have bh : Bnd (2 * KB + 1) (gt L.sizes (k + 1) * gt L.sizes (k - 1) + gt (gl L.parts k) (k - 1) * gt (gl L.parts k) (k - 1)) := Bnd.add ((Bnd.mul (hb.sizes _) (hb.sizes _)).mono (by omega)) ((Bnd.mul (hb.parts _ _) (hb.parts _ _)).mono (by omega))
  refine c_product_of G h5.self h5.live (((i3.ext e4).ext e5)) h5.bot (bh.mono (by omega)) (hb.bot.mono (by omega)) fun t6 σ6 e6 i6 => ?_
  conv => whnf
  refine CC.up (n := n + 2) (c_s_compare G i6 (i5.ext e6) ((Bnd.mul bh hb.bot).mono (by omega)) ((Bnd.mul (Bnd.mul (hb.sizes _) (hb.sizes _)) hb.top).mono (by omega)) ?_) (by omega)
  conv => whnf
  rw [cmp_ge]
  exact hQ σ6 (((((e1.trans e2).trans e3).trans e4).trans e5).trans e6)
end
end Mine
end
section
set_option maxRecDepth 100000
namespace Mine
open PySem PySem.W PyProof.Rows PySem.Calls

theorem gl_set_self {l : List (List Int)} {k : Nat} {v : List Int} (h : k < l.length) : gl (l.set k v) k = v := by
  unfold gl; rw [List.getD_eq_getElem?_getD, List.getElem?_set_self h]; rfl
theorem gl_set_ne {l : List (List Int)} {k j : Nat} {v : List Int} (h : k ≠ j) : gl (l.set k v) j = gl l j := by
  unfold gl; rw [List.getD_eq_getElem?_getD, List.getD_eq_getElem?_getD, List.getElem?_set_ne h]

def shP (pk pj : List Int) (q : Int) : Nat → List Int
  | 0 => pk
  | i + 1 => (shP pk pj q i).set i (gt (shP pk pj q i) i - q * gt pj i)
theorem shP_len (pk pj : List Int) (q : Int) : ∀ i, (shP pk pj q i).length = pk.length
  | 0 => rfl
  | i + 1 => by rw [shP, List.length_set, shP_len pk pj q i]
theorem shP_ge (pk pj : List Int) (q : Int) {m : Nat} : ∀ i, i ≤ m → gt (shP pk pj q i) m = gt pk m
  | 0, _ => rfl
  | i + 1, h => by rw [shP, gt_set_ne (by omega)]; exact shP_ge pk pj q i (by omega)
def quo (L : LC) (k j : Nat) : Int := (2 * gt (gl L.parts k) j + gt L.sizes (j + 1)).fdiv (2 * gt L.sizes (j + 1))
def shortA (L : LC) (k j : Nat) : LC :=
  ⟨L.rows.set k (rowLess (gl L.rows k) (gl L.rows j) (quo L k j)), L.sizes,
    L.parts.set k (shP ((gl L.parts k).set j (gt (gl L.parts k) j - quo L k j * gt L.sizes (j + 1))) (gl L.parts j) (quo L k j) j), L.top, L.bot⟩
def shortL (L : LC) (k j : Nat) : LC := if 2 * ((gt (gl L.parts k) j).natAbs : Int) ≤ gt L.sizes (j + 1) then L else shortA L k j

theorem cmp_le (x y : Int) : decide (cmpI x y ≤ 0) = decide (x ≤ y) := by
  unfold cmpI; rw [decide_eq_decide]; split <;> (try split) <;> omega

theorem Bnd.dbl {k : Nat} {x : Int} (h : Bnd k x) : Bnd (k + 1) (2 * x) := by unfold Bnd at *; rw [pow_s]; omega
theorem Bnd.quo {L : LC} (hb : BndL L) {k j : Nat} (hz : 0 < gt L.sizes (j + 1)) : Bnd (KB + 2) (quo L k j) := by
  have h1 : Bnd (KB + 2) (2 * gt (gl L.parts k) j + gt L.sizes (j + 1)) := Bnd.add (hb.parts k j).dbl ((hb.sizes (j + 1)).mono (by omega))
  unfold Mine.quo
  rw [fdiv_pos (by omega)]
  unfold Bnd at *
  have := Int.natAbs_ediv_le_natAbs (2 * gt (gl L.parts k) j + gt L.sizes (j + 1)) (2 * gt L.sizes (j + 1))
  omega

section
variable {h0 : Heap} {prog : Program} {w : World} {mg mb : Str → Option Value} (G : Gd (KK w) h0 mg mb) {n : Nat}

theorem stR {B : Addr → Prop} {σ : AHeap} {x : Addr} {l : List Addr} {n : Int} {v : V} {Q : AHeap → Prop} (hB : B x) (h : σ x = some (.list (l.map .ref))) (j : Nat) (hn : n = (j : Int)) (hj : j < l.length) (q : ∀ σ', ExtBut x σ σ' → σ' x = some (.list ((l.map .ref).set j v)) → Q σ') :
    ∃ xs j', (B x ∧ σ x = some (.list xs) ∧ n = ((j' : Nat) : Int) ∧ j' < xs.length) ∧ ∀ σ', ExtBut x σ σ' → σ' x = some (.list (xs.set j' v)) → Q σ' :=
  ⟨_, j, ⟨hB, h, hn, by simpa using hj⟩, q⟩
theorem stL {B : Addr → Prop} {σ : AHeap} {x : Addr} {l : List V} {n : Int} {v : V} {Q : AHeap → Prop} (hB : B x) (h : σ x = some (.list l)) (j : Nat) (hn : n = (j : Int)) (hj : j < l.length) (q : ∀ σ', ExtBut x σ σ' → σ' x = some (.list (l.set j v)) → Q σ') :
    ∃ xs j', (B x ∧ σ x = some (.list xs) ∧ n = ((j' : Nat) : Int) ∧ j' < xs.length) ∧ ∀ σ', ExtBut x σ σ' → σ' x = some (.list (xs.set j' v)) → Q σ' :=
  ⟨_, j, ⟨hB, h, hn, hj⟩, q⟩

set_option maxHeartbeats 1000000 in
include G in
theorem c_shorten {M : Addr → Prop} {s : Addr} {A : LA} {L : LC} {k j : Nat} {σ : AHeap} {Q : V → AHeap → Prop} (h : LatAt h0 M σ s A L) (hb : BndL L) (hj : j < k) (hk9 : k ≤ 1000) (hk : k < L.parts.length) (hkr : k < L.rows.length) (hkl : j < (gl L.parts k).length) (hjl : j ≤ (gl L.parts j).length) (hks : j + 1 < L.sizes.length) (hz : 0 < gt L.sizes (j + 1)) (hrl : (gl L.rows k).length ≤ 1000)
    (hQ : ∀ A' σ', ExtM M σ σ' → LatAt h0 M σ' s A' (shortL L k j) → Q .none σ') : CC prog w h0 (n + 8) (.ref 280) [.ref s, .int k, .int j] σ Q := by
  have hML := ML_eq
  have hKB := KB_eq
  obtain ⟨ss, hss, hS⟩ := h.sizes
  obtain ⟨_, vs, hvs, hP⟩ := h.partsL.at hk
  obtain ⟨vp, vp1, vp2⟩ := hP.at hkl
  obtain ⟨vz, vz1, vz2⟩ := hS.at hks
  have lp := h.len_ps
  have lr := h.len_rs
  refine enter G [some (.ref s), some (.int k), some (.int j), none, none, none, none] (at_L_shorten _) rfl rfl ?_
  conv => whnf
  refine h.aPx ?_
  conv => whnf
  refine ixR h.parts k rfl (by omega) ?_
  conv => whnf
  refine ixL hvs j vp rfl vp1 ?_
  conv => whnf
  refine h.aSx ?_
  conv => whnf
  refine ixL hss (j + 1) vz (by omega) vz1 ?_
  conv => whnf
  refine CC.up (n := n + 1) (c_s_abs G vp2 fun t1 σ1 e1 i1 => ?_) (by omega)
  have h1 := h.ext e1
  conv => whnf
  refine h1.wx ?_
  conv => whnf
  refine CC.up (n := n + 2) (c_s_shift G h1.live i1 (by
    have := (hb.parts k j).mono (show KB ≤ ML by omega)
    unfold Bnd at *; simpa using this) fun t2 σ2 e2 i2 => ?_) (by omega)
  have h2 := h1.ext e2
  conv => whnf
  refine CC.up (n := n + 2) (c_s_compare G i2 ((vz2.ext e1).ext e2) (by
    have := (hb.parts k j).dbl.mono (show KB + 1 ≤ ML by omega)
    unfold Bnd at *; omega) ((hb.sizes _).mono (by omega)) ?_) (by omega)
  conv => whnf
  rw [cmp_le]
  refine ⟨fun e => ?_, fun e => ?_⟩
  · have e := of_decide_eq_true e
    conv => whnf
    refine hQ A σ2 (e1.trans e2).toM ?_
    unfold shortL; rw [if_pos e]; exact h2
  have e := of_decide_eq_false e
  have eL : shortL L k j = shortA L k j := by unfold shortL; rw [if_neg e]
  rw [eL] at hQ
  have e12 := e1.trans e2
  clear h1 e1 e2 i1 i2 t1 t2
  conv => whnf
  refine h2.wx ?_
  conv => whnf
  refine h2.divx ?_
  conv => whnf
  refine c_nearest G h2.live (vp2.ext e12) (vz2.ext e12) ((hb.parts k j).mono (by omega)) ((hb.sizes (j + 1)).mono (by omega)) hz fun q σ3 e3 i3 => ?_
  have bq := Bnd.quo hb (k := k) hz
  have i3 : IsS M σ3 (.ref q) (quo L k j) := i3
  generalize hq : quo L k j = qq at *
  have h3 := h2.ext e3
  obtain ⟨_, wk, wk1, wk2⟩ := h3.rowsL.at hkr
  obtain ⟨_, wj, wj1, wj2⟩ := h3.rowsL.at (show j < L.rows.length by omega)
  conv => whnf
  refine h3.aRx ?_
  conv => whnf
  refine ixR h3.rows k rfl (by omega) ?_
  conv => whnf
  refine h3.aRx ?_
  conv => whnf
  refine ixR h3.rows j rfl (by omega) ?_
  conv => whnf
  refine h3.wx ?_
  conv => whnf
  refine h3.mulx ?_
  refine CC.up (n := n + 5) (c_row_less G (k := KB + 2) h3.live wk1 wj1 wk2 wj2 i3 (fun i => (hb.rows k i).mono (by omega)) (fun i => (hb.rows j i).mono (by omega)) bq (by omega) fun r vr σ4 r1 r2 e4 r3 r4 => ?_) (by omega)
  have h4 := h3.ext e4
  conv => whnf
  refine h4.aRx ?_
  conv => whnf
  refine stR h4.bs.1 h4.rows k rfl (by omega) fun σ5 x5 y5 => ?_
  have h5 := h4.setRow r3 r4 (h3.live.not r2) x5 y5
  have e5 : ExtM M σ σ5 := (((e12.trans e3).trans e4).toM).but x5 h.mu.1
  have but5 : ∀ {v z}, IsS M σ4 v z → IsS M σ5 v z := fun i => i.but h4.mu.1 h4.rows x5
  have i5 := but5 (i3.ext e4)
  have z5 := but5 (((vz2.ext e12).ext e3).ext e4)
  have p5 := but5 (((vp2.ext e12).ext e3).ext e4)
  conv => whnf
  refine ⟨h5.self.inst, ?_⟩
  conv => whnf
  refine c_product_of G h5.self h5.live i5 z5 (bq.mono (by omega)) ((hb.sizes _).mono (by omega)) fun t6 σ6 e6 i6 => ?_
  have h6 := h5.ext e6
  conv => whnf
  refine h6.wx ?_
  conv => whnf
  refine CC.up (n := n + 4) (c_s_sub G h6.live (p5.ext e6) i6 ((hb.parts _ _).mono (by omega)) ((Bnd.mul bq (hb.sizes _)).mono (by omega)) fun t7 σ7 e7 i7 => ?_) (by omega)
  have h7 := h6.ext e7
  obtain ⟨_, us, us1, us2⟩ := h7.partsL.at hk
  conv => whnf
  refine h7.aPx ?_
  conv => whnf
  refine ixR (l := A.ps) h7.parts k rfl (by omega) ?_
  conv => whnf
  refine stL (h7.bs.2.2.2 _ (ga_mem (l := A.ps) (by omega))) us1 j rfl (by rw [us2.1]; exact hkl) fun σ8 x8 y8 => ?_
  have h8 := h7.setPart (A := { A with rs := A.rs.set k r }) (L := { L with rows := L.rows.set k (rowLess (gl L.rows k) (gl L.rows j) qq) }) hk us1 us2 i7 x8 y8
  have mk : M (ga A.ps k) := h.mu.2.2.2 _ (ga_mem (by omega))
  have e8 : ExtM M σ σ8 := (e5.trans (e6.trans e7).toM).but x8 mk
  have i8 : IsS M σ8 (.ref q) qq := (((i5.ext e6).ext e7)).but mk us1 x8
  have hA := h8.len_ps
  generalize hA2 : ({ A with rs := A.rs.set k r } : LA) = A2 at *
  have gk : ga A2.ps k = ga A.ps k := by rw [← hA2]
  have lp2 : A2.ps.length = L.parts.length := by rw [← hA2]; exact lp
  generalize hpk : (gl L.parts k).set j (gt (gl L.parts k) j - qq * gt L.sizes (j + 1)) = pk at *
  have lpk : pk.length = (gl L.parts k).length := by rw [← hpk, List.length_set]
  conv => whnf
  refine ⟨⟨by omega, by omega⟩, ?_⟩
  refine ⟨fun i ρ υ => ∃ u6, ρ = [some (.ref s), some (.int k), some (.int j), some vp, some vz, some (.ref q), u6] ∧ ExtM M σ υ ∧ IsS M υ (.ref q) qq ∧ i ≤ j ∧
      LatAt h0 M υ s A2 ⟨L.rows.set k (rowLess (gl L.rows k) (gl L.rows j) qq), L.sizes, L.parts.set k (shP pk (gl L.parts j) qq i), L.top, L.bot⟩,
    ⟨_, rfl, e8, i8, Nat.zero_le _, h8⟩, fun _ _ _ _ => trivial, ?_, ?_⟩
  · rintro i _ υ it ⟨u6, rfl, he, hi, hij, hA⟩ hit
    obtain ⟨rfl, hlt⟩ := upTo_get hit
    have hij : i < j := by omega
    obtain ⟨_, ws, ws1, ws2⟩ := hA.partsL.at (i := k) (by simp; exact hk)
    simp only [gl_set_self hk] at ws2
    obtain ⟨vk, vk1, vk2⟩ := ws2.at (i := i) (by rw [shP_len, lpk]; omega)
    obtain ⟨_, wt, wt1, wt2⟩ := hA.partsL.at (i := j) (by simp; omega)
    simp only [gl_set_ne (show k ≠ j by omega)] at wt2
    obtain ⟨vj, vj1, vj2⟩ := wt2.at (i := i) (by omega)
    have b1 : Bnd KB (gt (shP pk (gl L.parts j) qq i) i) := by
      rw [shP_ge _ _ _ _ (Nat.le_refl _), ← hpk, gt_set_ne (by omega)]; exact hb.parts _ _
    conv => whnf
    refine hA.aPx ?_
    conv => whnf
    refine ixR hA.parts k rfl (by omega) ?_
    conv => whnf
    refine ixL ws1 i vk (by omega) vk1 ?_
    conv => whnf
    refine ⟨hA.self.inst, ?_⟩
    conv => whnf
    refine hA.aPx ?_
    conv => whnf
    refine ixR hA.parts j rfl (by omega) ?_
    conv => whnf
    refine ixL wt1 i vj (by omega) vj1 ?_
    conv => whnf
    refine c_product_of G hA.self hA.live hi vj2 (bq.mono (by omega)) ((hb.parts _ _).mono (by omega)) fun t9 σ9 e9 i9 => ?_
    have h9 := hA.ext e9
    conv => whnf
    refine h9.wx ?_
    conv => whnf
    refine CC.up (n := n + 4) (c_s_sub G h9.live (vk2.ext e9) i9 (b1.mono (by omega)) ((Bnd.mul bq (hb.parts _ _)).mono (by omega)) fun t10 σ10 e10 i10 => ?_) (by omega)
    have h10 := h9.ext e10
    have w10 := e10 _ _ (e9 _ _ ws1)
    have mk' : M (ga A2.ps k) := by rw [gk]; exact mk
    conv => whnf
    refine h10.aPx ?_
    conv => whnf
    refine ixR h10.parts k rfl (by omega) ?_
    conv => whnf
    refine stL (h10.bs.2.2.2 _ (ga_mem (by omega))) w10 i (by omega) (by rw [ws2.1, shP_len, lpk]; omega) fun σ11 x11 y11 => ?_
    have h11 := h10.setPart (k := k) (j := i) (by simp; exact hk) w10 (by simp only [gl_set_self hk]; exact (ws2.ext e9).ext e10) i10 x11 y11
    simp only [gl_set_self hk, List.set_set] at h11
    exact ⟨_, rfl, (he.trans (e9.trans e10).toM).but x11 mk', ((hi.ext e9).ext e10).but mk' w10 x11, hij, h11⟩
  · rintro _ υ ⟨u6, rfl, he, hi, hij, hA⟩
    rw [upTo_len, show ((j : Int) - 0).toNat = j by omega] at hA
    refine hQ A2 υ he ?_
    unfold shortA
    rw [hq, hpk]
    exact hA
end
end Mine
end
section
set_option maxRecDepth 100000
namespace Mine
open PySem PySem.W PyProof.Rows PySem.Calls

def nowI (L : LC) (k : Nat) : Int := (gt L.sizes (k - 1) * gt L.sizes (k + 1) + gt (gl L.parts k) (k - 1) * gt (gl L.parts k) (k - 1)).tdiv (gt L.sizes k)
def exB (L : LC) (k : Nat) (pi : List Int) : Int := (gt L.sizes (k + 1) * gt pi (k - 1) - gt (gl L.parts k) (k - 1) * gt pi k).tdiv (gt L.sizes k)
def exI (L : LC) (k : Nat) (pi : List Int) : List Int := (pi.set k (exB L k pi)).set (k - 1) ((nowI L k * gt pi k + gt (gl L.parts k) (k - 1) * exB L k pi).tdiv (gt L.sizes (k + 1)))
def exP (L : LC) (k : Nat) : Nat → List (List Int)
  | 0 => (L.parts.set (k - 1) ((gl L.parts k).take (k - 1))).set k (gl L.parts (k - 1) ++ [gt (gl L.parts k) (k - 1)])
  | t + 1 => (exP L k t).set (k + 1 + t) (exI L k (gl L.parts (k + 1 + t)))
def exL (L : LC) (k : Nat) : LC := ⟨(L.rows.set (k - 1) (gl L.rows k)).set k (gl L.rows (k - 1)), L.sizes.set k (nowI L k), exP L k (L.parts.length - (k + 1)), L.top, L.bot⟩
theorem exP_len (L : LC) (k : Nat) : ∀ t, (exP L k t).length = L.parts.length
  | 0 => by unfold exP; simp
  | t + 1 => by rw [exP, List.length_set, exP_len L k t]
theorem exP_ge (L : LC) {k m : Nat} : ∀ t, k + 1 + t ≤ m → gl (exP L k t) m = gl L.parts m
  | 0, h => by unfold exP; rw [gl_set_ne (by omega), gl_set_ne (by omega)]
  | t + 1, h => by rw [exP, gl_set_ne (by omega)]; exact exP_ge L t (by omega)
theorem Bnd.tdiv {k : Nat} {x y : Int} (h : Bnd k x) : Bnd k (x.tdiv y) := by
  unfold Bnd at *
  have := Int.natAbs_tdiv_le_natAbs x y
  omega
theorem IsSs.take {M : Addr → Prop} {σ : AHeap} {vs : List V} {xs : List Int} (h : IsSs M σ vs xs) (e : Nat) : IsSs M σ (vs.take e) (xs.take e) :=
  ⟨by simp [h.1], fun i v x h1 h2 => by
    rw [List.getElem?_take] at h1 h2
    split at h1
    · rename_i hi
      rw [if_pos hi] at h2; exact h.2 i v x h1 h2
    · cases h1⟩
theorem cutV_to {l : List V} {e : Nat} {j : Int} (hj : j = (e : Int)) (he : e ≤ l.length) : cut l none (some j) = l.take e := by
  subst hj
  have e1 : cutHi (some (e : Int)) l.length = e := by
    unfold cutHi; dsimp only; rw [if_neg (by omega), Int.toNat_natCast]; omega
  rw [cut, e1]
  simp [cutLo]
theorem ga_set_ne {l : List Addr} {k j : Nat} {v : Addr} (h : k ≠ j) : ga (l.set k v) j = ga l j := by
  unfold ga; rw [List.getD_eq_getElem?_getD, List.getD_eq_getElem?_getD, List.getElem?_set_ne h]

section
variable {h0 : Heap} {prog : Program} {w : World} {mg mb : Str → Option Value} (G : Gd (KK w) h0 mg mb) {n : Nat}

theorem LatAt.not_in {M : Addr → Prop} {σ : AHeap} {s : Addr} {A : LA} {L : LC} (h : LatAt h0 M σ s A L) {r : Addr} (hr : σ r = none) : r ∉ A.aR :: A.aS :: A.aP :: A.ps := fun q => by
  have : M r := by
    simp only [List.mem_cons] at q
    rcases q with q | q | q | q
    · rw [q]; exact h.mu.1
    · rw [q]; exact h.mu.2.1
    · rw [q]; exact h.mu.2.2.1
    · exact h.mu.2.2.2 _ q
  exact h.live _ this hr

theorem ExtM.none {M M' : Addr → Prop} {σ σ' : AHeap} {p : Addr} (h : ExtM M σ σ') (hl : Live M' σ') (hm : ∀ m, M m → M' m) (hp : σ' p = none) : σ p = .none := by
  cases e : σ p with
  | none => rfl
  | some o =>
    by_cases q : M p
    · exact absurd hp (hl p (hm p q))
    · have := h p o q e; rw [hp] at this; cases this

set_option maxHeartbeats 1000000 in
include G in
theorem c_exchange {M : Addr → Prop} {s : Addr} {A : LA} {L : LC} {k : Nat} {σ : AHeap} {Q : V → AHeap → Prop} (h : LatAt h0 M σ s A L) (hb : BndL L) (hk0 : 0 < k) (hk : k < L.parts.length) (hp9 : L.parts.length ≤ 1000) (hkr : k < L.rows.length) (hkl : (gl L.parts k).length = k) (hkm : (gl L.parts (k - 1)).length ≤ 1000)
    (hil : ∀ i, k < i → i < L.parts.length → k < (gl L.parts i).length) (hks : k + 1 < L.sizes.length) (hz : gt L.sizes k ≠ 0) (hz' : gt L.sizes (k + 1) ≠ 0)
    (hQ : ∀ M' A' σ', (∀ m, M m → M' m) → (∀ m, M' m → M m ∨ σ m = none) → ExtM M σ σ' → LatAt h0 M' σ' s A' (exL L k) → Q .none σ') : CC prog w h0 (n + 7) (.ref 294) [.ref s, .int k] σ Q := by
  have hML := ML_eq
  have hKB := KB_eq
  obtain ⟨ss, hss, hS⟩ := h.sizes
  have lp := h.len_ps
  have lr := h.len_rs
  obtain ⟨_, wk, wk1, wk2⟩ := h.rowsL.at hkr
  obtain ⟨_, wj, wj1, wj2⟩ := h.rowsL.at (show k - 1 < L.rows.length by omega)
  have rk : ¬ M (ga A.rs k) := h.rsM _ (ga_mem (by omega))
  have rj : ¬ M (ga A.rs (k - 1)) := h.rsM _ (ga_mem (by omega))
  refine enter G [some (.ref s), some (.int k), none, none, none, none, none, none, none] (at_L_exchange _) rfl rfl ?_
  conv => whnf
  refine h.aRx ?_
  conv => whnf
  refine ixR h.rows k rfl (by omega) ?_
  conv => whnf
  refine h.aRx ?_
  conv => whnf
  refine ixR h.rows (k - 1) (by omega) (by omega) ?_
  conv => whnf
  refine h.aRx ?_
  conv => whnf
  refine stR h.bs.1 h.rows (k - 1) (by omega) (by omega) fun σ1 x1 y1 => ?_
  have h1 := h.setRow wk1 wk2 rk x1 y1
  conv => whnf
  refine h1.aRx ?_
  conv => whnf
  refine stR (l := A.rs.set (k - 1) (ga A.rs k)) h1.bs.1 h1.rows k rfl (by simp; omega) fun σ2 x2 y2 => ?_
  have h2 := h1.setRow (r := ga A.rs (k - 1)) (x1 _ _ (fun q => rj (q ▸ h.mu.1)) wj1) (wj2.but h.mu.1 h.rows x1) rj x2 y2
  have hm1 : M A.aR := h.mu.1
  have e2 : ExtM M σ σ2 := (ExtM.but (fun a o _ e => e) x1 hm1).but x2 hm1
  generalize hA2 : ({ { A with rs := A.rs.set (k - 1) (ga A.rs k) } with rs := (A.rs.set (k - 1) (ga A.rs k)).set k (ga A.rs (k - 1)) } : LA) = A2 at h2
  have a2p : A2.ps = A.ps := by rw [← hA2]
  have a2l : A2.ps.length = L.parts.length := by rw [a2p]; exact lp
  generalize hRR : (L.rows.set (k - 1) (gl L.rows k)).set k (gl L.rows (k - 1)) = RR at h2
  clear h1 x1 y1 x2 y2 wk1 wk2 wj1 wj2 hss hS h
  obtain ⟨ss, hss, hS⟩ := h2.sizes
  obtain ⟨_, vs, hvs, hP⟩ := h2.partsL.at hk
  obtain ⟨vp, vp1, vp2⟩ := hP.at (i := k - 1) (by show _ < (gl L.parts k).length; omega)
  obtain ⟨vz, vz1, vz2⟩ := hS.at (i := k + 1) hks
  obtain ⟨vz0, vz01, vz02⟩ := hS.at (i := k - 1) (show k - 1 < L.sizes.length by omega)
  obtain ⟨vzk, vzk1, vzk2⟩ := hS.at (i := k) (show k < L.sizes.length by omega)
  obtain ⟨_, us, hus, hU⟩ := h2.partsL.at (i := k - 1) (show k - 1 < L.parts.length by omega)
  conv => whnf
  refine h2.aPx ?_
  conv => whnf
  refine ixR h2.parts k rfl (by omega) ?_
  conv => whnf
  refine ixL hvs (k - 1) vp (by omega) vp1 ?_
  conv => whnf
  refine h2.aSx ?_
  conv => whnf
  refine ixL hss (k + 1) vz (by omega) vz1 ?_
  conv => whnf
  refine h2.aPx ?_
  conv => whnf
  refine ixR h2.parts (k - 1) (by omega) (by omega) ?_
  conv => whnf
  refine h2.aPx ?_
  conv => whnf
  refine ixR h2.parts k rfl (by omega) ?_
  conv => whnf
  refine ⟨_, hvs, ?_⟩
  rw [cutV_to (e := k - 1) (by omega) (by rw [hP.1]; show _ ≤ (gl L.parts k).length; omega)]
  intro p1 σ3 b3 n3 e3 y3
  have h3 := h2.more n3 e3 y3
  conv => whnf
  refine h3.aPx ?_
  conv => whnf
  refine stR h3.bs.2.2.1 h3.parts (k - 1) (by omega) (by omega) fun σ4 x4 y4 => ?_
  have m3 : ∀ {v z}, IsS M σ2 v z → IsS (fun m => M m ∨ m = p1) σ3 v z := fun i => (i.more n3).ext e3
  have h4 := h3.setParts (k := k - 1) (p := p1) y3 (((hP.take (k - 1)).more n3).ext e3) (.inr rfl) b3 (h2.not_in n3) x4 y4
  have m4 : ∀ {v z}, IsS M σ2 v z → IsS (fun m => M m ∨ m = p1) σ4 v z := fun i => (m3 i).but h3.mu.2.2.1 h3.parts x4
  have e4 : ExtM M σ σ4 := (e2.trans e3.toM).but x4 h2.mu.2.2.1
  have hus4 : σ4 (ga A2.ps (k - 1)) = some (.list us) := x4 _ _ (fun q => by
    have := (nodup_four h2.nd).2.2.2.2.2.1
    exact this (by rw [← q]; exact ga_mem (by omega))) (e3 _ _ hus)
  conv => whnf
  intro z1 σ5 bz1 nz1 ez1 yz1
  conv => whnf
  refine ⟨_, _, ⟨ez1 _ _ hus4, yz1, by rw [hU.1]; show (gl L.parts (k - 1)).length + 1 ≤ 16777216; omega⟩, ?_⟩
  intro p2 σ6 b6 n6 e6 y6
  have h5 := h4.ext ez1
  have h6 := h5.more n6 e6 y6
  have m6 : ∀ {v z}, IsS M σ2 v z → IsS (fun m => (M m ∨ m = p1) ∨ m = p2) σ6 v z := fun i => (((m4 i).ext ez1).more n6).ext e6
  have us6 : IsSs (fun m => (M m ∨ m = p1) ∨ m = p2) σ6 (us ++ [vp]) (gl L.parts (k - 1) ++ [gt (gl L.parts k) (k - 1)]) := by
    refine IsSs.snoc ⟨hU.1, fun i v x g1 g2 => m6 (hU.2 i v x g1 g2)⟩ (m6 vp2)
  conv => whnf
  refine h6.aPx ?_
  conv => whnf
  refine stR h6.bs.2.2.1 h6.parts k rfl (by show k < (A2.ps.set (k - 1) p1).length; rw [List.length_set]; omega) fun σ7 x7 y7 => ?_
  have h7 := h6.setParts (k := k) (p := p2) y6 us6 (.inr rfl) b6 (h5.not_in n6) x7 y7
  have m7 : ∀ {v z}, IsS M σ2 v z → IsS (fun m => (M m ∨ m = p1) ∨ m = p2) σ7 v z := fun i => (m6 i).but h6.mu.2.2.1 h6.parts x7
  have e7 : ExtM M σ σ7 := ((e4.trans ez1.toM).trans e6.toM).but x7 h2.mu.2.2.1
  have sub : ∀ m, M m → ((M m ∨ m = p1) ∨ m = p2) := fun m hm => .inl (.inl hm)
  have f1 : σ p1 = none := e2.none h2.live (fun m hm => hm) n3
  have f2 : σ p2 = none := (e4.trans ez1.toM).none h5.live (fun m hm => .inl hm) n6
  generalize hM7 : (fun m => (M m ∨ m = p1) ∨ m = p2) = M7 at *
  have sub7 : ∀ m, M m → M7 m := fun m hm => by rw [← hM7]; exact sub m hm
  have fr7 : ∀ m, M7 m → M m ∨ σ m = none := fun m hm => by
    rw [← hM7] at hm
    rcases hm with (hm | hm) | hm
    · exact .inl hm
    · right; rw [hm]; exact f1
    · right; rw [hm]; exact f2
  generalize hA7 : ({ { A2 with ps := A2.ps.set (k - 1) p1 } with ps := (A2.ps.set (k - 1) p1).set k p2 } : LA) = A7 at h7
  have a7p : ∀ i, k < i → ga A7.ps i = ga A.ps i := fun i hi => by
    rw [← hA7]
    show ga ((A2.ps.set (k - 1) p1).set k p2) i = _
    rw [ga_set_ne (by omega), ga_set_ne (by omega), a2p]
  have a7l : A7.ps.length = L.parts.length := by rw [← hA7]; simp; omega
  have aMps : ∀ i, i < L.parts.length → M (ga A.ps i) := fun i hi => by rw [← a2p]; exact h2.mu.2.2.2 _ (ga_mem (by omega))
  have a7S : A7.aS = A2.aS := by rw [← hA7]
  have aMS : M A2.aS := h2.mu.2.1
  have a7P0 : (L.parts.set (k - 1) ((gl L.parts k).take (k - 1))).set k (gl L.parts (k - 1) ++ [gt (gl L.parts k) (k - 1)]) = exP L k 0 := rfl
  simp only at h7
  rw [a7P0] at h7
  clear us6 h6 h5 h4 h3 x7 y7 x4 y4 y6 y3 yz1 m3 m4 m6 hus4 hus hU
  obtain ⟨s7, hs7, hS7⟩ := h7.sizes
  simp only at hS7
  obtain ⟨w0, w01, w02⟩ := hS7.at (i := k - 1) (show k - 1 < L.sizes.length by omega)
  obtain ⟨wk, wk1, wk2⟩ := hS7.at (i := k) (show k < L.sizes.length by omega)
  have p7 := m7 vp2
  have z7 := m7 vz2
  simp only at p7 z7
  conv => whnf
  refine ⟨h7.self.inst, ?_⟩
  conv => whnf
  refine h7.aSx ?_
  conv => whnf
  refine ixL hs7 (k - 1) w0 (by omega) w01 ?_
  conv => whnf
  refine c_product_of G h7.self h7.live w02 z7 ((hb.sizes _).mono (by omega)) ((hb.sizes _).mono (by omega)) fun t8 σ8 e8 i8 => ?_
  have h8 := h7.ext e8
  conv => whnf
  refine ⟨h8.self.inst, ?_⟩
  conv => whnf
  refine c_product_of G h8.self h8.live (p7.ext e8) (p7.ext e8) ((hb.parts _ _).mono (by omega)) ((hb.parts _ _).mono (by omega)) fun t9 σ9 e9 i9 => ?_
  have h9 := h8.ext e9
  conv => whnf
  refine h9.wx ?_
  have bnow : Bnd (2 * KB + 1) (gt L.sizes (k - 1) * gt L.sizes (k + 1) + gt (gl L.parts k) (k - 1) * gt (gl L.parts k) (k - 1)) := Bnd.add ((Bnd.mul (hb.sizes _) (hb.sizes _)).mono (by omega)) ((Bnd.mul (hb.parts _ _) (hb.parts _ _)).mono (by omega))
  refine CC.up (n := n + 3) (c_s_add G h9.live (i8.ext e9) i9 ((Bnd.mul (hb.sizes _) (hb.sizes _)).mono (by omega)) ((Bnd.mul (hb.parts _ _) (hb.parts _ _)).mono (by omega)) fun t10 σ10 e10 i10 => ?_) (by omega)
  have h10 := h9.ext e10
  have E10 := (e8.trans e9).trans e10
  conv => whnf
  refine ⟨h10.self.inst, ?_⟩
  conv => whnf
  refine h10.aSx ?_
  conv => whnf
  refine ixL (E10 _ _ hs7) k wk rfl wk1 ?_
  conv => whnf
  refine CC.up (n := n + 6) (c_exact G h10.self h10.live i10 (wk2.ext E10) (bnow.mono (by omega)) ((hb.sizes _).mono (by omega)) hz fun t11 σ11 e11 i11 => ?_) (by omega)
  have h11 := h10.ext e11
  have E11 := E10.trans e11
  have i11 : IsS M7 σ11 (.ref t11) (nowI L k) := i11
  have p11 := p7.ext E11
  have z11 := z7.ext E11
  have bnow' : Bnd (2 * KB + 1) (nowI L k) := bnow.tdiv
  have eM11 : ExtM M σ σ11 := e7.trans E11.toM
  clear h10 h9 h8 i10 i9 i8 E10 hs7 hS7 h7
  conv => whnf
  refine h11.aPx ?_
  conv => whnf
  refine ⟨_, h11.parts, ?_⟩
  conv => whnf
  simp only [List.length_map, a7l]
  refine ⟨⟨⟨by omega, by omega⟩, by omega, by omega⟩, ?_⟩
  refine ⟨fun t ρ υ => ∃ u4 u6 u7 u8, ρ = [some (.ref s), some (.int k), some vp, some vz, u4, some (.ref t11), u6, u7, u8] ∧ ExtM M σ υ ∧ IsS M7 υ (.ref t11) (nowI L k) ∧ IsS M7 υ vp (gt (gl L.parts k) (k - 1)) ∧ IsS M7 υ vz (gt L.sizes (k + 1)) ∧ k + 1 + t ≤ L.parts.length ∧
      LatAt h0 M7 υ s A7 ⟨RR, L.sizes, exP L k t, L.top, L.bot⟩,
    ⟨_, _, _, _, rfl, eM11, i11, p11, z11, by omega, h11⟩, fun _ _ _ _ => trivial, ?_, ?_⟩
  · rintro t _ υ it ⟨u4, u6, u7, u8, rfl, he, inow, ip, iz, ht, hA⟩ hit
    obtain ⟨rfl, hlt⟩ := upTo_get hit
    have hlt : k + 1 + t < L.parts.length := by omega
    obtain ⟨_, xs, xs1, xs2⟩ := hA.partsL.at (i := k + 1 + t) (by rw [exP_len]; exact hlt)
    simp only [exP_ge L t (Nat.le_refl (k + 1 + t))] at xs2
    have hli := hil (k + 1 + t) (by omega) hlt
    obtain ⟨vh, vh1, vh2⟩ := xs2.at (i := k) hli
    obtain ⟨vg, vg1, vg2⟩ := xs2.at (i := k - 1) (by omega)
    obtain ⟨sk, hsk, hSk⟩ := hA.sizes
    simp only at hSk
    obtain ⟨wq, wq1, wq2⟩ := hSk.at (i := k) (show k < L.sizes.length by omega)
    have mi : M7 (ga A7.ps (k + 1 + t)) := by rw [a7p _ (by omega)]; exact sub7 _ (aMps _ hlt)
    have mi' : M (ga A7.ps (k + 1 + t)) := by rw [a7p _ (by omega)]; exact aMps _ hlt
    have bsi : Bs h0 (ga A7.ps (k + 1 + t)) := hA.bs.2.2.2 _ (ga_mem (by omega))
    conv => whnf
    refine hA.aPx ?_
    conv => whnf
    refine ixR hA.parts (k + 1 + t) (by omega) (by omega) ?_
    conv => whnf
    refine ixL xs1 k vh rfl vh1 ?_
    conv => whnf
    refine ⟨hA.self.inst, ?_⟩
    conv => whnf
    refine ⟨hA.self.inst, ?_⟩
    conv => whnf
    refine hA.aPx ?_
    conv => whnf
    refine ixR hA.parts (k + 1 + t) (by omega) (by omega) ?_
    conv => whnf
    refine ixL xs1 (k - 1) vg (by omega) vg1 ?_
    conv => whnf
    refine CC.up (n := n + 5) (c_crossed G hA.self hA.live iz vg2 ip vh2 (hb.sizes _) (hb.parts _ _) (hb.parts _ _) (hb.parts _ _) (by omega) fun r1 υ1 f1 j1 => ?_) (by omega)
    have hA1 := hA.ext f1
    conv => whnf
    refine hA1.aSx ?_
    conv => whnf
    refine ixL (f1 _ _ hsk) k wq rfl wq1 ?_
    conv => whnf
    have bx : Bnd (2 * KB + 1) (gt L.sizes (k + 1) * gt (gl L.parts (k + 1 + t)) (k - 1) - gt (gl L.parts k) (k - 1) * gt (gl L.parts (k + 1 + t)) k) := Bnd.sub ((Bnd.mul (hb.sizes _) (hb.parts _ _)).mono (by omega)) ((Bnd.mul (hb.parts _ _) (hb.parts _ _)).mono (by omega))
    refine CC.up (n := n + 6) (c_exact G hA1.self hA1.live j1 (wq2.ext f1) (bx.mono (by omega)) ((hb.sizes _).mono (by omega)) hz fun r2 υ2 f2 j2 => ?_) (by omega)
    have hA2' := hA1.ext f2
    have j2 : IsS M7 υ2 (.ref r2) (exB L k (gl L.parts (k + 1 + t))) := j2
    have bb : Bnd (2 * KB + 1) (exB L k (gl L.parts (k + 1 + t))) := bx.tdiv
    have F2 := f1.trans f2
    conv => whnf
    refine hA2'.aPx ?_
    conv => whnf
    refine ixR hA2'.parts (k + 1 + t) (by omega) (by omega) ?_
    conv => whnf
    refine stL bsi (F2 _ _ xs1) k rfl (by rw [xs2.1]; exact hli) fun υ3 g3 y3 => ?_
    have hA3 := hA2'.setPart (k := k + 1 + t) (j := k) (by simp only [exP_len]; exact hlt) (F2 _ _ xs1) (by simp only [exP_ge L t (Nat.le_refl (k + 1 + t))]; exact xs2.ext F2) j2 g3 y3
    simp only [exP_ge L t (Nat.le_refl (k + 1 + t))] at hA3
    have k3 : ∀ {v z}, IsS M7 υ v z → IsS M7 υ3 v z := fun i => (i.ext F2).but mi (F2 _ _ xs1) g3
    have j3 := j2.but mi (F2 _ _ xs1) g3
    have xs3 : IsSs M7 υ3 (xs.set k (.ref r2)) ((gl L.parts (k + 1 + t)).set k (exB L k (gl L.parts (k + 1 + t)))) := ((xs2.ext F2).but mi (F2 _ _ xs1) g3).set j3
    conv => whnf
    refine ⟨hA3.self.inst, ?_⟩
    conv => whnf
    refine c_product_of G hA3.self hA3.live (k3 inow) (k3 vh2) (bnow'.mono (by omega)) ((hb.parts _ _).mono (by omega)) fun r4 υ4 f4 j4 => ?_
    have hA4 := hA3.ext f4
    conv => whnf
    refine ⟨hA4.self.inst, ?_⟩
    conv => whnf
    refine hA4.aPx ?_
    conv => whnf
    refine ixR hA4.parts (k + 1 + t) (by omega) (by omega) ?_
    conv => whnf
    refine ixL (f4 _ _ y3) k (.ref r2) rfl (by rw [List.getElem?_set_self (by rw [xs2.1]; exact hli)]) ?_
    conv => whnf
    refine c_product_of G hA4.self hA4.live ((k3 ip).ext f4) (j3.ext f4) ((hb.parts _ _).mono (by omega)) (bb.mono (by omega)) fun r5 υ5 f5 j5 => ?_
    have hA5 := hA4.ext f5
    conv => whnf
    refine hA5.wx ?_
    have bt : Bnd (3 * KB + 2) (nowI L k * gt (gl L.parts (k + 1 + t)) k + gt (gl L.parts k) (k - 1) * exB L k (gl L.parts (k + 1 + t))) := Bnd.add (k := 3 * KB + 1) ((Bnd.mul bnow' (hb.parts _ _)).mono (by omega)) ((Bnd.mul (hb.parts _ _) bb).mono (by omega))
    refine CC.up (n := n + 3) (c_s_add G hA5.live (j4.ext f5) j5 ((Bnd.mul bnow' (hb.parts _ _)).mono (by omega)) ((Bnd.mul (hb.parts _ _) bb).mono (by omega)) fun r6 υ6 f6 j6 => ?_) (by omega)
    have hA6 := hA5.ext f6
    have F6 := (f4.trans f5).trans f6
    conv => whnf
    refine ⟨hA6.self.inst, ?_⟩
    conv => whnf
    refine CC.up (n := n + 6) (c_exact G hA6.self hA6.live j6 ((k3 iz).ext F6) (bt.mono (by omega)) ((hb.sizes _).mono (by omega)) hz' fun r7 υ7 f7 j7 => ?_) (by omega)
    have hA7' := hA6.ext f7
    have F7 := F6.trans f7
    conv => whnf
    refine hA7'.aPx ?_
    conv => whnf
    refine ixR hA7'.parts (k + 1 + t) (by omega) (by omega) ?_
    conv => whnf
    refine stL bsi (F7 _ _ y3) (k - 1) (by omega) (by rw [List.length_set, xs2.1]; omega) fun υ8 g8 y8 => ?_
    have hset : (exP L k t).set (k + 1 + t) ((gl L.parts (k + 1 + t)).set k (exB L k (gl L.parts (k + 1 + t)))) = (exP L k t).set (k + 1 + t) ((gl L.parts (k + 1 + t)).set k (exB L k (gl L.parts (k + 1 + t)))) := rfl
    have hlen : k + 1 + t < (exP L k t).length := by rw [exP_len]; exact hlt
    have hA8 := hA7'.setPart (k := k + 1 + t) (j := k - 1) (by simp only [List.length_set]; exact hlen) (F7 _ _ y3) (by simp only [gl_set_self hlen]; exact xs3.ext F7) j7 g8 y8
    simp only [gl_set_self hlen, List.set_set] at hA8
    have k8 : ∀ {v z}, IsS M7 υ v z → IsS M7 υ8 v z := fun i => ((k3 i).ext F7).but mi (F7 _ _ y3) g8
    refine ⟨_, _, _, _, rfl, (((he.trans F2.toM).but g3 mi').trans F7.toM).but g8 mi', k8 inow, k8 ip, k8 iz, by omega, ?_⟩
    exact hA8
  · rintro _ υ ⟨u4, u6, u7, u8, rfl, he, inow, ip, iz, ht, hA⟩
    rw [upTo_len, show ((L.parts.length : Int) - ((k : Int) + 1)).toNat = L.parts.length - (k + 1) by omega] at hA
    obtain ⟨sk, hsk, hSk⟩ := hA.sizes
    simp only at hSk
    conv => whnf
    refine hA.aSx ?_
    conv => whnf
    refine stL hA.bs.2.1 hsk k rfl (by rw [hSk.1]; omega) fun υ' g y => ?_
    have hA' := hA.setSize hsk hSk inow g y
    conv => whnf
    refine hQ M7 A7 υ' sub7 fr7 (he.but g (by rw [a7S]; exact aMS)) ?_
    unfold exL
    rw [hRR]
    exact hA'
end
end Mine
end
section
set_option maxRecDepth 100000
namespace Mine
open PySem PySem.W PyProof.Rows PySem.Calls

theorem wcond {B : Addr → Prop} {C : V → List V → AHeap → (V → AHeap → Prop) → Prop} {c : Tst} {a b r : Sts} {p : PySem.Pos} {ρ : Loc} {σ : AHeap} {N : Loc → AHeap → Prop} {R : V → AHeap → Prop} {P : Bool → AHeap → Prop} (h1 : ∀ Q, (∀ t σ, P t σ → Q t σ) → wpT B C c ρ σ Q)
    (h2 : ∀ t σ, P t σ → (t = true → wpSs B C a ρ σ (fun ρ σ => wpSs B C r ρ σ N R) R) ∧ (t = false → wpSs B C b ρ σ (fun ρ σ => wpSs B C r ρ σ N R) R)) : wpSs B C (.cons (.cond c a b p) r) ρ σ N R := h1 _ h2

structure ShOk (L : LC) (k j : Nat) : Prop where
  hb : BndL L
  hj : j < k
  hk9 : k ≤ 1000
  hk : k < L.parts.length
  hkr : k < L.rows.length
  hkl : j < (gl L.parts k).length
  hjl : j ≤ (gl L.parts j).length
  hks : j + 1 < L.sizes.length
  hz : 0 < gt L.sizes (j + 1)
  hrl : (gl L.rows k).length ≤ 1000
structure UpOk (L : LC) (k : Nat) : Prop where
  hb : BndL L
  hk0 : 0 < k
  hk : k < L.parts.length
  hkl : k - 1 < (gl L.parts k).length
  hks : k + 1 < L.sizes.length
structure ExOk (L : LC) (k : Nat) : Prop where
  hb : BndL L
  hk0 : 0 < k
  hk : k < L.parts.length
  hp9 : L.parts.length ≤ 1000
  hkr : k < L.rows.length
  hkl : (gl L.parts k).length = k
  hkm : (gl L.parts (k - 1)).length ≤ 1000
  hil : ∀ i, k < i → i < L.parts.length → k < (gl L.parts i).length
  hks : k + 1 < L.sizes.length
  hz : gt L.sizes k ≠ 0
  hz' : gt L.sizes (k + 1) ≠ 0

def shD (L : LC) (k : Nat) : Nat → LC
  | 0 => L
  | t + 1 => shortL (shD L k t) k (k - 2 - t)
def runA (L : LC) (k : Nat) : LC := if 0 < k then shortL L k (k - 1) else L

structure RunStep (I : Nat → Nat → LC → Prop) (m k : Nat) (L : LC) : Prop where
  parts : L.parts.length = L.rows.length
  r9 : L.rows.length ≤ 1000
  sh : 0 < k → ShOk L k (k - 1)
  up : 0 < k → UpOk (runA L k) k
  ex : 0 < k → uprightI (runA L k) k = false → ExOk (runA L k) k ∧ ∃ m', m' < m ∧ I m' (max 1 (k - 1)) (exL (runA L k) k)
  dn : (k = 0 ∨ uprightI (runA L k) k = true) → (∀ t, t < k - 1 → ShOk (shD (runA L k) k t) k (k - 2 - t)) ∧ ∃ m', m' < m ∧ I m' (k + 1) (shD (runA L k) k (k - 1))

section
variable {h0 : Heap} {prog : Program} {w : World} {mg mb : Str → Option Value} (G : Gd (KK w) h0 mg mb) {n : Nat}

include G in
theorem c_sh {M : Addr → Prop} {s : Addr} {A : LA} {L : LC} {k j : Nat} {σ : AHeap} {Q : V → AHeap → Prop} (h : LatAt h0 M σ s A L) (o : ShOk L k j)
    (hQ : ∀ A' σ', ExtM M σ σ' → LatAt h0 M σ' s A' (shortL L k j) → Q .none σ') : CC prog w h0 (n + 8) (.ref 280) [.ref s, .int k, .int j] σ Q :=
  c_shorten G h o.hb o.hj o.hk9 o.hk o.hkr o.hkl o.hjl o.hks o.hz o.hrl hQ

theorem not_parts {m : Nat} {k : Nat} {I : Nat → Nat → LC → Prop} {L : LC} (h : RunStep I m k L) (hk : k < L.rows.length) : k ≠ L.parts.length := by rw [h.parts]; omega

set_option maxHeartbeats 1000000 in
include G in
theorem c_run {M : Addr → Prop} {s : Addr} {A : LA} {L : LC} {σ : AHeap} {Q : V → AHeap → Prop} (I : Nat → Nat → LC → Prop) (h : LatAt h0 M σ s A L) (i0 : ∃ m, I m 0 L) (hI : ∀ m k L, I m k L → k < L.rows.length → RunStep I m k L)
    (hQ : ∀ M' A' L' σ', (∀ m, M m → M' m) → (∀ m, M' m → M m ∨ σ m = none) → ExtM M σ σ' → LatAt h0 M' σ' s A' L' → (∃ m k, I m k L' ∧ L'.rows.length ≤ k) → Q .none σ') : CC prog w h0 (n + 9) (.ref 301) [.ref s] σ Q := by
  refine enter G [some (.ref s), none, none] (at_L_run _) rfl rfl ?_
  conv => whnf
  refine ⟨fun m ρ υ => ∃ k L A M' u, ρ = [some (.ref s), some (.int (k : Nat)), u] ∧ (∀ m, M m → M' m) ∧ (∀ m, M' m → M m ∨ σ m = none) ∧ ExtM M σ υ ∧ LatAt h0 M' υ s A L ∧ I m k L,
    fun ρ υ => ∃ m k L A M', (∀ m, M m → M' m) ∧ (∀ m, M' m → M m ∨ σ m = none) ∧ ExtM M σ υ ∧ LatAt h0 M' υ s A L ∧ I m k L ∧ L.rows.length ≤ k, ?_, ?_, ?_⟩
  · obtain ⟨m, hm⟩ := i0
    exact ⟨m, 0, L, A, M, none, rfl, fun _ q => q, fun _ q => .inl q, fun _ _ _ e => e, h, hm⟩
  · rintro m _ υ ⟨k, L, A, M', u, rfl, hsub, hfr, he, hA, hm⟩
    have cm : ∀ {υ' υ'' : AHeap}, ExtM M σ υ' → ExtM M' υ' υ'' → ExtM M σ υ'' := fun e1 e2 a o na ea => e2 a o (fun q => by
      rcases hfr a q with q | q
      · exact na q
      · rw [q] at ea; cases ea) (e1 a o na ea)
    conv => whnf
    refine hA.aRx ?_
    conv => whnf
    refine ⟨_, hA.rows, ?_⟩
    conv => whnf
    simp only [List.length_map, hA.len_rs]
    refine ⟨fun e => ?_, fun e => ?_⟩
    · have e := of_decide_eq_true e
      have hk : k < L.rows.length := by omega
      have st := hI m k L hm hk
      have r9 := st.r9
      conv => whnf
      refine hA.aPx ?_
      conv => whnf
      refine ⟨_, hA.parts, ?_⟩
      conv => whnf
      simp only [List.length_map, hA.len_ps]
      refine ⟨fun e2 => ?_, fun _ => ?_⟩
      · have e2 := of_decide_eq_true e2
        exact absurd (Int.ofNat_inj.mp e2) (not_parts st hk)
      refine wcons (join (P := (fun ρ υ' => ρ = [some (.ref s), some (.int (k : Nat)), u] ∧ ∃ A, ExtM M σ υ' ∧ LatAt h0 M' υ' s A (runA L k))) (F := fun N => wpS _ _ _ _ _ N _) ?_ ?_)
      · intro N hN
        conv => whnf
        refine ⟨fun e2 => ?_, fun e2 => ?_⟩
        · have e2 := of_decide_eq_true e2
          have hk0 : 0 < k := by omega
          conv => whnf
          refine ⟨hA.self.inst, ?_⟩
          conv => whnf
          rw [show (k : Int) - 1 = ((k - 1 : Nat) : Int) by omega]
          refine c_sh G hA (st.sh hk0) fun A' υ' x y => ?_
          conv => whnf
          refine ⟨rfl, ?_⟩
          conv => whnf
          refine hN _ _ ⟨rfl, A', cm he x, ?_⟩
          unfold runA; rw [if_pos hk0]; exact y
        · have e2 := of_decide_eq_false e2
          refine hN _ _ ⟨rfl, A, he, ?_⟩
          unfold runA; rw [if_neg (by omega)]; exact hA
      · rintro _ υ1 ⟨rfl, A1, he1, hA1⟩
        refine wcond (P := fun t υ2 => ExtM M σ υ2 ∧ LatAt h0 M' υ2 s A1 (runA L k) ∧ (t = true → 0 < k ∧ uprightI (runA L k) k = false) ∧ (t = false → k = 0 ∨ uprightI (runA L k) k = true)) ?_ ?_
        · intro N hN
          conv => whnf
          refine ⟨fun e3 => ?_, fun e3 => ?_⟩
          · have e3 := of_decide_eq_true e3
            have hk0 : 0 < k := by omega
            have uo := st.up hk0
            conv => whnf
            refine ⟨hA1.self.inst, ?_⟩
            conv => whnf
            refine CC.up (n := n + 5) (c_is_upright G hA1 uo.hb uo.hk0 uo.hk uo.hkl uo.hks fun υ2 x => ?_) (by omega)
            refine hN _ _ ⟨cm he1 x.toM, hA1.ext x, fun z => ⟨hk0, by simpa using z⟩, fun z => .inr (by simpa using z)⟩
          · have e3 := of_decide_eq_false e3
            exact hN _ _ ⟨he1, hA1, nofun, fun _ => .inl (by omega)⟩
        · rintro t υ2 ⟨he2, hA2, ht, hf⟩
          refine ⟨fun z => ?_, fun z => ?_⟩
          · obtain ⟨hk0, hu⟩ := ht z
            obtain ⟨xo, m', hm', hI'⟩ := st.ex hk0 hu
            conv => whnf
            refine ⟨hA2.self.inst, ?_⟩
            conv => whnf
            refine CC.up (n := n + 7) (c_exchange G hA2 xo.hb xo.hk0 xo.hk xo.hp9 xo.hkr xo.hkl xo.hkm xo.hil xo.hks xo.hz xo.hz' fun M3 A3 υ3 s3 f3 x3 y3 => ?_) (by omega)
            conv => whnf
            refine ⟨rfl, ?_⟩
            conv => whnf
            refine ⟨m', hm', max 1 (k - 1), _, A3, M3, u, ?_, fun z hz => s3 z (hsub z hz), fun z hz => ?_, cm he2 x3, y3, hI'⟩
            · rw [show max (1 : Int) ((k : Int) - 1) = ((max 1 (k - 1) : Nat) : Int) by omega]; rfl
            · rcases f3 z hz with q | q
              · exact hfr z q
              · exact .inr (he2.none hA2.live hsub q)
          · obtain ⟨hd, m', hm', hI'⟩ := st.dn (hf z)
            conv => whnf
            refine ⟨⟨⟨by omega, by omega⟩, ⟨by omega, by omega⟩, by first | rfl | trivial⟩, ?_⟩
            refine ⟨fun t ρ υ => ∃ u A3, ρ = [some (.ref s), some (.int (k : Nat)), u] ∧ ExtM M σ υ ∧ t ≤ k - 1 ∧ LatAt h0 M' υ s A3 (shD (runA L k) k t), ⟨u, A1, rfl, he2, Nat.zero_le _, hA2⟩, fun _ _ _ _ => trivial, ?_, ?_⟩
            · rintro t _ υ3 it ⟨u3, A3, rfl, he3, ht3, hA3⟩ hit
              obtain ⟨rfl, hlt⟩ := downTo_get hit
              conv => whnf
              refine ⟨hA3.self.inst, ?_⟩
              conv => whnf
              rw [show (k : Int) - 2 - t = ((k - 2 - t : Nat) : Int) by omega]
              refine c_sh G hA3 (hd t (by omega)) fun A4 υ4 x4 y4 => ?_
              conv => whnf
              exact ⟨rfl, _, A4, rfl, cm he3 x4, by omega, y4⟩
            · rintro _ υ3 ⟨u3, A3, rfl, he3, ht3, hA3⟩
              rw [downTo_len, show ((k : Int) - 2 - -1).toNat = k - 1 by omega] at hA3
              conv => whnf
              exact ⟨m', hm', k + 1, _, A3, M', _, rfl, hsub, hfr, he3, hA3, hI'⟩
    · have e := of_decide_eq_false e
      exact ⟨m, k, L, A, M', hsub, hfr, he, hA, hm, by omega⟩
  · rintro _ υ ⟨m, k, L, A, M', hsub, hfr, he, hA, hm, hk⟩
    conv => whnf
    exact hQ M' A L υ hsub hfr he hA ⟨m, k, hm, hk⟩
end
end Mine
end
section
set_option maxRecDepth 100000
namespace Mine
open PySem PySem.W PyProof.Rows PySem.Calls

def Sts.hd : Sts → St
  | .cons s _ => s
  | .nil => .ret0 ⟨0, 0, 0, 0⟩
def Sts.tl : Sts → Sts
  | .cons _ r => r
  | .nil => .nil

def fnd (sz pk pj : List Int) (d0 : Int) : Nat → Int
  | 0 => d0
  | i + 1 => (gt sz (i + 1) * fnd sz pk pj d0 i - gt pk i * gt pj i).tdiv (gt sz i)
def tkP (L : LC) (k : Nat) : Nat → List Int
  | 0 => []
  | j + 1 => tkP L k j ++ [fnd L.sizes (tkP L k j) (gl L.parts j) (dotI (gl L.rows k) (gl L.rows j)) j]
theorem tkP_len (L : LC) (k : Nat) : ∀ j, (tkP L k j).length = j
  | 0 => rfl
  | j + 1 => by rw [tkP, List.length_append, tkP_len L k j]; rfl
def tkD (L : LC) (k : Nat) : Int := fnd L.sizes (tkP L k k) (tkP L k k) (dotI (gl L.rows k) (gl L.rows k)) k
def tkL (L : LC) (k : Nat) : LC := ⟨L.rows, L.sizes ++ [tkD L k], L.parts ++ [tkP L k k], L.top, L.bot⟩
theorem gl_append_left {l m : List (List Int)} {j : Nat} (h : j < l.length) : gl (l ++ m) j = gl l j := by
  unfold gl; rw [List.getD_eq_getElem?_getD, List.getD_eq_getElem?_getD, List.getElem?_append_left h]
theorem gl_append_last {l : List (List Int)} {v : List Int} : gl (l ++ [v]) l.length = v := by
  unfold gl; rw [List.getD_eq_getElem?_getD, List.getElem?_append_right (Nat.le_refl _)]; simp
theorem set_append_last {l : List (List Int)} {v u : List Int} : (l ++ [v]).set l.length u = l ++ [u] := by
  rw [List.set_append_right _ _ (Nat.le_refl _)]; simp

structure TkOk (L : LC) (k : Nat) : Prop where
  hb : BndL L
  hp : L.parts.length = k
  hs : L.sizes.length = k + 1
  hr : k < L.rows.length
  hr9 : L.rows.length ≤ 1000
  hl : ∀ j, j < k → (gl L.parts j).length = j
  hw : ∀ j, (gl L.rows j).length ≤ 1000
  hz : ∀ i, i ≤ k → gt L.sizes i ≠ 0
  h1 : ∀ j, j < k → ∀ i, i ≤ j → Bnd KB (fnd L.sizes (tkP L k j) (gl L.parts j) (dotI (gl L.rows k) (gl L.rows j)) i)
  h2 : ∀ i, i ≤ k → Bnd KB (fnd L.sizes (tkP L k k) (tkP L k k) (dotI (gl L.rows k) (gl L.rows k)) i)
  h3 : ∀ j i, j ≤ k → Bnd KB (gt (tkP L k j) i)

section
variable {h0 : Heap} {prog : Program} {w : World} {mg mb : Str → Option Value} (G : Gd (KK w) h0 mg mb) {n : Nat}

theorem apx {B : Addr → Prop} {σ : AHeap} {x : Addr} {l : List V} {v : V} {Q : AHeap → Prop} (hB : B x) (h : σ x = some (.list l)) (hl : l.length < 16777216) (q : ∀ σ', ExtBut x σ σ' → σ' x = some (.list (l ++ [v])) → Q σ') :
    ∃ xs, (B x ∧ σ x = some (.list xs) ∧ xs.length < LIM) ∧ ∀ σ', ExtBut x σ σ' → σ' x = some (.list (xs ++ [v])) → Q σ' := ⟨l, ⟨hB, h, hl⟩, q⟩

set_option maxHeartbeats 1000000 in
include G in
theorem take_pre {M : Addr → Prop} {s : Addr} {A : LA} {L : LC} {k : Nat} {σ : AHeap} {r : Sts} {N : Loc → AHeap → Prop} {R : V → AHeap → Prop} (h : LatAt h0 M σ s A L) (ok : TkOk L k)
    (hQ : ∀ M' A' σ' u2 u3 u4 u5, (∀ m, M m → M' m) → (∀ m, M' m → M m ∨ σ m = none) → ExtM M σ σ' → LatAt h0 M' σ' s A' (tkL L k) → wpSs (Bs h0) (CC prog w h0 (n + 6)) r [some (.ref s), some (.int (k : Nat)), u2, u3, u4, u5] σ' N R) :
    wpSs (Bs h0) (CC prog w h0 (n + 6)) (.cons bd_L_take_in.hd (.cons bd_L_take_in.tl.hd r)) [some (.ref s), some (.int (k : Nat)), none, none, none, none] σ N R := by
  have hML := ML_eq
  have hKB := KB_eq
  have lp := h.len_ps
  have lr := h.len_rs
  have okp := ok.hp
  have okr := ok.hr
  have okr9 := ok.hr9
  have oks := ok.hs
  conv => whnf
  refine h.aPx ?_
  conv => whnf
  refine ⟨⟨_, h.parts⟩, ?_⟩
  conv => whnf
  intro p σ1 b1 n1 e1 y1
  have h1 := h.more n1 e1 y1
  conv => whnf
  refine apx h1.bs.2.2.1 h1.parts (by rw [List.length_map]; omega) fun σ2 x2 y2 => ?_
  have h2 := h1.appParts (l := []) (vs := []) y1 .nil (.inr rfl) b1 (h.not_in n1) x2 y2
  have e2 : ExtM M σ σ2 := e1.toM.but x2 h.mu.2.2.1
  have sub : ∀ m, M m → (M m ∨ m = p) := fun m hm => .inl hm
  have fr : ∀ m, (M m ∨ m = p) → M m ∨ σ m = none := fun m hm => by
    rcases hm with hm | hm
    · exact .inl hm
    · right; rw [hm]; exact n1
  generalize hM : (fun m => M m ∨ m = p) = M2 at h2
  have sub2 : ∀ m, M m → M2 m := fun m hm => by rw [← hM]; exact sub m hm
  have fr2 : ∀ m, M2 m → M m ∨ σ m = none := fun m hm => by rw [← hM] at hm; exact fr m hm
  have mp : M2 p := by rw [← hM]; exact .inr rfl
  have gp : ga (A.ps ++ [p]) k = p := by
    unfold ga
    rw [List.getD_eq_getElem?_getD, List.getElem?_append_right (by omega), lp, okp]; simp
  generalize hA2 : ({ A with ps := A.ps ++ [p] } : LA) = A2 at h2
  have a2p : A2.ps = A.ps ++ [p] := by rw [← hA2]
  have a2l : A2.ps.length = k + 1 := by rw [a2p, List.length_append, lp, okp]; rfl
  have a2r : A2.rs.length = L.rows.length := by rw [← hA2]; exact lr
  have a2S : M A2.aS := by rw [← hA2]; exact h.mu.2.1
  have aps : ga A2.ps k = p := by rw [a2p]; exact gp
  have hnp : ∀ {υ υ' : AHeap}, ExtM M σ υ → ExtBut p υ υ' → ExtM M σ υ' := fun e x a o na ea => x a o (fun q => by rw [q, n1] at ea; cases ea) (e a o na ea)
  have cm : ∀ {υ' υ'' : AHeap}, ExtM M σ υ' → Ext υ' υ'' → ExtM M σ υ'' := fun e1 e2 => e1.trans e2.toM
  conv => whnf
  refine ⟨rfl, ?_⟩
  conv => whnf
  refine ⟨⟨by omega, by omega⟩, ?_⟩
  refine ⟨fun j ρ υ => ∃ u2 u3 u4 u5, ρ = [some (.ref s), some (.int (k : Nat)), u2, u3, u4, u5] ∧ ExtM M σ υ ∧ j ≤ k + 1 ∧ LatAt h0 M2 υ s A2 ⟨L.rows, if j ≤ k then L.sizes else L.sizes ++ [tkD L k], L.parts ++ [tkP L k (min j k)], L.top, L.bot⟩,
    ⟨none, none, none, none, rfl, e2, Nat.zero_le _, by rw [if_pos (Nat.zero_le _), Nat.zero_min]; exact h2⟩, fun _ _ _ _ => trivial, ?_, ?_⟩
  · rintro j _ υ it ⟨u2, u3, u4, u5, rfl, he, hj, hA⟩ hit
    obtain ⟨rfl, hlt⟩ := upTo_get hit
    have hjk : j ≤ k := by omega
    rw [if_pos hjk, Nat.min_eq_left hjk] at hA
    rw [show (0 : Int) + (j : Int) = (j : Int) by omega]
    obtain ⟨_, wk, wk1, wk2⟩ := hA.rowsL.at (i := k) okr
    obtain ⟨_, wj, wj1, wj2⟩ := hA.rowsL.at (i := j) (show j < L.rows.length by omega)
    simp only at wk2 wj2
    conv => whnf
    refine hA.aRx ?_
    conv => whnf
    refine ixR hA.rows k rfl (by omega) ?_
    conv => whnf
    refine hA.aRx ?_
    conv => whnf
    refine ixR hA.rows j rfl (by omega) ?_
    conv => whnf
    refine hA.wx ?_
    conv => whnf
    refine hA.mulx ?_
    refine CC.up (n := n + 4) (c_dot G (k := KB) hA.live hA.nought wk1 wj1 wk2 wj2 (fun i => ok.hb.rows _ _) (fun i => ok.hb.rows _ _) (by have := ok.hw k; omega) fun t υ1 f1 i1 => ?_) (by omega)
    have hA1 := hA.ext f1
    have he1 := cm he f1
    have pj : ∃ pj, (if j = k then pj = tkP L k k else pj = gl L.parts j) ∧ j ≤ pj.length ∧ (∀ i, i ≤ j → Bnd KB (fnd L.sizes (tkP L k j) pj (dotI (gl L.rows k) (gl L.rows j)) i)) ∧ ∀ i, Bnd KB (gt pj i) := by
      by_cases q : j = k
      · subst q
        exact ⟨tkP L j j, by rw [if_pos rfl], by rw [tkP_len]; exact Nat.le_refl _, ok.h2, fun i => ok.h3 j i (Nat.le_refl _)⟩
      · refine ⟨gl L.parts j, by rw [if_neg q], by rw [ok.hl j (by omega)]; exact Nat.le_refl _, ok.h1 j (by omega), fun i => ok.hb.parts j i⟩
    obtain ⟨pj, pj1, pj2, pj3, pj4⟩ := pj
    conv => whnf
    refine ⟨⟨by omega, by omega⟩, ?_⟩
    refine ⟨fun i ρ ω => ∃ t u4 u5, ρ = [some (.ref s), some (.int (k : Nat)), some (.int (j : Nat)), some (.ref t), u4, u5] ∧ ExtM M σ ω ∧ i ≤ j ∧ LatAt h0 M2 ω s A2 ⟨L.rows, L.sizes, L.parts ++ [tkP L k j], L.top, L.bot⟩ ∧ IsS M2 ω (.ref t) (fnd L.sizes (tkP L k j) pj (dotI (gl L.rows k) (gl L.rows j)) i),
      ⟨t, _, _, rfl, he1, Nat.zero_le _, hA1, i1⟩, fun _ _ _ _ => trivial, ?_, ?_⟩
    · rintro i _ ω it ⟨t, u4, u5, rfl, heω, hij, hω, it'⟩ hit
      obtain ⟨rfl, hlt⟩ := upTo_get hit
      have hij : i < j := by omega
      rw [show (0 : Int) + (i : Int) = (i : Int) by omega]
      obtain ⟨_, xs, xs1, xs2⟩ := hω.partsL.at (i := k) (by simp; omega)
      simp only [show gl (L.parts ++ [tkP L k j]) k = tkP L k j by rw [← okp]; exact gl_append_last] at xs2
      obtain ⟨vk, vk1, vk2⟩ := xs2.at (i := i) (by rw [tkP_len]; exact hij)
      obtain ⟨ss, hss, hS⟩ := hω.sizes
      simp only at hS
      obtain ⟨z0, z01, z02⟩ := hS.at (i := i) (show i < L.sizes.length by omega)
      obtain ⟨z1, z11, z12⟩ := hS.at (i := i + 1) (show i + 1 < L.sizes.length by omega)
      conv => whnf
      refine joinV (P := (fun v τ => ω = τ ∧ IsS M2 ω v (gt pj i))) (F := fun N => (decide _ = true → wpE _ _ _ _ _ N) ∧ (decide _ = false → wpE _ _ _ _ _ N)) ?_ ?_
      · intro N' hN
        refine ⟨fun e => ?_, fun e => ?_⟩
        · have e := of_decide_eq_true e
          have e : j = k := by omega
          rw [if_pos e] at pj1
          conv => whnf
          refine hω.aPx ?_
          conv => whnf
          refine ixR hω.parts k rfl (by omega) ?_
          conv => whnf
          refine ixL xs1 i vk rfl vk1 ?_
          refine hN _ _ ⟨rfl, ?_⟩
          rw [pj1, ← e]
          rw [← e] at vk2
          exact vk2
        · have e := of_decide_eq_false e
          have e : j ≠ k := fun q => e (by rw [q])
          rw [if_neg e] at pj1
          obtain ⟨_, ys, ys1, ys2⟩ := hω.partsL.at (i := j) (by simp; omega)
          simp only [gl_append_left (show j < L.parts.length by omega)] at ys2
          obtain ⟨vj, vj1, vj2⟩ := ys2.at (i := i) (by rw [ok.hl j (by omega)]; exact hij)
          conv => whnf
          refine hω.aPx ?_
          conv => whnf
          refine ixR hω.parts j rfl (by omega) ?_
          conv => whnf
          refine ixL ys1 i vj rfl vj1 ?_
          exact hN _ _ ⟨rfl, by rw [pj1]; exact vj2⟩
      · rintro vp _ ⟨rfl, ip⟩
        conv => whnf
        refine ⟨hω.self.inst, ?_⟩
        conv => whnf
        refine ⟨hω.self.inst, ?_⟩
        conv => whnf
        refine hω.aSx ?_
        conv => whnf
        refine ixL hss (i + 1) z1 (by omega) z11 ?_
        conv => whnf
        refine hω.aPx ?_
        conv => whnf
        refine ixR hω.parts k rfl (by omega) ?_
        conv => whnf
        refine ixL xs1 i vk rfl vk1 ?_
        conv => whnf
        refine CC.up (n := n + 5) (c_crossed G (k := KB) hω.self hω.live z12 it' vk2 ip (ok.hb.sizes _) (pj3 i (by omega)) (ok.h3 j i hjk) (pj4 i) (by omega) fun t1 ω1 f1 j1 => ?_) (by omega)
        have hω1 := hω.ext f1
        conv => whnf
        refine hω1.aSx ?_
        conv => whnf
        refine ixL (f1 _ _ hss) i z0 rfl z01 ?_
        conv => whnf
        have bx : Bnd (2 * KB + 1) (gt L.sizes (i + 1) * fnd L.sizes (tkP L k j) pj (dotI (gl L.rows k) (gl L.rows j)) i - gt (tkP L k j) i * gt pj i) := Bnd.sub ((Bnd.mul (ok.hb.sizes _) (pj3 i (by omega))).mono (by omega)) ((Bnd.mul (ok.h3 j i hjk) (pj4 i)).mono (by omega))
        refine c_exact G hω1.self hω1.live j1 (z02.ext f1) (bx.mono (by omega)) ((ok.hb.sizes _).mono (by omega)) (ok.hz i (by omega)) fun t2 ω2 f2 j2 => ?_
        conv => whnf
        exact ⟨t2, _, _, rfl, cm (cm heω f1) f2, hij, hω1.ext f2, j2⟩
    · rintro _ ω ⟨t, u4, u5, rfl, heω, hij, hω, it'⟩
      rw [upTo_len, show ((j : Int) - 0).toNat = j by omega] at it'
      conv => whnf
      refine ⟨fun e => ?_, fun e => ?_⟩
      · have e := of_decide_eq_true e
        have e : j < k := by omega
        rw [if_neg (by omega)] at pj1
        subst pj1
        obtain ⟨_, xs, xs1, xs2⟩ := hω.partsL.at (i := k) (by simp; omega)
        simp only [show gl (L.parts ++ [tkP L k j]) k = tkP L k j by rw [← okp]; exact gl_append_last] at xs2
        conv => whnf
        refine hω.aPx ?_
        conv => whnf
        refine ixR hω.parts k rfl (by omega) ?_
        conv => whnf
        refine ⟨⟨_, xs1⟩, ?_⟩
        conv => whnf
        refine apx (hω.bs.2.2.2 _ (ga_mem (by omega))) xs1 (by rw [xs2.1, tkP_len]; omega) fun ω' x y => ?_
        have hω' := hω.appPart (k := k) (by simp; omega) xs1 (by simp only [show gl (L.parts ++ [tkP L k j]) k = tkP L k j by rw [← okp]; exact gl_append_last]; exact xs2) it' x y
        simp only [show gl (L.parts ++ [tkP L k j]) k = tkP L k j by rw [← okp]; exact gl_append_last] at hω'
        conv => whnf
        refine ⟨rfl, _, _, _, _, rfl, hnp heω (by rw [← aps]; exact x), by omega, ?_⟩
        rw [if_pos (by omega), Nat.min_eq_left (by omega)]
        have : (L.parts ++ [tkP L k j]).set k (tkP L k j ++ [fnd L.sizes (tkP L k j) (gl L.parts j) (dotI (gl L.rows k) (gl L.rows j)) j]) = L.parts ++ [tkP L k (j + 1)] := by
          rw [← okp] at *; exact set_append_last
        rw [this] at hω'
        exact hω'
      · have e := of_decide_eq_false e
        have e : j = k := by omega
        subst e
        rw [if_pos rfl] at pj1
        subst pj1
        obtain ⟨ss, hss, hS⟩ := hω.sizes
        conv => whnf
        refine hω.aSx ?_
        conv => whnf
        refine ⟨⟨_, hss⟩, ?_⟩
        conv => whnf
        refine apx hω.bs.2.1 hss (by rw [hS.1]; show L.sizes.length < _; omega) fun ω' x y => ?_
        have hω' := hω.appSize hss hS it' x y
        conv => whnf
        refine ⟨rfl, _, _, _, _, rfl, heω.but x a2S, Nat.le_refl _, ?_⟩
        rw [if_neg (by omega), Nat.min_eq_right (by omega)]
        exact hω'
  · rintro _ υ ⟨u2, u3, u4, u5, rfl, he, hj, hA⟩
    rw [upTo_len, show ((k : Int) + 1 - 0).toNat = k + 1 by omega, if_neg (by omega), Nat.min_eq_right (by omega)] at hA
    exact hQ M2 A2 υ u2 u3 u4 u5 sub2 fr2 he hA

include G in
theorem c_take_in {M : Addr → Prop} {s : Addr} {A : LA} {L : LC} {k : Nat} {σ : AHeap} {Q : V → AHeap → Prop} (h : LatAt h0 M σ s A L) (ok : TkOk L k) (hd : tkD L k ≠ 0)
    (hQ : ∀ M' A' σ', (∀ m, M m → M' m) → (∀ m, M' m → M m ∨ σ m = none) → ExtM M σ σ' → LatAt h0 M' σ' s A' (tkL L k) → Q .none σ') : CC prog w h0 (n + 7) (.ref 273) [.ref s, .int (k : Nat)] σ Q := by
  refine enter G [some (.ref s), some (.int (k : Nat)), none, none, none, none] (at_L_take_in _) rfl rfl ?_
  refine take_pre G h ok (r := bd_L_take_in.tl.tl) fun M' A' σ' u2 u3 u4 u5 s1 s2 s3 s4 => ?_
  have lp := s4.len_ps
  obtain ⟨ss, hss, hS⟩ := s4.sizes
  obtain ⟨z, z1, z2⟩ := hS.at (i := k + 1) (by show k + 1 < (L.sizes ++ [tkD L k]).length; rw [List.length_append, ok.hs]; exact Nat.lt_succ_self _)
  have ez : gt (tkL L k).sizes (k + 1) = tkD L k := by
    show gt (L.sizes ++ [tkD L k]) (k + 1) = _
    rw [gt_append_right (by rw [ok.hs]; exact Nat.le_refl _), ok.hs]; simp [gt]
  rw [ez] at z2
  conv => whnf
  refine s4.aSx ?_
  conv => whnf
  refine ixL hss (k + 1) z (by omega) z1 ?_
  conv => whnf
  refine CC.up (n := n + 1) (c_s_sign G z2 ?_) (by omega)
  rw [if_neg hd]
  conv => whnf
  refine ⟨fun e => ?_, fun _ => ?_⟩
  · have e := of_decide_eq_true e
    split at e <;> omega
  · conv => whnf
    exact hQ M' A' σ' s1 s2 s3 s4
end
end Mine
end
section
set_option maxRecDepth 100000
namespace Mine
open PySem PySem.W PyProof.Rows PySem.Calls


structure IF (M : Addr → Prop) (σ : AHeap) (rs : List Addr) (ls : List (List Int)) : Prop where
  rows : IsLs M σ rs ls
  nought : IsS M σ (.ref 214) 0
  live : Live M σ
  rsM : ∀ r ∈ rs, ¬ M r

section
variable {M : Addr → Prop} {σ σ' : AHeap}
theorem IF.ext {rs : List Addr} {ls : List (List Int)} (h : IF M σ rs ls) (e : Ext σ σ') : IF M σ' rs ls := ⟨h.rows.ext e, h.nought.ext e, h.live.ext e, h.rsM⟩
theorem IsS.butd {x : Addr} {l : List V} {v : V} {z : Int} (h : IsS M σ v z) (hl : σ x = some (.dict l)) (e : ExtBut x σ σ') : IsS M σ' v z := by
  obtain ⟨t, a, h1, h2, ⟨li, h3, h4⟩, h5⟩ := h
  exact ⟨t, a, h1, e _ _ (fun q => by rw [q, hl] at h2; cases h2) h2, ⟨li, e _ _ (fun q => by rw [q, hl] at h3; cases h3) h3, h4⟩, h5⟩
theorem IsSs.butd {x : Addr} {l : List V} {vs : List V} {xs : List Int} (h : IsSs M σ vs xs) (hl : σ x = some (.dict l)) (e : ExtBut x σ σ') : IsSs M σ' vs xs := ⟨h.1, fun i v y h1 h2 => (h.2 i v y h1 h2).butd hl e⟩
theorem IsLs.butd {x : Addr} {l : List V} {as : List Addr} {ls : List (List Int)} (h : IsLs M σ as ls) (hl : σ x = some (.dict l)) (e : ExtBut x σ σ') : IsLs M σ' as ls :=
  ⟨h.1, fun i a r h1 h2 => by
    obtain ⟨vs, q1, q2⟩ := h.2 i a r h1 h2
    exact ⟨vs, e _ _ (fun q => by rw [q, hl] at q1; cases q1) q1, q2.butd hl e⟩⟩
theorem IF.butd {x : Addr} {l l' : List V} {rs : List Addr} {ls : List (List Int)} (h : IF M σ rs ls) (hl : σ x = some (.dict l)) (e : ExtBut x σ σ') (e' : σ' x = some (.dict l')) : IF M σ' rs ls := ⟨h.rows.butd hl e, h.nought.butd hl e, h.live.but e e', h.rsM⟩
theorem IF.more {r : Addr} {o : AObj} {rs : List Addr} {ls : List (List Int)} (h : IF M σ rs ls) (hr : σ r = none) (e : Ext σ σ') (e' : σ' r = some o) : IF (fun m => M m ∨ m = r) σ' rs ls := by
  refine ⟨(h.rows.more hr).ext e, (h.nought.more hr).ext e, fun m hm => ?_, fun q hq z => ?_⟩
  · rcases hm with hm | hm
    · exact h.live.ext e m hm
    · rw [hm, e']; simp
  · rcases z with z | z
    · exact h.rsM q hq z
    · obtain ⟨i, hi, rfl⟩ := List.getElem_of_mem hq
      have h1 := List.getElem?_eq_getElem hi
      have h2 : i < ls.length := by rw [← h.rows.1]; exact hi
      obtain ⟨vs, q1, _⟩ := h.rows.2 i _ _ h1 (gl_some h2)
      rw [z, hr] at q1; cases q1
theorem sta {B : Addr → Prop} {x dx : Addr} {fs : List V} {k : Nat} {v : V} {Q : AHeap → Prop} (hB : B dx) (h1 : σ x = some (.inst dx)) (h2 : σ dx = some (.dict fs)) (hk : fs.length = k) (q : ∀ σ', ExtBut dx σ σ' → σ' dx = some (.dict (fs ++ [v])) → Q σ') :
    ∃ dx vs, (B dx ∧ σ x = some (.inst dx) ∧ σ dx = some (.dict vs) ∧ k ≤ vs.length) ∧ ∀ σ', ExtBut dx σ σ' → σ' dx = some (.dict (if k < vs.length then vs.set k v else vs ++ [v])) → Q σ' :=
  ⟨dx, fs, ⟨hB, h1, h2, by omega⟩, fun σ' e1 e2 => q σ' e1 (by rw [e2, if_neg (by omega)])⟩
end

section
variable {h0 : Heap} {prog : Program} {w : World} {mg mb : Str → Option Value} (G : Gd (KK w) h0 mg mb) {n : Nat}

set_option maxHeartbeats 1000000 in
include G in
theorem c_init {M : Addr → Prop} {s dx a : Addr} {as : List Addr} {ls : List (List Int)} {tp bt : Int} {σ : AHeap} {Q : V → AHeap → Prop} (hs : σ s = some (.inst dx)) (hdx : σ dx = some (.dict [])) (hB : Bs h0 dx) (ha : σ a = some (.list (as.map .ref))) (hl : IsLs M σ as ls) (hn : IsS M σ (.ref 214) 0) (hlive : Live M σ) (hlen : ls.length ≤ 1000)
    (ht : Bnd ML tp) (hb : Bnd ML bt)
    (hQ : ∀ M' A σ', (∀ m, M m → M' m) → (∀ m, M' m → M m ∨ σ m = none) → ExtBut dx σ σ' → LatAt h0 M' σ' s A ⟨ls, [1], [], tp, bt⟩ → Q .none σ') :
    CC prog w h0 (n + 3) (.ref 245) [.ref s, .ref a, .int tp, .int bt, .int 8, .ref 315, .ref 357] σ Q := by
  have hML := ML_eq
  refine enter G [some (.ref s), some (.ref a), some (.int tp), some (.int bt), some (.int 8), some (.ref 315), some (.ref 357)] (at_L_init__ _) rfl rfl ?_
  conv => whnf
  refine ⟨_, ha, ?_⟩
  refine ⟨by rw [List.length_map, List.length_map, hl.1]; show _ ≤ 16777216; omega, fun acc υ => Ext σ υ ∧ ∃ rs, acc = rs.map V.ref ∧ rs.length ≤ ls.length ∧ (∀ i r, rs[i]? = some r → ∃ vs, υ r = some (.list vs) ∧ IsSs M υ vs (gl ls i)) ∧ ∀ r ∈ rs, ¬ M r, ⟨.refl, [], rfl, Nat.zero_le _, fun i r h => by simp at h, fun r h => nomatch h⟩, ?_, ?_, ?_⟩
  · rintro acc υ ⟨he, _⟩
    exact he _ _ ha
  · rintro acc υ it ⟨he, rs, rfl, hle, hrs, hrM⟩ hit
    rw [List.length_map] at hit
    have hlt : rs.length < as.length := by
      rcases Nat.lt_or_ge rs.length as.length with q | q
      · exact q
      · rw [List.getElem?_eq_none (by simpa using q)] at hit; cases hit
    rw [List.getElem?_map, List.getElem?_map, ga_some hlt] at hit
    cases hit
    obtain ⟨_, vs, v1, v2⟩ := hl.at (i := rs.length) (by rw [← hl.1]; exact hlt)
    conv => whnf
    refine ⟨_, he _ _ v1, ?_⟩
    rw [cut_all]
    intro r υ' b1 n1 e1 y1
    refine ⟨he.trans e1, rs ++ [r], by simp, by rw [List.length_append, List.length_singleton, ← hl.1]; exact hlt, fun i q hq => ?_, fun q hq => ?_⟩
    · rcases Nat.lt_or_ge i rs.length with z | z
      · rw [List.getElem?_append_left z] at hq
        obtain ⟨us, u1, u2⟩ := hrs i q hq
        exact ⟨us, e1 _ _ u1, u2.ext e1⟩
      · rw [List.getElem?_append_right z] at hq
        rcases Nat.eq_zero_or_pos (i - rs.length) with y | y
        · rw [y] at hq; cases hq
          rw [show i = rs.length by omega]
          exact ⟨vs, y1, v2.ext (he.trans e1)⟩
        · rw [List.getElem?_eq_none (by simp; omega)] at hq; cases hq
    · rcases List.mem_append.mp hq with z | z
      · exact hrM q z
      · rw [List.mem_singleton.mp z]; exact (hlive.ext he).not n1
  · rintro acc υ ⟨he, rs, rfl, hle, hrs, hrM⟩ hlen'
    rw [List.length_map, List.length_map, List.length_map, hl.1] at hlen'
    intro aR σ1 b1 n1 e1 y1
    have F0 : IF M υ rs ls := ⟨⟨hlen', fun i r l h1 h2 => by
      obtain ⟨vs, q1, q2⟩ := hrs i r h1
      have hi : i < ls.length := by
        rcases Nat.lt_or_ge i ls.length with q | q
        · exact q
        · rw [List.getElem?_eq_none q] at h2; cases h2
      rw [gl_some hi] at h2; cases h2
      exact ⟨vs, q1, q2⟩⟩, hn.ext he, hlive.ext he, hrM⟩
    have F1 := F0.more n1 e1 y1
    have E1 := he.trans e1
    have nR := he.none n1
    conv => whnf
    refine sta hB (E1 _ _ hs) (E1 _ _ hdx) rfl fun σ2 x2 y2 => ?_
    have F2 := F1.butd (E1 _ _ hdx) x2 y2
    have E2 : ExtBut dx σ σ2 := fun x o hx ho => x2 x o hx (E1 x o ho)
    have sx : s ≠ dx := fun q => by rw [q, hdx] at hs; cases hs
    have rx : aR ≠ dx := fun q => by rw [q, he _ _ hdx] at n1; cases n1
    have yR := x2 _ _ rx y1
    conv => whnf
    refine CC.up (n := n + 2) (c_s_of G F2.live ht fun vt σ3 e3 i3 => ?_) (by omega)
    have F3 := F2.ext e3
    have d3 := e3 _ _ y2
    conv => whnf
    refine sta hB (e3 _ _ (E2 _ _ sx hs)) d3 rfl fun σ4 x4 y4 => ?_
    have F4 := F3.butd d3 x4 y4
    have i4 := i3.butd d3 x4
    conv => whnf
    refine CC.up (n := n + 2) (c_s_of G F4.live hb fun vb σ5 e5 i5 => ?_) (by omega)
    have F5 := F4.ext e5
    have d5 := e5 _ _ y4
    have s5 := e5 _ _ (x4 _ _ sx (e3 _ _ (E2 _ _ sx hs)))
    conv => whnf
    refine sta hB s5 d5 rfl fun σ6 x6 y6 => ?_
    have F6 := F5.butd d5 x6 y6
    have i6 := i5.butd d5 x6
    have t6 := (i4.ext e5).butd d5 x6
    have s6 := x6 _ _ sx s5
    have R6 := x6 _ _ rx (e5 _ _ (x4 _ _ rx (e3 _ _ yR)))
    have E6 : ExtBut dx σ σ6 := fun x o hx ho => x6 x o hx (e5 _ _ (x4 x o hx (e3 _ _ (E2 x o hx ho))))
    clear F0 F1 F2 F3 F4 F5 e1 y1 x2 E1 y2 E2 yR e3 i3 d3 x4 y4 i4 e5 i5 d5 s5 x6
    conv => whnf
    refine sta hB s6 y6 rfl fun σ7 x7 y7 => ?_
    have F7 := F6.butd y6 x7 y7
    conv => whnf
    refine sta hB (x7 _ _ sx s6) y7 rfl fun σ8 x8 y8 => ?_
    have F8 := F7.butd y7 x8 y8
    conv => whnf
    refine sta hB (x8 _ _ sx (x7 _ _ sx s6)) y8 rfl fun σ9 x9 y9 => ?_
    have F9 := F8.butd y8 x9 y9
    have i9 := ((i6.butd y6 x7).butd y7 x8).butd y8 x9
    have t9 := ((t6.butd y6 x7).butd y7 x8).butd y8 x9
    have s9 := x9 _ _ sx (x8 _ _ sx (x7 _ _ sx s6))
    have R9 := x9 _ _ rx (x8 _ _ rx (x7 _ _ rx R6))
    have E9 : ExtBut dx σ σ9 := fun x o hx ho => x9 x o hx (x8 x o hx (x7 x o hx (E6 x o hx ho)))
    conv => whnf
    intro l1 σ10 b10 n10 e10 y10
    intro t1 σ11 b11 n11 e11 y11
    intro aS σ12 b12 n12 e12 y12
    have F11 := (F9.ext e10).ext e11
    have F12 := F11.more n12 e12 y12
    have E10 := (e10.trans e11).trans e12
    have i12 := ((((i9.ext e10).ext e11).more n12).ext e12)
    have t12 := ((((t9.ext e10).ext e11).more n12).ext e12)
    have one : IsS (fun m => (M m ∨ m = aR) ∨ m = aS) σ12 (.ref t1) 1 := by
      have : IsS (fun m => M m ∨ m = aR) σ11 (.ref t1) 1 := ⟨t1, l1, rfl, y11, ⟨[1], e11 _ _ y10, ⟨Lo.one (by decide) (by decide), .inr (by decide)⟩, by decide⟩, F9.live.not n10⟩
      exact (this.more n12).ext e12
    have d12 := E10 _ _ y9
    have s12 := E10 _ _ s9
    have R12 := E10 _ _ R9
    have Sx : aS ≠ dx := fun q => by rw [q, e11 _ _ (e10 _ _ y9)] at n12; cases n12
    have SR : aR ≠ aS := fun q => by rw [← q, e11 _ _ (e10 _ _ R9)] at n12; cases n12
    conv => whnf
    refine sta hB s12 d12 rfl fun σ13 x13 y13 => ?_
    have F13 := F12.butd d12 x13 y13
    have i13 := i12.butd d12 x13
    have t13 := t12.butd d12 x13
    have o13 := one.butd d12 x13
    have s13 := x13 _ _ sx s12
    have R13 := x13 _ _ rx R12
    have S13 := x13 _ _ Sx y12
    have E13 : ExtBut dx σ σ13 := fun x o hx ho => x13 x o hx (E10 _ _ (E9 x o hx ho))
    conv => whnf
    intro aP σ14 b14 n14 e14 y14
    have F14 := F13.more n14 e14 y14
    have Px : aP ≠ dx := fun q => by rw [q, y13] at n14; cases n14
    have PR : aR ≠ aP := fun q => by rw [← q, R13] at n14; cases n14
    have PS : aS ≠ aP := fun q => by rw [← q, S13] at n14; cases n14
    have d14 := e14 _ _ y13
    conv => whnf
    refine sta hB (e14 _ _ s13) d14 rfl fun σ15 x15 y15 => ?_
    have F15 := F14.butd d14 x15 y15
    have E15 : ExtBut dx σ σ15 := fun x o hx ho => x15 x o hx (e14 _ _ (E13 x o hx ho))
    have nS : σ aS = none := by
      cases q : σ aS with
      | none => rfl
      | some o => have := e11 _ _ (e10 _ _ (E9 _ _ Sx q)); rw [this] at n12; cases n12
    have nP : σ aP = none := by
      cases q : σ aP with
      | none => rfl
      | some o => have := E13 _ _ Px q; rw [this] at n14; cases n14
    conv => whnf
    refine hQ (fun m => ((M m ∨ m = aR) ∨ m = aS) ∨ m = aP) ⟨dx, aR, aS, aP, .ref vt, .ref vb, rs, []⟩ σ15 (fun m hm => .inl (.inl (.inl hm))) (fun m hm => ?_) E15 ?_
    · rcases hm with ((hm | hm) | hm) | hm
      · exact .inl hm
      · right; rw [hm]; exact nR
      · right; rw [hm]; exact nS
      · right; rw [hm]; exact nP
    · refine { inst := x15 _ _ sx (e14 _ _ s13), dict := by rw [y15]; rfl, rows := x15 _ _ rx (e14 _ _ R13), rowsL := F15.rows, sizes := ⟨[.ref t1], x15 _ _ Sx (e14 _ _ S13), ?_⟩, parts := x15 _ _ Px y14, partsL := ⟨rfl, fun i a l h1 => by simp at h1⟩, top := (((t13.more n14).ext e14).butd d14 x15), bot := (((i13.more n14).ext e14).butd d14 x15), nought := F15.nought, live := F15.live, mu := ⟨.inl (.inl (.inr rfl)), .inl (.inr rfl), .inr rfl, fun p hp => nomatch hp⟩, nd := ?_, rsM := F15.rsM, bs := ⟨b1, b12, b14, fun p hp => nomatch hp⟩ }
      · exact IsSs.nil.snoc (((o13.more n14).ext e14).butd d14 x15)
      · simp only [List.nodup_cons, List.mem_cons, List.not_mem_nil, not_or, not_false_eq_true, List.nodup_nil, and_true]
        exact ⟨⟨SR, PR⟩, PS⟩

include G in
theorem c_Lattice {M : Addr → Prop} {a : Addr} {as : List Addr} {ls : List (List Int)} {tp bt : Int} {σ : AHeap} {Q : V → AHeap → Prop} (ha : σ a = some (.list (as.map .ref))) (hl : IsLs M σ as ls) (hn : IsS M σ (.ref 214) 0) (hlive : Live M σ) (hlen : ls.length ≤ 1000) (ht : Bnd ML tp) (hb : Bnd ML bt)
    (hQ : ∀ M' A s σ', (∀ m, M m → M' m) → (∀ m, M' m → M m ∨ σ m = none) → Ext σ σ' → LatAt h0 M' σ' s A ⟨ls, [1], [], tp, bt⟩ → Q (.ref s) σ') :
    CC prog w h0 (n + 4) (.ref 304) [.ref a, .int tp, .int bt, .int 8, .ref 315, .ref 357] σ Q := by
  rw [CC_eq]
  refine cls_sem G (k_makes _) (k_keeps _) (k_init _) (k_initT _) fun s dx σ1 bs bd n1 n2 hne e1 y1 y2 => ?_
  rw [← CC_eq]
  refine c_init G y1 y2 bd (e1 _ _ ha) (hl.ext e1) (hn.ext e1) (hlive.ext e1) hlen ht hb fun M' A σ2 s1 f1 x1 L1 => ⟨rfl, hQ M' A s σ2 s1 (fun m hm => ?_) (fun x o e => x1 x o (fun q => by rw [q, n2] at e; cases e) (e1 _ _ e)) L1⟩
  rcases f1 m hm with q | q
  · exact .inl q
  · exact .inr (e1.none q)
end
end Mine
end
section
set_option maxRecDepth 100000
namespace Mine
open PySem PySem.W PyProof.Rows PySem.Calls

def digs (n : Nat) : List Int := if h : n = 0 then [] else ((n % 256 : Nat) : Int) :: digs (n / 256)
termination_by n
decreasing_by omega
theorem digs_zero : digs 0 = [] := by unfold digs; rw [dif_pos rfl]
theorem digs_pos {n : Nat} (h : 0 < n) : digs n = ((n % 256 : Nat) : Int) :: digs (n / 256) := by
  rw [digs, dif_neg (by omega)]
theorem digs_lo (n : Nat) : Lo (digs n) := by
  induction n using Nat.strongRecOn with
  | _ n ih =>
    rcases Nat.eq_zero_or_pos n with q | q
    · subst q; rw [digs_zero]; exact Lo.nil
    · rw [digs_pos q]
      intro d hd
      rcases List.mem_cons.mp hd with e | hd
      · subst e; omega
      · exact ih (n / 256) (by omega) d hd
theorem digs_val (n : Nat) : val (digs n) = n := by
  induction n using Nat.strongRecOn with
  | _ n ih =>
    rcases Nat.eq_zero_or_pos n with q | q
    · subst q; rw [digs_zero]; rfl
    · rw [digs_pos q, val, ih (n / 256) (by omega)]
      omega
theorem digs_nrm (n : Nat) : Nrm (digs n) := by
  refine Nrm.of_ge (digs_lo n) fun _ => ?_
  rw [digs_val]
  induction n using Nat.strongRecOn with
  | _ n ih =>
    rcases Nat.eq_zero_or_pos n with q | q
    · subst q; rw [digs_zero] at *; contradiction
    · rw [digs_pos q, List.length_cons, Nat.add_sub_cancel]
      rcases Nat.eq_zero_or_pos (n / 256) with z | z
      · rw [z, digs_zero]; simp; omega
      · have := ih (n / 256) (by omega) (by rw [digs_pos z]; simp)
        have hl : 0 < (digs (n / 256)).length := by rw [digs_pos z]; simp
        have e : (256 : Int) ^ (digs (n / 256)).length = 256 ^ ((digs (n / 256)).length - 1) * 256 := by rw [← pow_s]; congr 1; omega
        rw [e]; omega

theorem map_get {l : List V} {k : Nat} {it : List V} (h : (l.map fun v => [v])[k]? = some it) : ∃ v, l[k]? = some v ∧ it = [v] := by
  rw [List.getElem?_map] at h
  obtain ⟨v, h1, rfl⟩ := Option.map_eq_some_iff.mp h
  exact ⟨v, h1, rfl⟩
theorem cut_init {l : List V} (h : l ≠ []) : cut l none (some (-1)) = l.take (l.length - 1) := by
  have hp : 0 < l.length := List.length_pos_iff.mpr h
  have e1 : cutHi (some (-1)) l.length = l.length - 1 := by
    unfold cutHi; dsimp only; rw [if_pos (by decide)]; rfl
  rw [cut, e1]
  simp [cutLo]

section
variable {h0 : Heap} {prog : Program} {w : World} {mg mb : Str → Option Value} (G : Gd (KK w) h0 mg mb) {n : Nat}

include G in
theorem c_raked {h l : Addr} {c m : Int} {ds : List Int} {σ : AHeap} {Q : V → AHeap → Prop} (hB : Bs h0 h) (hh : σ h = some (.list [.int c, .ref l])) (hl : σ l = some (iL ds)) (hlh : l ≠ h) (c0 : 0 ≤ c) (hm : 0 < m)
    (hQ : ∀ v σ', 0 ≤ v → v < m → ExtBut h σ σ' → σ' h = some (.list [.int (c + 1), .ref l]) → Q (.int v) σ') : CC prog w h0 (n + 1) (.ref 364) [.ref h, .int m] σ Q := by
  refine enter G [some (.ref h), some (.int m)] (at_law_raked _) rfl rfl ?_
  conv => whnf
  refine ixL hh 0 _ rfl rfl ?_
  conv => whnf
  refine stL hB hh 0 rfl (by simp) fun σ1 x1 y1 => ?_
  have y1 : σ1 h = some (.list [.int (c + 1), .ref l]) := y1
  have l1 := x1 _ _ hlh hl
  conv => whnf
  refine ixL y1 0 _ rfl rfl ?_
  conv => whnf
  refine ixL y1 1 _ rfl rfl ?_
  conv => whnf
  refine ⟨_, l1, ?_⟩
  conv => whnf
  simp only [List.length_map]
  refine ⟨fun e => ?_, fun e => ?_⟩
  · have e := of_decide_eq_true e
    conv => whnf
    refine ixL y1 1 _ rfl rfl ?_
    conv => whnf
    refine ixL y1 0 _ rfl rfl ?_
    conv => whnf
    refine ix l1 c.toNat (by omega) (by omega) ?_
    conv => whnf
    refine ⟨by omega, ?_⟩
    rw [fmod_pos (by omega)]
    exact hQ _ σ1 (Int.emod_nonneg _ (by omega)) (Int.emod_lt_of_pos _ hm) x1 y1
  · conv => whnf
    refine ixL y1 0 _ rfl rfl ?_
    conv => whnf
    refine ⟨mulFits_small (by decide) (by decide), ?_⟩
    conv => whnf
    refine ixL y1 0 _ rfl rfl ?_
    conv => whnf
    refine ⟨⟨by decide, by decide⟩, ?_⟩
    conv => whnf
    refine ⟨by omega, ?_⟩
    rw [fmod_pos (by omega)]
    exact hQ _ σ1 (Int.emod_nonneg _ (by omega)) (Int.emod_lt_of_pos _ hm) x1 y1

include G in
theorem c_law_signed {M : Addr → Prop} {x : Int} {σ : AHeap} {Q : V → AHeap → Prop} (hL : Live M σ) (hx : Bnd ML x)
    (hQ : ∀ t r σ', Ext σ σ' → σ' t = some (.tup [.bool (decide (x < 0)), .ref r]) → σ' r = some (iL (digs x.natAbs)) → IsS M σ' (.ref t) x → Q (.ref t) σ') : CC prog w h0 (n + 1) (.ref 371) [.int x] σ Q := by
  have hML := ML_eq
  have hlen : (digs x.natAbs).length ≤ ML := (digs_nrm _).len_le (by rw [digs_val]; exact hx)
  refine enter G [some (.int x), none, none] (at_law_signed _) rfl rfl ?_
  conv => whnf
  intro f τ f1 f2 f3 f4
  conv => whnf
  refine ⟨fun m ρ υ => ∃ L, ρ = [some (.int x), some (.ref f), some (.int (m : Nat))] ∧ Ext σ υ ∧ υ f = some (iL L) ∧ L ++ digs m = digs x.natAbs,
    fun ρ υ => ρ = [some (.int x), some (.ref f), some (.int 0)] ∧ Ext σ υ ∧ υ f = some (iL (digs x.natAbs)), ⟨x.natAbs, [], rfl, f3, f4, rfl⟩, ?_, ?_⟩
  · rintro m _ υ ⟨L, rfl, he, hL', hd⟩
    conv => whnf
    refine ⟨fun e => ?_, fun e => ?_⟩
    · have e := of_decide_eq_true e
      have hm : 0 < m := by omega
      rw [digs_pos hm] at hd
      have hl2 : L.length < ML := by
        have := congrArg List.length hd
        rw [List.length_append, List.length_cons] at this
        omega
      conv => whnf
      refine ⟨⟨_, hL'⟩, ?_⟩
      conv => whnf
      refine ⟨by decide, ?_⟩
      conv => whnf
      refine apx f1 hL' (by rw [List.length_map]; omega) fun υ' x1 y1 => ?_
      rw [map_snoc, fmod_pos (by decide), show (m : Int) % 256 = ((m % 256 : Nat) : Int) by omega] at y1
      conv => whnf
      refine ⟨rfl, ?_⟩
      conv => whnf
      refine ⟨⟨by decide, by decide⟩, ?_⟩
      rw [fdiv_pos (by decide), show (m : Int) / 256 = ((m / 256 : Nat) : Int) by omega]
      exact ⟨m / 256, by omega, _, rfl, he.but x1 f2, y1, by rw [List.append_assoc]; exact hd⟩
    · have e := of_decide_eq_false e
      have hm : m = 0 := by omega
      subst hm
      rw [digs_zero, List.append_nil] at hd
      subst hd
      exact ⟨rfl, he, hL'⟩
  · rintro _ υ ⟨rfl, he, hL'⟩
    conv => whnf
    intro t σ' t1 t2 t3 t4
    refine hQ t f σ' (he.trans t3) t4 (t3 _ _ hL') ⟨t, f, rfl, t4, ⟨_, t3 _ _ hL', digs_nrm _, digs_val _⟩, hL.not f2⟩

theorem sum_val : ∀ (l : List Int) (k : Nat), ((l.mapIdx fun i d => d * 256 ^ (k + i)).sum : Int) = 256 ^ k * val l
  | [], k => by simp [val]
  | d :: r, k => by
    rw [List.mapIdx_cons, List.sum_cons, val]
    have := sum_val r (k + 1)
    rw [show (fun i d => d * (256 : Int) ^ (k + (i + 1))) = (fun i d => d * (256 : Int) ^ (k + 1 + i)) from funext fun i => by rw [show k + (i + 1) = k + 1 + i by omega], this, pow_s]
    grind

include G in
theorem c_plain {M : Addr → Prop} {v : V} {z : Int} {σ : AHeap} {Q : V → AHeap → Prop} (hv : IsS M σ v z) (hb : Bnd (4 * KB) z) (hQ : ∀ σ', Ext σ σ' → Q (.int z) σ') : CC prog w h0 (n + 1) (.ref 376) [v] σ Q := by
  have hKB := KB_eq
  obtain ⟨t, a, rfl, ht, ⟨l, hl, nl, vl⟩, _⟩ := hv
  have ll : l.length ≤ 4 * KB := nl.len_le (by rw [vl]; exact hb)
  refine enter G [some (.ref t), none] (at_law_plain _) rfl rfl ?_
  conv => whnf
  refine ixT ht 1 _ rfl rfl ?_
  conv => whnf
  refine ⟨_, hl, ?_⟩
  refine ⟨by rw [enum_len, List.length_map]; show _ ≤ 16777216; omega, fun acc υ => Ext σ υ ∧ acc.length ≤ l.length ∧ acc = ((l.mapIdx fun i d => d * (256 : Int) ^ (0 + i)).take acc.length).map .int, ⟨.refl, Nat.zero_le _, rfl⟩, ?_, ?_, ?_⟩
  · rintro acc υ ⟨he, _⟩
    exact he _ _ hl
  · rintro acc υ it ⟨he, hle, ha⟩ hit
    obtain ⟨hlt, rfl⟩ := enum_get hit
    have b1 := gt_lo nl.1 acc.length
    conv => whnf
    refine ⟨⟨by omega, ?_⟩, ?_⟩
    · have : bitsI 256 ≤ 9 := bits_le (by decide)
      have h2 : (bitsI 256 : Int) * acc.length ≤ 9 * acc.length := Int.mul_le_mul_of_nonneg_right (by omega) (by omega)
      show (bitsI 256 : Int) * acc.length ≤ 67108864
      omega
    conv => whnf
    refine ⟨mulFits_small (by omega) (by omega), ?_⟩
    refine ⟨he, by rw [List.length_append, List.length_singleton]; omega, ?_⟩
    rw [Int.toNat_natCast, List.length_append, List.length_singleton, List.take_succ_eq_append_getElem (by rw [List.length_mapIdx]; exact hlt), List.map_append, ← ha, List.getElem_mapIdx, gt_eq]
    simp
  · rintro acc υ ⟨he, hle, ha⟩ hlen
    rw [enum_len, List.length_map] at hlen
    intro s σ1 s1 s2 s3 s4
    rw [ha, hlen, List.take_of_length_le (by rw [List.length_mapIdx]; exact Nat.le_refl _)] at s4
    conv => whnf
    refine ⟨_, s4, ?_⟩
    rw [sum_val, Int.pow_zero, Int.one_mul, vl]
    conv => whnf
    refine ixT (s3 _ _ (he _ _ ht)) 0 _ rfl rfl ?_
    conv => whnf
    refine ⟨fun e => ?_, fun e => ?_⟩
    · have e := of_decide_eq_true e
      conv => whnf
      rw [show (0 : Int) - (z.natAbs : Int) = z by omega]
      exact hQ σ1 (he.trans s3)
    · have e := of_decide_eq_false e
      conv => whnf
      rw [show (z.natAbs : Int) = z by omega]
      exact hQ σ1 (he.trans s3)

include G in
theorem c_sizes {M : Addr → Prop} {s : Addr} {A : LA} {L : LC} {σ : AHeap} {Q : V → AHeap → Prop} (h : LatAt h0 M σ s A L) (hb : BndL L) (hl : L.sizes.length ≤ 1000) (hQ : ∀ r σ', Bs h0 r → σ r = none → Ext σ σ' → σ' r = some (iL L.sizes) → Q (.ref r) σ') :
    CC prog w h0 (n + 2) (.ref 391) [.ref s] σ Q := by
  obtain ⟨ss, hss, hS⟩ := h.sizes
  refine enter G [some (.ref s)] (at_law_sizes _) rfl rfl ?_
  conv => whnf
  refine h.aSx ?_
  refine ⟨_, hss, ?_⟩
  refine ⟨by rw [List.length_map, hS.1]; show _ ≤ 16777216; omega, fun acc υ => Ext σ υ ∧ acc.length ≤ L.sizes.length ∧ acc = (L.sizes.take acc.length).map .int, ⟨.refl, Nat.zero_le _, rfl⟩, ?_, ?_, ?_⟩
  · rintro acc υ ⟨he, _⟩
    exact he _ _ hss
  · rintro acc υ it ⟨he, hle, ha⟩ hit
    obtain ⟨v, hv, rfl⟩ := map_get hit
    have hlt : acc.length < L.sizes.length := by
      rw [← hS.1]
      rcases Nat.lt_or_ge acc.length ss.length with q | q
      · exact q
      · rw [List.getElem?_eq_none q] at hv; cases hv
    conv => whnf
    refine c_plain G ((hS.2 _ _ _ hv (gt_some hlt)).ext he) ((hb.sizes _).mono (by omega)) fun υ' e => ?_
    refine ⟨he.trans e, by rw [List.length_append, List.length_singleton]; omega, ?_⟩
    rw [List.length_append, List.length_singleton, List.take_succ_eq_append_getElem hlt, List.map_append, ← ha, gt_eq]
    rfl
  · rintro acc υ ⟨he, hle, ha⟩ hlen
    rw [List.length_map, hS.1] at hlen
    intro r σ' r1 r2 r3 r4
    rw [ha, hlen, List.take_of_length_le (Nat.le_refl _)] at r4
    exact hQ r σ' r1 (he.none r2) (he.trans r3) r4

def prodI (l : List Int) : Int := l.foldl (· * ·) 1
include G in
theorem c_product {a : Addr} {l : List Int} {σ : AHeap} {Q : V → AHeap → Prop} (ha : σ a = some (iL l)) (hne : l ≠ []) (hf : ∀ k, k < l.length - 1 → mulFits (prodI (l.take k)) (gt l k)) (hQ : ∀ σ', Ext σ σ' → Q (.int (prodI (l.take (l.length - 1)))) σ') : CC prog w h0 (n + 1) (.ref 398) [.ref a] σ Q := by
  refine enter G [some (.ref a), none, none] (at_law_product _) rfl rfl ?_
  conv => whnf
  refine ⟨_, ha, ?_⟩
  intro b σ1 b1 b2 b3 b4
  rw [cut_init (by simpa using hne), List.length_map, ← List.map_take] at b4
  conv => whnf
  refine ⟨_, b4, ?_⟩
  refine ⟨fun k ρ υ => ∃ u, ρ = [some (.ref a), some (.int (prodI (l.take k))), u] ∧ Ext σ1 υ ∧ k ≤ l.length - 1, ⟨none, rfl, .refl, Nat.zero_le _⟩, ?_, ?_, ?_⟩
  · rintro k _ υ ⟨u, rfl, he, _⟩
    exact he _ _ b4
  · rintro k _ υ it ⟨u, rfl, he, hk⟩ hit
    obtain ⟨v, hv, rfl⟩ := map_get hit
    have hlt : k < l.length - 1 := by
      rcases Nat.lt_or_ge k (l.length - 1) with q | q
      · exact q
      · rw [List.getElem?_eq_none (by simp; omega)] at hv; cases hv
    rw [List.getElem?_map, List.getElem?_take, if_pos hlt, gt_some (by omega)] at hv
    cases hv
    conv => whnf
    refine ⟨hf k hlt, ?_⟩
    refine ⟨some (.int (gt l k)), ?_, he, hlt⟩
    · rw [List.take_succ_eq_append_getElem (by omega), gt_eq]
      have e : prodI (l.take k ++ [gt l k]) = prodI (l.take k) * gt l k := by
        unfold prodI; rw [List.foldl_append]; rfl
      rw [e]
      rfl
  · rintro _ υ ⟨u, rfl, he, hk⟩
    conv => whnf
    rw [List.length_map, List.length_map, List.length_take, Nat.min_eq_left (by omega)]
    exact hQ υ (b3.trans he)
end
end Mine
end
section
set_option maxRecDepth 100000
namespace Mine
open PySem PySem.W PyProof.Rows PySem.Calls

def minor (rows : List (List Int)) (c : Nat) : List (List Int) := (rows.drop 1).map fun r => r.take c ++ r.drop (c + 1)
def wSum (f : Nat → Int) : Nat → Int
  | 0 => 0
  | k + 1 => wSum f k + f k
def detN : Nat → List (List Int) → Int
  | 0, rows => gt (gl rows 0) 0
  | m + 1, rows => wSum (fun c => (if (c : Int) % 2 = 0 then gt (gl rows 0) c else 0 - gt (gl rows 0) c) * detN m (minor rows c)) (m + 2)

def IsM (σ : AHeap) (a : Addr) (rows : List (List Int)) : Prop := ∃ as : List Addr, σ a = some (.list (as.map .ref)) ∧ as.length = rows.length ∧ ∀ i, i < rows.length → σ (ga as i) = some (iL (gl rows i))
theorem IsM.ext {σ σ' : AHeap} {a : Addr} {rows : List (List Int)} (h : IsM σ a rows) (e : Ext σ σ') : IsM σ' a rows := by
  obtain ⟨as, h1, h2, h3⟩ := h; exact ⟨as, e _ _ h1, h2, fun i hi => e _ _ (h3 i hi)⟩

theorem minor_len (rows : List (List Int)) (c : Nat) : (minor rows c).length = rows.length - 1 := by unfold minor; simp
theorem gl_minor {rows : List (List Int)} {c i : Nat} (h : i + 1 < rows.length) : gl (minor rows c) i = (gl rows (i + 1)).take c ++ (gl rows (i + 1)).drop (c + 1) := by
  unfold minor
  have : ((rows.drop 1).map fun r => r.take c ++ r.drop (c + 1))[i]? = some ((gl rows (i + 1)).take c ++ (gl rows (i + 1)).drop (c + 1)) := by
    rw [List.getElem?_map, List.getElem?_drop, Nat.add_comm 1 i, gl_some h]; rfl
  unfold gl at this ⊢
  rw [List.getD_eq_getElem?_getD, this]; rfl

def bdW (k : Nat) : Nat → Nat
  | 0 => k
  | m + 1 => k + bdW k m + (m + 2)
theorem bits_bnd {k : Nat} {x : Int} (h : Bnd k x) : bitsI x ≤ 8 * k := by
  refine bits_le ?_
  unfold Bnd at h
  have e : (256 : Int) ^ k = ((2 ^ (8 * k) : Nat) : Int) := by
    rw [Nat.pow_mul, Int.natCast_pow]; rfl
  rw [e] at h
  exact Int.ofNat_lt.mp h
theorem Bnd.sgn {k : Nat} {x : Int} {c : Prop} [Decidable c] (h : Bnd k x) : Bnd k (if c then x else 0 - x) := by
  split
  · exact h
  · rw [Int.zero_sub]; exact h.neg
theorem wSum_bnd {f : Nat → Int} {k : Nat} : ∀ j, (∀ i, i < j → Bnd k (f i)) → Bnd (k + j) (wSum f j)
  | 0, _ => by simp [wSum, Bnd]; exact pow_pos' _
  | j + 1, h => Bnd.add (wSum_bnd j fun i hi => h i (by omega)) ((h j (by omega)).mono (Nat.le_add_right k j))
theorem gl_out {l : List (List Int)} {j : Nat} (h : l.length ≤ j) : gl l j = [] := by
  unfold gl; rw [List.getD_eq_getElem?_getD, List.getElem?_eq_none h]; rfl
theorem Bnd.zero {k : Nat} : Bnd k 0 := by simp [Bnd]; exact pow_pos' _
theorem gt_skip {l : List Int} {c j k : Nat} (h : ∀ i, Bnd k (gt l i)) : Bnd k (gt (l.take c ++ l.drop (c + 1)) j) := by
  rcases Nat.lt_or_ge j (l.take c).length with q | q
  · rw [gt_append_left q, gt_take (by rw [List.length_take] at q; omega)]; exact h _
  · rw [gt_append_right q, gt_drop]; exact h _
theorem minor_bnd {rows : List (List Int)} {k c : Nat} (h : ∀ i j, Bnd k (gt (gl rows i) j)) : ∀ i j, Bnd k (gt (gl (minor rows c) i) j) := fun i j => by
  rcases Nat.lt_or_ge (i + 1) rows.length with q | q
  · rw [gl_minor q]; exact gt_skip (h _)
  · rw [gl_out (by rw [minor_len]; omega)]; exact Bnd.zero
theorem detN_bnd {k : Nat} : ∀ m rows, (∀ i j, Bnd k (gt (gl rows i) j)) → Bnd (bdW k m) (detN m rows)
  | 0, rows, h => h 0 0
  | m + 1, rows, h => wSum_bnd (m + 2) fun i _ => Bnd.mul (h 0 i).sgn (detN_bnd m _ (minor_bnd h))

theorem cut_from {l : List V} {e : Nat} {j : Int} (hj : j = (e : Int)) : cut l (some j) none = l.drop e := by
  subst hj
  have e1 : cutLo (some (e : Int)) l.length = min e l.length := by
    unfold cutLo; dsimp only; rw [if_neg (by omega), Int.toNat_natCast]
  rw [cut, e1]
  simp only [cutHi]
  rcases Nat.le_total e l.length with q | q
  · rw [Nat.min_eq_left q]; exact List.take_of_length_le (by simp)
  · rw [Nat.min_eq_right q, List.drop_of_length_le q, List.drop_length]; simp
theorem cut_to' {l : List V} {e : Nat} {j : Int} (hj : j = (e : Int)) : cut l none (some j) = l.take e := by
  subst hj
  have e1 : cutHi (some (e : Int)) l.length = min e l.length := by
    unfold cutHi; dsimp only; rw [if_neg (by omega), Int.toNat_natCast]
  rw [cut, e1]
  simp only [cutLo, Nat.sub_zero, List.drop_zero]
  rcases Nat.le_total e l.length with q | q
  · rw [Nat.min_eq_left q]
  · rw [Nat.min_eq_right q, List.take_of_length_le q, List.take_length]

section
variable {h0 : Heap} {prog : Program} {w : World} {mg mb : Str → Option Value} (G : Gd (KK w) h0 mg mb) {n : Nat}

include G in
theorem c_worth {k : Nat} : ∀ (m : Nat) {a : Addr} {rows : List (List Int)} {σ : AHeap} {Q : V → AHeap → Prop}, IsM σ a rows → rows.length = m + 1 → (∀ i, i < m + 1 → (gl rows i).length = m + 1) → (∀ i j, Bnd k (gt (gl rows i) j)) → 8 * (k + bdW k m) ≤ 2 ^ 26 → m ≤ 1000 →
    (∀ σ', Ext σ σ' → Q (.int (detN m rows)) σ') → CC prog w h0 (n + m + 1) (.ref 381) [.ref a] σ Q
  | 0, a, rows, σ, Q, hM, hr, hl, hb, hk, _, hQ => by
    obtain ⟨as, h1, h2, h3⟩ := hM
    have l0 := hl 0 (by omega)
    refine enter G [some (.ref a), none, none, none, none] (at_law_worth _) rfl rfl ?_
    conv => whnf
    refine ⟨_, h1, ?_⟩
    conv => whnf
    simp only [List.length_map]
    refine ⟨fun _ => ?_, fun e => absurd (of_decide_eq_false e) (by omega)⟩
    conv => whnf
    refine ixR h1 0 rfl (by omega) ?_
    conv => whnf
    refine ix (h3 0 (by omega)) 0 rfl (by omega) ?_
    exact hQ σ .refl
  | m + 1, a, rows, σ, Q, hM, hr, hl, hb, hk, hm9, hQ => by
    obtain ⟨as, h1, h2, h3⟩ := hM
    have l0 := hl 0 (by omega)
    have hk' : 8 * (k + bdW k m) ≤ 2 ^ 26 := by
      have : bdW k (m + 1) = k + bdW k m + (m + 2) := rfl
      omega
    refine enter G [some (.ref a), none, none, none, none] (at_law_worth _) rfl rfl ?_
    conv => whnf
    refine ⟨_, h1, ?_⟩
    conv => whnf
    simp only [List.length_map]
    refine ⟨fun e => absurd (of_decide_eq_true e) (by omega), fun _ => ?_⟩
    conv => whnf
    refine ixR h1 0 rfl (by omega) ?_
    refine ⟨_, h3 0 (by omega), ?_⟩
    refine ⟨fun c ρ υ => ∃ u2 u3 u4, ρ = [some (.ref a), some (.int (wSum (fun c => (if (c : Int) % 2 = 0 then gt (gl rows 0) c else 0 - gt (gl rows 0) c) * detN m (minor rows c)) c)), u2, u3, u4] ∧ Ext σ υ ∧ c ≤ m + 2,
      ⟨none, none, none, rfl, .refl, Nat.zero_le _⟩, ?_, ?_, ?_⟩
    · rintro c _ υ ⟨u2, u3, u4, rfl, he, _⟩
      exact he _ _ (h3 0 (by omega))
    · rintro c _ υ it ⟨u2, u3, u4, rfl, he, hc⟩ hit
      obtain ⟨hcl, rfl⟩ := enum_get hit
      rw [l0] at hcl
      conv => whnf
      refine ⟨_, he _ _ h1, ?_⟩
      rw [cut_from (j := 1) (e := 1) rfl]
      intro z υ1 z1 z2 z3 z4
      rw [← List.map_drop] at z4
      refine ⟨_, z4, ?_⟩
      refine ⟨by rw [List.length_map, List.length_map, List.length_drop]; show _ ≤ 16777216; omega, fun acc ω => Ext υ1 ω ∧ acc.length ≤ m + 1 ∧ ∃ rs : List Addr, acc = rs.map .ref ∧ ∀ i, i < rs.length → ω (ga rs i) = some (iL (gl (minor rows c) i)), ⟨.refl, Nat.zero_le _, [], rfl, fun i h => by simp at h⟩, ?_, ?_, ?_⟩
      · rintro acc ω ⟨hω, _⟩
        exact hω _ _ z4
      · rintro acc ω it ⟨hω, hle, rs, rfl, hrs⟩ hit
        obtain ⟨v, hv, rfl⟩ := map_get hit
        rw [List.length_map] at hv hle
        have hlt : rs.length < m + 1 := by
          rcases Nat.lt_or_ge rs.length (m + 1) with q | q
          · exact q
          · rw [List.getElem?_eq_none (by simp; omega)] at hv; cases hv
        rw [List.getElem?_map, List.getElem?_drop, ga_some (by omega)] at hv
        cases hv
        have hrow := hω _ _ (z3 _ _ (he _ _ (h3 (1 + rs.length) (by omega))))
        have lrow := hl (1 + rs.length) (by omega)
        conv => whnf
        refine ⟨_, hrow, ?_⟩
        rw [cut_to' (j := (c : Int)) (e := c) rfl, ← List.map_take]
        intro p ω1 p1 p2 p3 p4
        conv => whnf
        refine ⟨_, p3 _ _ hrow, ?_⟩
        rw [cut_from (j := (c : Int) + 1) (e := c + 1) (by omega), ← List.map_drop]
        intro q ω2 q1 q2 q3 q4
        conv => whnf
        refine ⟨_, _, ⟨q3 _ _ p4, q4, by simp; show _ ≤ 16777216; omega⟩, ?_⟩
        intro r ω3 r1 r2 r3 r4
        rw [← List.map_append] at r4
        have e3 := (p3.trans q3).trans r3
        refine ⟨hω.trans e3, by rw [List.length_append, List.length_map, List.length_singleton]; omega, rs ++ [r], by simp, fun i hi => ?_⟩
        rw [List.length_append, List.length_singleton] at hi
        rcases Nat.lt_or_ge i rs.length with y | y
        · have : ga (rs ++ [r]) i = ga rs i := by
            unfold ga; rw [List.getD_eq_getElem?_getD, List.getD_eq_getElem?_getD, List.getElem?_append_left y]
          rw [this]; exact e3 _ _ (hrs i y)
        · have ei : i = rs.length := by omega
          subst ei
          have : ga (rs ++ [r]) rs.length = r := by
            unfold ga; rw [List.getD_eq_getElem?_getD, List.getElem?_append_right (Nat.le_refl _)]; simp
          rw [this, r4, gl_minor (by omega), Nat.add_comm 1 rs.length]
      · rintro acc ω ⟨hω, hle, rs, rfl, hrs⟩ hlen
        rw [List.length_map, List.length_map, List.length_map, List.length_drop] at hlen
        intro t ω1 t1 t2 t3 t4
        have eω := ((he.trans z3).trans hω).trans t3
        have hM' : IsM ω1 t (minor rows c) := ⟨rs, t4, by rw [minor_len]; omega, fun i hi => t3 _ _ (hrs i (by rw [minor_len] at hi; omega))⟩
        conv => whnf
        refine ⟨by decide, ?_⟩
        conv => whnf
        refine joinV (P := (fun v τ => ω1 = τ ∧ v = .int (if (c : Int) % 2 = 0 then gt (gl rows 0) c else 0 - gt (gl rows 0) c))) (F := fun N => (decide _ = true → wpE _ _ _ _ _ N) ∧ (decide _ = false → wpE _ _ _ _ _ N)) ?_ ?_
        · intro N hN
          rw [fmod_pos (by decide)]
          refine ⟨fun e => ?_, fun e => ?_⟩
          · have e := of_decide_eq_true e
            exact hN _ _ ⟨rfl, by rw [if_pos e]⟩
          · have e := of_decide_eq_false e
            exact hN _ _ ⟨rfl, by rw [if_neg e]⟩
        · rintro _ _ ⟨rfl, rfl⟩
          conv => whnf
          refine CC.up (n := n + m + 1) (c_worth m hM' (by rw [minor_len]; omega) (fun i hi => ?_) (minor_bnd hb) hk' (by omega) fun ω2 e2 => ?_) (by omega)
          · rw [gl_minor (by omega), List.length_append, List.length_take, List.length_drop, hl (i + 1) (by omega)]; omega
          conv => whnf
          refine ⟨.inr (.inr ?_), ?_⟩
          · have a1 := bits_bnd (k := k) (x := if (c : Int) % 2 = 0 then gt (gl rows 0) c else 0 - gt (gl rows 0) c) (hb 0 c).sgn
            have a2 := bits_bnd (detN_bnd m _ (minor_bnd (c := c) hb))
            omega
          exact ⟨_, _, _, rfl, eω.trans e2, by omega⟩
    · rintro _ υ ⟨u2, u3, u4, rfl, he, hc⟩
      conv => whnf
      rw [enum_len, List.length_map, l0]
      exact hQ υ he
end
end Mine
end
section
set_option maxRecDepth 100000
namespace Mine
open PySem PySem.W PyProof.Rows PySem.Calls

theorem set_split {as : List Addr} {c : Nat} {r : Addr} (h : c < as.length) : as.take c ++ [r] ++ as.drop (c + 1) = as.set c r := by
  rw [List.set_eq_take_append_cons_drop, if_pos h]; simp
theorem IsM.set {σ : AHeap} {a b : Addr} {as : List Addr} {rows : List (List Int)} {c : Nat} {r : Addr} {l : List Int} (h1 : σ b = some (.list ((as.set c r).map .ref))) (h2 : as.length = rows.length) (h3 : ∀ i, i < rows.length → σ (ga as i) = some (iL (gl rows i))) (hr : σ r = some (iL l)) : IsM σ b (rows.set c l) := by
  refine ⟨_, h1, by simp [h2], fun i hi => ?_⟩
  rw [List.length_set] at hi
  by_cases q : c = i
  · subst q
    rw [gl_set_self hi]
    have : ga (as.set c r) c = r := by unfold ga; rw [List.getD_eq_getElem?_getD, List.getElem?_set_self (by omega)]; rfl
    rw [this]; exact hr
  · rw [gl_set_ne q, ga_set_ne q]; exact h3 i hi

section
variable {h0 : Heap} {prog : Program} {w : World} {mg mb : Str → Option Value} (G : Gd (KK w) h0 mg mb) {n : Nat}

include G in
theorem c_is_same {k m : Nat} {o a : Addr} {olds news : List (List Int)} {W : Int} {σ : AHeap} {Q : V → AHeap → Prop} (ho : IsM σ o olds) (ha : IsM σ a news) (lo : olds.length = m + 1) (ln : news.length = m + 1) (lo' : ∀ i, i < m + 1 → (gl olds i).length = m + 1) (ln' : ∀ i, i < m + 1 → (gl news i).length = m + 1)
    (bo : ∀ i j, Bnd k (gt (gl olds i) j)) (bn : ∀ i j, Bnd k (gt (gl news i) j)) (hk : 8 * (k + bdW k m) ≤ 2 ^ 26) (hm : m ≤ 1000) (hW : W ≠ 0) (hd : (detN m news).natAbs = W.natAbs) (hdv : ∀ i c, i < m + 1 → c < m + 1 → detN m (news.set c (gl olds i)) % W = 0)
    (hQ : ∀ σ', Ext σ σ' → Q (.bool true) σ') : CC prog w h0 (n + m + 2) (.ref 386) [.ref o, .ref a, .int W] σ Q := by
  refine enter G [some (.ref o), some (.ref a), some (.int W), none] (at_law_is_same _) rfl rfl ?_
  conv => whnf
  refine c_worth G m ha ln ln' bn hk hm fun σ1 e1 => ?_
  conv => whnf
  refine ⟨fun e => ?_, fun _ => ?_⟩
  · have e := of_decide_eq_true e
    exact absurd (by rw [hd]) e
  obtain ⟨os, o1, o2, o3⟩ := ho
  obtain ⟨as, a1, a2, a3⟩ := ha
  conv => whnf
  refine ⟨_, e1 _ _ o1, ?_⟩
  refine ⟨fun i ρ υ => ∃ u, ρ = [some (.ref o), some (.ref a), some (.int W), u] ∧ Ext σ υ, ⟨none, rfl, e1⟩, ?_, ?_, ?_⟩
  · rintro i _ υ ⟨u, rfl, he⟩
    exact he _ _ o1
  · rintro i _ υ it ⟨u, rfl, he⟩ hit
    obtain ⟨v, hv, rfl⟩ := map_get hit
    have hi : i < m + 1 := by
      rcases Nat.lt_or_ge i (m + 1) with q | q
      · exact q
      · rw [List.getElem?_eq_none (by simp; omega)] at hv; cases hv
    rw [List.getElem?_map, ga_some (by omega)] at hv
    cases hv
    have hr := he _ _ (o3 i (by omega))
    conv => whnf
    refine ⟨_, he _ _ a1, ?_⟩
    conv => whnf
    simp only [List.length_map]
    refine ⟨⟨by omega, by omega⟩, ?_⟩
    refine ⟨by rw [upTo_len]; show _ ≤ 16777216; omega, fun c acc ω => Ext υ ω ∧ acc = [], ⟨.refl, rfl⟩, fun c acc ω h => ⟨trivial, by rw [h.2]; exact Nat.zero_le _⟩, ?_, ?_⟩
    · rintro c acc ω it ⟨hω, rfl⟩ hit
      obtain ⟨rfl, hlt⟩ := upTo_get hit
      have hc : c < m + 1 := by omega
      conv => whnf
      refine ⟨_, hω _ _ (he _ _ a1), ?_⟩
      rw [cut_to' (j := 0 + (c : Int)) (e := c) (by omega), ← List.map_take]
      intro p ω1 p1 p2 p3 p4
      conv => whnf
      intro q ω2 q1 q2 q3 q4
      conv => whnf
      refine ⟨_, _, ⟨q3 _ _ p4, q4, by simp; show _ ≤ 16777216; omega⟩, ?_⟩
      intro r ω3 r1 r2 r3 r4
      have e3 := ((hω.trans p3).trans q3).trans r3
      conv => whnf
      refine ⟨_, e3 _ _ (he _ _ a1), ?_⟩
      rw [cut_from (j := 0 + (c : Int) + 1) (e := c + 1) (by omega), ← List.map_drop]
      intro s ω4 s1 s2 s3 s4
      conv => whnf
      refine ⟨_, _, ⟨s3 _ _ r4, s4, by simp; show _ ≤ 16777216; omega⟩, ?_⟩
      intro t ω5 t1 t2 t3 t4
      have e5 := (e3.trans s3).trans t3
      have et : List.map V.ref (as.take c) ++ [V.ref (ga os i)] ++ List.map V.ref (as.drop (c + 1)) = (as.set c (ga os i)).map .ref := by
        rw [← set_split (by omega)]; simp
      rw [et] at t4
      have hM := IsM.set (a := t) t4 a2 (fun j hj => e5 _ _ (he _ _ (a3 j hj))) (e5 _ _ hr)
      conv => whnf
      refine c_worth G m hM (by simp [ln]) (fun j hj => ?_) (fun j l => ?_) hk hm fun ω6 e6 => ?_
      · by_cases z : c = j
        · subst z; rw [gl_set_self (by omega)]; exact lo' i hi
        · rw [gl_set_ne z]; exact ln' j hj
      · by_cases z : c = j
        · subst z; rw [gl_set_self (by omega)]; exact bo _ _
        · rw [gl_set_ne z]; exact bn _ _
      conv => whnf
      refine ⟨hW, ?_⟩
      have hz : (detN m (news.set c (gl olds i))).fmod W = 0 := Int.fmod_eq_zero_of_dvd (Int.dvd_of_emod_eq_zero (hdv i c hi hc))
      rw [hz]
      conv => whnf
      exact ⟨nofun, fun _ => ⟨e5.trans e6, rfl⟩⟩
    · rintro acc ω ⟨hω, rfl⟩
      intro f ω1 f1 f2 f3 f4
      conv => whnf
      intro g ω2 g1 g2 g3 g4
      conv => whnf
      refine ⟨[], [], ⟨g3 _ _ f4, g4⟩, ?_⟩
      conv => whnf
      refine ⟨nofun, fun _ => ?_⟩
      exact ⟨_, rfl, ((he.trans hω).trans f3).trans g3⟩
  · rintro _ υ ⟨u, rfl, he⟩
    conv => whnf
    exact hQ υ he
end
end Mine
end
section
set_option maxRecDepth 100000
namespace Mine
open PySem PySem.W PyProof.Rows PySem.Calls

structure V3 where
  x : Int
  y : Int
  z : Int
structure R3 where
  a : V3
  b : V3
  c : V3
def V3.dot (u v : V3) : Int := u.x * v.x + u.y * v.y + u.z * v.z
def V3.less (u v : V3) (q : Int) : V3 := ⟨u.x - v.x * q, u.y - v.y * q, u.z - v.z * q⟩
def R3.det (r : R3) : Int := r.a.x * (r.b.y * r.c.z - r.b.z * r.c.y) - r.a.y * (r.b.x * r.c.z - r.b.z * r.c.x) + r.a.z * (r.b.x * r.c.y - r.b.y * r.c.x)
def R3.d1 (r : R3) : Int := r.a.dot r.a
def R3.l10 (r : R3) : Int := r.b.dot r.a
def R3.d2 (r : R3) : Int := r.a.dot r.a * r.b.dot r.b - r.b.dot r.a * r.b.dot r.a
def R3.l20 (r : R3) : Int := r.c.dot r.a
def R3.l21 (r : R3) : Int := r.a.dot r.a * r.c.dot r.b - r.c.dot r.a * r.b.dot r.a
def R3.d3 (r : R3) : Int := r.det * r.det
def R3.e2 (r : R3) : Int := r.a.dot r.a * r.c.dot r.c - r.c.dot r.a * r.c.dot r.a

def gramDet (g00 g10 g11 g20 g21 g22 : Int) : Int := g00 * (g11 * g22 - g21 * g21) - g10 * (g10 * g22 - g21 * g20) + g20 * (g10 * g21 - g11 * g20)
set_option maxHeartbeats 4000000 in
theorem det_gram (r : R3) : r.d3 = gramDet (r.a.dot r.a) (r.b.dot r.a) (r.b.dot r.b) (r.c.dot r.a) (r.c.dot r.b) (r.c.dot r.c) := by
  obtain ⟨⟨a, b, c⟩, ⟨d, e, f⟩, ⟨g, h, i⟩⟩ := r
  simp only [R3.d3, R3.det, gramDet, V3.dot]
  grind
theorem sylv (g00 g10 g11 g20 g21 g22 : Int) : (g00 * g11 - g10 * g10) * (g00 * g22 - g20 * g20) - (g00 * g21 - g20 * g10) * (g00 * g21 - g20 * g10) = g00 * gramDet g00 g10 g11 g20 g21 g22 := by
  unfold gramDet; grind
theorem R3.syl (r : R3) : r.d2 * r.e2 = r.d1 * r.d3 + r.l21 * r.l21 := by
  rw [det_gram]
  have := sylv (r.a.dot r.a) (r.b.dot r.a) (r.b.dot r.b) (r.c.dot r.a) (r.c.dot r.b) (r.c.dot r.c)
  unfold R3.d2 R3.e2 R3.d1 R3.l21
  omega
end Mine
end
section
set_option maxRecDepth 100000
namespace Mine
open PySem PySem.W PyProof.Rows PySem.Calls

def R3.lc3 (r : R3) (t b : Int) : LC := ⟨[[r.a.x, r.a.y, r.a.z], [r.b.x, r.b.y, r.b.z], [r.c.x, r.c.y, r.c.z]], [1, r.d1, r.d2, r.d3], [[], [r.l10], [r.l20, r.l21]], t, b⟩
def R3.lc2 (r : R3) (t b : Int) : LC := ⟨[[r.a.x, r.a.y], [r.b.x, r.b.y]], [1, r.d1, r.d2], [[], [r.l10]], t, b⟩
def R3.flat (r : R3) : Prop := r.a.z = 0 ∧ r.b.z = 0 ∧ r.c = ⟨0, 0, 1⟩

def R3.s10 (r : R3) (q : Int) : R3 := { r with b := r.b.less r.a q }
def R3.s20 (r : R3) (q : Int) : R3 := { r with c := r.c.less r.a q }
def R3.s21 (r : R3) (q : Int) : R3 := { r with c := r.c.less r.b q }
def R3.x1 (r : R3) : R3 := { r with a := r.b, b := r.a }
def R3.x2 (r : R3) : R3 := { r with b := r.c, c := r.b }

section
variable (r : R3) (q : Int)
theorem s10_d1 : (r.s10 q).d1 = r.d1 := rfl
theorem s10_l10 : (r.s10 q).l10 = r.l10 - q * r.d1 := by simp only [R3.s10, R3.l10, R3.d1, V3.less, V3.dot]; grind
theorem s10_d2 : (r.s10 q).d2 = r.d2 := by simp only [R3.s10, R3.d2, V3.less, V3.dot]; grind
theorem s10_l20 : (r.s10 q).l20 = r.l20 := rfl
theorem s10_l21 : (r.s10 q).l21 = r.l21 := by simp only [R3.s10, R3.l21, V3.less, V3.dot]; grind
theorem s10_det : (r.s10 q).det = r.det := by simp only [R3.s10, R3.det, V3.less]; grind
theorem s10_d3 : (r.s10 q).d3 = r.d3 := by unfold R3.d3; rw [s10_det]
theorem s20_d1 : (r.s20 q).d1 = r.d1 := rfl
theorem s20_l10 : (r.s20 q).l10 = r.l10 := rfl
theorem s20_d2 : (r.s20 q).d2 = r.d2 := rfl
theorem s20_l20 : (r.s20 q).l20 = r.l20 - q * r.d1 := by simp only [R3.s20, R3.l20, R3.d1, V3.less, V3.dot]; grind
theorem s20_l21 : (r.s20 q).l21 = r.l21 := by simp only [R3.s20, R3.l21, V3.less, V3.dot]; grind
theorem s20_det : (r.s20 q).det = r.det := by simp only [R3.s20, R3.det, V3.less]; grind
theorem s20_d3 : (r.s20 q).d3 = r.d3 := by unfold R3.d3; rw [s20_det]
theorem s21_d1 : (r.s21 q).d1 = r.d1 := rfl
theorem s21_l10 : (r.s21 q).l10 = r.l10 := rfl
theorem s21_d2 : (r.s21 q).d2 = r.d2 := rfl
theorem s21_l20 : (r.s21 q).l20 = r.l20 - q * r.l10 := by simp only [R3.s21, R3.l20, R3.l10, V3.less, V3.dot]; grind
theorem s21_l21 : (r.s21 q).l21 = r.l21 - q * r.d2 := by simp only [R3.s21, R3.l21, R3.d2, V3.less, V3.dot]; grind
theorem s21_det : (r.s21 q).det = r.det := by simp only [R3.s21, R3.det, V3.less]; grind
theorem s21_d3 : (r.s21 q).d3 = r.d3 := by unfold R3.d3; rw [s21_det]
theorem x1_det : r.x1.det = -r.det := by simp only [R3.x1, R3.det]; grind
theorem x2_det : r.x2.det = -r.det := by simp only [R3.x2, R3.det]; grind
theorem x1_d3 : r.x1.d3 = r.d3 := by unfold R3.d3; rw [x1_det]; grind
theorem x2_d3 : r.x2.d3 = r.d3 := by unfold R3.d3; rw [x2_det]; grind
theorem x1_d2 : r.x1.d2 = r.d2 := by simp only [R3.x1, R3.d2, V3.dot]; grind
theorem x1_l10 : r.x1.l10 = r.l10 := by simp only [R3.x1, R3.l10, V3.dot]; grind
theorem x1_d1 : r.x1.d1 * r.d1 = r.d2 + r.l10 * r.l10 := by simp only [R3.x1, R3.d1, R3.d2, R3.l10, V3.dot]; grind
theorem x1_l21 : r.x1.l21 * r.d1 = r.d2 * r.l20 - r.l10 * r.l21 := by simp only [R3.x1, R3.l21, R3.d1, R3.d2, R3.l20, R3.l10, V3.dot]; grind
theorem x1_l20 : r.x1.l20 * r.d2 = r.x1.d1 * r.l21 + r.l10 * r.x1.l21 := by simp only [R3.x1, R3.l21, R3.d1, R3.d2, R3.l20, R3.l10, V3.dot]; grind
theorem x2_d1 : r.x2.d1 = r.d1 := rfl
theorem x2_l10 : r.x2.l10 = r.l20 := rfl
theorem x2_l20 : r.x2.l20 = r.l10 := rfl
theorem x2_l21 : r.x2.l21 = r.l21 := by simp only [R3.x2, R3.l21, V3.dot]; grind
theorem x2_d2 : r.x2.d2 * r.d2 = r.d1 * r.d3 + r.l21 * r.l21 := by
  have := r.syl
  have e : r.x2.d2 = r.e2 := rfl
  rw [e, Int.mul_comm]; exact this
end
end Mine
end
section
set_option maxRecDepth 100000
namespace Mine
open PySem PySem.W PyProof.Rows PySem.Calls

section
variable (r : R3) (t b : Int)
def q10 (r : R3) : Int := (2 * r.l10 + r.d1).fdiv (2 * r.d1)
def q20 (r : R3) : Int := (2 * r.l20 + r.d1).fdiv (2 * r.d1)
def q21 (r : R3) : Int := (2 * r.l21 + r.d2).fdiv (2 * r.d2)
theorem quo3_10 : quo (r.lc3 t b) 1 0 = q10 r := rfl
theorem quo3_20 : quo (r.lc3 t b) 2 0 = q20 r := rfl
theorem quo3_21 : quo (r.lc3 t b) 2 1 = q21 r := rfl
theorem quo2_10 : quo (r.lc2 t b) 1 0 = q10 r := rfl

theorem sh3_10 : shortA (r.lc3 t b) 1 0 = (r.s10 (q10 r)).lc3 t b := by
  unfold shortA
  rw [quo3_10]
  generalize q10 r = q
  unfold R3.lc3
  rw [s10_d1, s10_d2, s10_d3, s10_l10, s10_l20, s10_l21]
  rfl
theorem sh3_20 : shortA (r.lc3 t b) 2 0 = (r.s20 (q20 r)).lc3 t b := by
  unfold shortA
  rw [quo3_20]
  generalize q20 r = q
  unfold R3.lc3
  rw [s20_d1, s20_d2, s20_d3, s20_l10, s20_l20, s20_l21]
  rfl
theorem sh3_21 : shortA (r.lc3 t b) 2 1 = (r.s21 (q21 r)).lc3 t b := by
  unfold shortA
  rw [quo3_21]
  generalize q21 r = q
  unfold R3.lc3
  rw [s21_d1, s21_d2, s21_d3, s21_l10, s21_l20, s21_l21]
  rfl
theorem sh2_10 : shortA (r.lc2 t b) 1 0 = (r.s10 (q10 r)).lc2 t b := by
  unfold shortA
  rw [quo2_10]
  generalize q10 r = q
  unfold R3.lc2
  rw [s10_d1, s10_d2, s10_l10]
  rfl

theorem tdiv_of {x y z : Int} (hy : y ≠ 0) (h : z * y = x) : x.tdiv y = z := by subst h; exact Int.mul_tdiv_cancel _ hy

theorem ex3_1 (h1 : r.d1 ≠ 0) (h2 : r.d2 ≠ 0) : exL (r.lc3 t b) 1 = r.x1.lc3 t b := by
  have e1 : nowI (r.lc3 t b) 1 = r.x1.d1 := by
    show (1 * r.d2 + r.l10 * r.l10).tdiv r.d1 = _
    exact tdiv_of h1 (by rw [x1_d1]; omega)
  have e2 : exB (r.lc3 t b) 1 [r.l20, r.l21] = r.x1.l21 := by
    show (r.d2 * r.l20 - r.l10 * r.l21).tdiv r.d1 = _
    exact tdiv_of h1 (x1_l21 r)
  have e3 : exI (r.lc3 t b) 1 [r.l20, r.l21] = [r.x1.l20, r.x1.l21] := by
    unfold exI
    rw [e1, e2]
    have : (r.x1.d1 * gt [r.l20, r.l21] 1 + gt (gl (r.lc3 t b).parts 1) (1 - 1) * r.x1.l21).tdiv (gt (r.lc3 t b).sizes (1 + 1)) = r.x1.l20 := tdiv_of h2 (x1_l20 r)
    rw [this]
    rfl
  unfold exL
  rw [e1]
  have e4 : exP (r.lc3 t b) 1 ((r.lc3 t b).parts.length - (1 + 1)) = [[], [r.l10], [r.x1.l20, r.x1.l21]] := by
    show (exP (r.lc3 t b) 1 0).set 2 (exI (r.lc3 t b) 1 [r.l20, r.l21]) = _
    rw [e3]; rfl
  rw [e4]
  unfold R3.lc3
  rw [x1_d2, x1_d3, x1_l10]
  rfl
theorem ex3_2 (h2 : r.d2 ≠ 0) : exL (r.lc3 t b) 2 = r.x2.lc3 t b := by
  have e1 : nowI (r.lc3 t b) 2 = r.x2.d2 := by
    show (r.d1 * r.d3 + r.l21 * r.l21).tdiv r.d2 = _
    exact tdiv_of h2 (x2_d2 r)
  unfold exL
  rw [e1]
  unfold R3.lc3
  rw [x2_d3, x2_l21]
  rfl
theorem ex2_1 (h1 : r.d1 ≠ 0) : exL (r.lc2 t b) 1 = r.x1.lc2 t b := by
  have e1 : nowI (r.lc2 t b) 1 = r.x1.d1 := by
    show (1 * r.d2 + r.l10 * r.l10).tdiv r.d1 = _
    exact tdiv_of h1 (by rw [x1_d1]; omega)
  unfold exL
  rw [e1]
  unfold R3.lc2
  rw [x1_d2, x1_l10]
  rfl
end
end Mine
end
section
set_option maxRecDepth 100000
namespace Mine
open PySem PySem.W PyProof.Rows PySem.Calls

section
variable (r : R3) (t b : Int)
def R3.rows3 (r : R3) : List (List Int) := [[r.a.x, r.a.y, r.a.z], [r.b.x, r.b.y, r.b.z], [r.c.x, r.c.y, r.c.z]]
def R3.rows2 (r : R3) : List (List Int) := [[r.a.x, r.a.y], [r.b.x, r.b.y]]
theorem dot3 (u v : V3) : dotI [u.x, u.y, u.z] [v.x, v.y, v.z] = u.dot v := by simp only [dotI, V3.dot]; omega
theorem dot2 (u v : V3) (h : u.z = 0) : dotI [u.x, u.y] [v.x, v.y] = u.dot v := by simp only [dotI, V3.dot]; rw [h]; omega
theorem tdiv_one (x : Int) : x.tdiv 1 = x := Int.tdiv_one x

theorem tk3_0 : tkL ⟨r.rows3, [1], [], t, b⟩ 0 = ⟨r.rows3, [1, r.d1], [[]], t, b⟩ := by
  show LC.mk r.rows3 [1, dotI [r.a.x, r.a.y, r.a.z] [r.a.x, r.a.y, r.a.z]] [[]] t b = _
  rw [dot3]; rfl
theorem tk2_0 (h : r.flat) : tkL ⟨r.rows2, [1], [], t, b⟩ 0 = ⟨r.rows2, [1, r.d1], [[]], t, b⟩ := by
  show LC.mk r.rows2 [1, dotI [r.a.x, r.a.y] [r.a.x, r.a.y]] [[]] t b = _
  rw [dot2 _ _ h.1]; rfl
theorem tk3_1 : tkL ⟨r.rows3, [1, r.d1], [[]], t, b⟩ 1 = ⟨r.rows3, [1, r.d1, r.d2], [[], [r.l10]], t, b⟩ := by
  show LC.mk r.rows3 [1, r.d1, (r.d1 * dotI [r.b.x, r.b.y, r.b.z] [r.b.x, r.b.y, r.b.z] - dotI [r.b.x, r.b.y, r.b.z] [r.a.x, r.a.y, r.a.z] * dotI [r.b.x, r.b.y, r.b.z] [r.a.x, r.a.y, r.a.z]).tdiv 1] [[], [dotI [r.b.x, r.b.y, r.b.z] [r.a.x, r.a.y, r.a.z]]] t b = _
  rw [dot3, dot3, tdiv_one]; rfl
theorem tk2_1 (h : r.flat) : tkL ⟨r.rows2, [1, r.d1], [[]], t, b⟩ 1 = r.lc2 t b := by
  show LC.mk r.rows2 [1, r.d1, (r.d1 * dotI [r.b.x, r.b.y] [r.b.x, r.b.y] - dotI [r.b.x, r.b.y] [r.a.x, r.a.y] * dotI [r.b.x, r.b.y] [r.a.x, r.a.y]).tdiv 1] [[], [dotI [r.b.x, r.b.y] [r.a.x, r.a.y]]] t b = _
  rw [dot2 _ _ h.2.1, dot2 _ _ h.2.1, tdiv_one]; rfl
theorem tk3_2 (h1 : r.d1 ≠ 0) : tkL ⟨r.rows3, [1, r.d1, r.d2], [[], [r.l10]], t, b⟩ 2 = r.lc3 t b := by
  have e21 : (r.d1 * r.c.dot r.b - r.c.dot r.a * r.l10).tdiv 1 = r.l21 := by rw [tdiv_one]; rfl
  have e2 : (r.d1 * r.c.dot r.c - r.c.dot r.a * r.c.dot r.a).tdiv 1 = r.e2 := by rw [tdiv_one]; rfl
  have e3 : (r.d2 * r.e2 - r.l21 * r.l21).tdiv r.d1 = r.d3 := tdiv_of h1 (by rw [r.syl, Int.mul_comm r.d3]; omega)
  show LC.mk r.rows3 [1, r.d1, r.d2, (r.d2 * (r.d1 * dotI [r.c.x, r.c.y, r.c.z] [r.c.x, r.c.y, r.c.z] - dotI [r.c.x, r.c.y, r.c.z] [r.a.x, r.a.y, r.a.z] * dotI [r.c.x, r.c.y, r.c.z] [r.a.x, r.a.y, r.a.z]).tdiv 1 -
      (r.d1 * dotI [r.c.x, r.c.y, r.c.z] [r.b.x, r.b.y, r.b.z] - dotI [r.c.x, r.c.y, r.c.z] [r.a.x, r.a.y, r.a.z] * r.l10).tdiv 1 * (r.d1 * dotI [r.c.x, r.c.y, r.c.z] [r.b.x, r.b.y, r.b.z] - dotI [r.c.x, r.c.y, r.c.z] [r.a.x, r.a.y, r.a.z] * r.l10).tdiv 1).tdiv r.d1]
    [[], [r.l10], [dotI [r.c.x, r.c.y, r.c.z] [r.a.x, r.a.y, r.a.z], (r.d1 * dotI [r.c.x, r.c.y, r.c.z] [r.b.x, r.b.y, r.b.z] - dotI [r.c.x, r.c.y, r.c.z] [r.a.x, r.a.y, r.a.z] * r.l10).tdiv 1]] t b = _
  rw [dot3, dot3, dot3, e21, e2, e3]
  rfl
end
end Mine
end
section
set_option maxRecDepth 100000
namespace Mine
open PySem PySem.W PyProof.Rows PySem.Calls

theorem hold_again {base : Heap} {l : List Env} {e L : Addr} {cls a0 : Value} {M : Model} {A : Around} {E : Value → Shared → Prop} {s : Shared} {Q : Unit → Shared → Prop} (hh : Heap.HeldW base l e cls a0 L s.heap)
    (hQ : ∀ h', Heap.HeldW base l e cls a0 L h' → s.heap.UpToSlots h' → Q () { s with heap := h' }) : wpAny M A (setFlight (.ref e) (some L)) Q E s := by
  obtain ⟨hkb, hen, hl, oe, vs, T, oT, ts, he, hcls, hd, h1, hnT, hTe, hT, hdT, h3⟩ := hh
  have hsz3 : 3 < ts.size := (Array.getElem?_eq_some_iff.mp h3).1
  have other : ∀ b, b ≠ T → (s.heap.update T (Obj.mapFields (·.setIfInBounds 3 ((some L : Option Addr).elim Value.none fun f => rawInt f)))).get? b = s.heap.get? b :=
    fun b hb => Heap.get?_update_other _ _ (Ne.symm hb)
  have noRecord : ∀ b o, s.heap.get? b = some o → (∀ vs, o.data ≠ .fields vs) → b ≠ T := fun b o hb hnf q => by
    rw [q, hT] at hb; injection hb with hb; subst hb; exact hnf ts hdT
  unfold setFlight
  refine wpAny_bind (wpAny_field he hd h1 ?_)
  rw [if_pos (show (Value.ref T != Value.none) = true from by simp)]
  refine wpAny_setField hT hdT hsz3 (hQ _ ⟨fun b o hbo => (other b fun q => by rw [q, hnT] at hbo; cases hbo).trans (hkb b o hbo), hen,
    hl.of_keeps fun b o hb hnf => ⟨o, (other b (noRecord b o hb hnf)).trans hb, rfl⟩, ?_⟩ fun b o hb hnf => ⟨o.slots, (other b (noRecord b o hb hnf)).trans hb⟩)
  exact ⟨oe, vs, T, _, _, (other e (Ne.symm hTe)).trans he, hcls, hd, h1, hnT, hTe, Heap.get?_update_self _ hT (Obj.isFreed_of_fields (Obj.data_mapFields hdT _)), Obj.data_mapFields hdT _, by simp [hsz3]⟩

def Still (env : Env) (z : Int) (os : OsState) (gens : Array GenState) (s : Shared) : Prop := (∃ m, s.heap.Ns env.locals m ∧ ∃ t, m "worth" = some (.int z t)) ∧ s.os = os ∧ s.gens = gens
theorem Still.slots {env : Env} {z : Int} {os : OsState} {gens : Array GenState} {s : Shared} (h : Still env z os gens s) {h' : Heap} (u : s.heap.UpToSlots h') : Still env z os gens { s with heap := h' } := by
  obtain ⟨⟨m, h1, h2⟩, h3, h4⟩ := h
  exact ⟨⟨m, u.ns h1, h2⟩, h3, h4⟩
def Thr (h0 : Heap) (env : Env) (z : Int) (os : OsState) (gens : Array GenState) (e : Value) (s : Shared) : Prop := ∃ a a0, e = .ref a ∧ Heap.FlyingW h0 [env] a (.ref 49) a0 s.heap ∧ Still env z os gens s
def Hld (h0 : Heap) (env : Env) (z : Int) (os : OsState) (gens : Array GenState) (e : Value) (s : Shared) : Prop := ∃ a a0, e = .ref a ∧ Heap.HeldW h0 [env] a (.ref 49) a0 env.locals s.heap ∧ Still env z os gens s

theorem thr_passes {h0 : Heap} {env : Env} {z : Int} {os : OsState} {gens : Array GenState} {e : Value} {s : Shared} {M : Model} {A : Around} (hfr : A.frames = some [env]) (hf : env.frame = some env.locals) (h : Thr h0 env z os gens e s) :
    notedBy M A env (cameBackBy M A env (Hld h0 env z os gens)) e s := by
  obtain ⟨a, a0, rfl, h1, h2⟩ := h
  unfold notedBy
  refine wpAny_looks_onW hfr hf h1 fun h' k1 u1 => ?_
  unfold cameBackBy
  obtain ⟨hkb, hen, hl, oe, vs, T, oT, ts, he, hcls, hd, hh1, r⟩ := id k1
  refine wpAny_bind (wpAny_field he hd hh1 ?_)
  rw [if_neg (by simp), hf]
  exact hold_again k1 fun h'' k2 u2 => ⟨a, a0, rfl, k2, (h2.slots u1).slots u2⟩

section
variable {h0 : Heap} {prog : Program} {w : World} {mg mb : Str → Option Value} (G : Gd (KK w) h0 mg mb) {bmB : List Value} {newId : String}

theorem oor_at (P : Params) : nsIn (hd.heap_39 P) mainGlobals "OutOfRange" = some (some (.ref 49)) := rfl

include G in
theorem oor_name {env : Env} {np : Pos} {A : Around} {E : Value → Shared → Prop} {s : Shared} {Q : Value → Shared → Prop} (hkb : ∀ b o, h0.get? b = some o → s.heap.get? b = some o) (eo : EnvOk h0 env) (hk : env.kindOf "OutOfRange" = some .globalImplicit) (hQ : Q (.ref 49) s) :
    wpAny (model prog w) A (eval (.Name "OutOfRange" np) env) Q E s := by
  refine Name_function_global eo.kind hk (loadGlobal_global (by rw [eo.glob]; exact G.g.keeps hkb) (mg_of G.X G.g (oor_at w.params)) hQ) (by decide)

include G in
theorem handle {env : Env} {z : Int} {os : OsState} {gens : Array GenState} {e : Value} {s : Shared} {A : Around} {E : Value → Shared → Prop} {Q : Flow → Shared → Prop} {np pos rp cp wp rtp : Pos} (O : OwnCls "OutOfRange" 49 bmB newId mg h0) (hbase : bmB.contains (.type "BaseException") = true)
    (hf : env.frame = some env.locals) (eo : EnvOk h0 env) (hk : env.kindOf "OutOfRange" = some .globalImplicit) (hw : env.kindOf "worth" = some .local)
    (h : Hld h0 env z os gens e s) (hQ : ∀ s', (∀ b o, h0.get? b = some o → s'.heap.get? b = some o) → s'.os = os → s'.gens = gens → Q (.ret (.bool (decide (z = 0)))) s') :
    wpAny (model prog w) A (noteFrame e env) (fun _ s₂ => wpAny (model prog w) A (setFlight e none) (fun _ s₃ => wpAny (model prog w) A (handleBy e env
      [.ExceptHandler (some (.Name "OutOfRange" np)) none [.Return (some (.Compare (.Name "worth" wp) [.Eq] [.Constant (.int 0) 0 cp] rp)) rtp] pos]) Q E s₃) E s₂) E s := by
  obtain ⟨a, a0, rfl, h1, h2⟩ := h
  refine wpAny_noteFrame_againW hf h1.2.2.2 ?_
  refine wpAny_landsW h1 fun h' k1 u1 => ?_
  have t1 := h2.slots u1
  refine wpAny_handleBy_cons (codeAny_handlers_test (oor_name G k1.1 eo hk ?_)) (by intro q; cases q)
  obtain ⟨bm, N, nm, qn, bs, hdct, sn, sub, ab, col, dd, c0, c1, c2, c3, c5, mN, hC, hN, hni, TL⟩ := (O.keeps k1.1).obj
  obtain ⟨ob, hob, hobc⟩ := k1.there
  refine wpAny_excMatches_sub_self hC hob hobc (TL.hasType hbase) (codeAny_handlers_suite ?_)
  refine lands_againW k1 fun h'' k2 u2 => ?_
  obtain ⟨⟨m, n1, t, n2⟩, n3, n4⟩ := t1.slots u2
  refine wpAny_execs_cons (wpAny_Return_some ?_)
  refine wpAny_Compare1 (wpAny_Name (wpAny_loadName_local eo.kind hw n1 n2 ?_)) rfl
  refine wpAny_Constant_int ?_
  refine P.eq_int ?_
  exact hQ _ k2.1 n3 n4
end
end Mine
end
section
set_option maxRecDepth 100000
namespace Mine
open PySem PySem.W PyProof.Rows PySem.Calls

section
variable {h0 : Heap} {prog : Program} {w : World} {K : Frag} {mg mb : Str → Option Value} (G : Gd K h0 mg mb) {n : Nat}

include G in
theorem fn_enter {f : Addr} {o : Obj} {fd : FuncData} {nm : List Str} {body : List Stmt} {k : Nat} {vals : List Value} {σ : AHeap} {s : Shared} {A : Around} {Rr : Result → Shared → Prop} (R : Room A (n + 1)) (kk : Ok h0 σ s)
    (ho : s.heap.get? f = some o) (hd : o.data = .func fd) (hbody : fd.body = .stmts body) (hcd : s.heap.CodeRec fd.code fd.qualname) (hclo : fd.closure = []) (hgl : fd.globals = mainGlobals) (hbi : fd.builtins = builtinsNs)
    (hk : fd.scope.kind = .function) (hsn : nodupS (fd.scope.names.map (·.1)) = true) (hco : fd.scope.isCoroutine = false) (hgen : fd.scope.isGenerator = false) (hnd' : nodupS (nm.take k) = true)
    (hbind : bindArgs fd ⟨vals, []⟩ = pure ((nm.take k).zip vals))
    (hpar : (nm.take k).all (fun x => fd.scope.names.lookup x == some .local || fd.scope.names.lookup x == some .cell) = true) (hkl : k ≤ nm.length) (hvl : vals.length = k)
    (h : ∀ env s1, env.kindOf = (fun x => fd.scope.names.lookup x) → EnvOk h0 env → Apart env → env.frame = some env.locals → env.scope.kind = .function → (∀ a, ownOfEnv env a → s.heap.get? a = none) → Post h0 nobody σ s σ s1 → Fm env nm (entry nm.length (vals.map abst)) σ s1.heap →
      Room (A.deeper env) n →
      wpAny (model prog w) (A.deeper env) (execs body env) (fun f s' => Rr (.ok (.ret (match f with | .ret v => v | _ => .none))) s')
        (fun e s' => wpAny (model prog w) (A.deeper env) (leaving env e) (fun _ s'' => Rr (.error e) s'') (fun e' s'' => Rr (.error e') s'') s') s1) :
    codeAny (model prog w) A (.call (.ref f) ⟨vals, []⟩) Rr s := by
  have X := G.X.keeps kk.base
  have hpar' : ∀ x ∈ nm.take k, fd.scope.names.lookup x = some .local ∨ fd.scope.names.lookup x = some .cell := fun x hx => by
    have := List.all_eq_true.mp hpar x hx
    simpa using this
  refine codeAny_call_cells (body := body) (binds := (nm.take k).zip vals) (by have := R.depth; show _ < 1000; omega) ho hd (G.lim.keeps kk.base) hcd hbody hbind hclo
    (fun x hx => ?_) (fun s1 x => ?_) hco hgen hk
  · have hm : x.1 ∈ nm.take k := (List.of_mem_zip hx).1
    rcases hpar' _ hm with q | q
    · exact .inl q
    · exact .inr ⟨q, cells_has (mem_of_lookup (α := NameKind) q)⟩
  generalize he : callEnvC fd s.heap.objs.size f = env at x ⊢
  have hkd : env.kindOf = fun x => fd.scope.names.lookup x := by rw [← he]; rfl
  have hL : s.heap.get? env.locals = none := by rw [← he]; exact get?_size _
  have hLs : env.locals = s.heap.objs.size := by rw [← he]; rfl
  have hcs : ∀ x c, (x, c) ∈ env.cells → s.heap.get? c = none := fun y c hc => by
    have := x.above y c hc
    cases e : s.heap.get? c with
    | none => rfl
    | some o => have lt := Heap.lt_size e; rw [hLs] at this; exact absurd (Nat.lt_trans this lt) (Nat.lt_irrefl _)
  have own : ∀ a, ownOfEnv env a → s.heap.get? a = none := fun a ha => by
    rcases ha with rfl | ⟨y, hc⟩
    · exact hL
    · exact hcs y a hc
  have eo : EnvOk h0 env := by
    refine ⟨by rw [← he]; exact hk, by rw [← he]; exact hgl, by rw [← he]; exact hbi, kk.bs hL, fun y c hc => kk.bs (hcs y c hc), fun y hy => ?_, fun y c hc q => ?_⟩
    · rw [hkd] at hy
      have := cells_has (k := s.heap.objs.size + 1) (acc := []) (mem_of_lookup (α := NameKind) hy)
      rw [← he]
      exact Option.isSome_iff_exists.mp this
    · have := x.above y c hc; rw [q] at this; exact Nat.lt_irrefl _ this
  have ap : Apart env := fun y z c h1 h2 => name_of_addr x.apart (mem_of_lookup h1) (mem_of_lookup h2)
  have P1 : Post h0 nobody σ s σ s1 := by
    obtain ⟨h', tk, rfl, hkp⟩ := x.done
    exact .junk kk hkp
  have F : Fm env nm (entry nm.length (vals.map abst)) σ s1.heap := by
    have pick : ∀ (i : Nat) y v, nm[i]? = some y → (entry nm.length (vals.map abst)).getD i none = some v → ∃ u, (nm.take k)[i]? = some y ∧ vals[i]? = some u ∧ abst u = v := fun i y v e1 e2 => by
      have e3 := entry_get e2
      rw [List.getElem?_map] at e3
      obtain ⟨u, hu, eu⟩ := Option.map_eq_some_iff.mp e3
      have lt : i < k := by
        rcases Nat.lt_or_ge i k with q | q
        · exact q
        · rw [List.getElem?_eq_none (show vals.length ≤ i by omega)] at hu; cases hu
      exact ⟨u, by rw [List.getElem?_take, if_pos lt]; exact e1, hu, eu⟩
    refine ⟨⟨_, x.toInCall.ns, fun i y v e1 e2 e3 => ?_⟩, fun i y v e1 e2 e3 => ?_, fun y c hc => ?_, fun a ha => kk.fresh (own a ha)⟩
    · obtain ⟨u, h1, h2, h3⟩ := pick i y v e1 e3
      exact ⟨u, bindL_at hnd' h1 h2 e2, h3⟩
    · obtain ⟨u, h1, h2, h3⟩ := pick i y v e1 e3
      obtain ⟨c, hc⟩ := eo.lk y e2
      refine ⟨c, u, hc, ?_, h3⟩
      have := x.cell y c hc
      rwa [bindC_at hnd' h1 h2 (by rw [e2]; decide)] at this
    · refine ⟨_, x.cell y c ?_⟩
      rw [← he] at hc ⊢
      exact cells_mem (acc := []) hsn (fun _ _ _ q => nomatch q) (fun _ _ q => nomatch q) y c hc
  have R1 : Room (A.deeper env) n := ⟨by have := R.depth; show A.depth + 1 + n ≤ 900; omega, by have := R.units; show A.units + 3 + 100 * n ≤ 5000; omega, R.handled⟩
  exact h env s1 hkd eo ap (by rw [← he]; rfl) (by rw [← he]; exact hk) own P1 F R1
end

section
variable {h0 : Heap} {prog : Program} {w : World} {mg mb : Str → Option Value} (G : Gd (KK w) h0 mg mb) {n : Nat} {bmB : List Value} {newId : String}

include G in
theorem raise_oor {σ : AHeap} {env : Env} {s : Shared} {A : Around} {E : Value → Shared → Prop} {Q : Flow → Shared → Prop} {np cp cpos pos : Pos} {msg : Str} (O : OwnCls "OutOfRange" 49 bmB newId mg h0) (FB : ExcBaseFacts B newId initId bmB)
    (eo : EnvOk h0 env) (hk : env.kindOf "OutOfRange" = some .globalImplicit) (k : Ok h0 σ s) (hh : A.handled = none)
    (h : ∀ h' e vs tk, Heap.MadeExcOf s.heap h' e (.ref 49) vs → E (.ref e) { s with heap := h', toks := tk }) :
    wpAny (model prog w) A (exec (.Raise (some (.Call (.Name "OutOfRange" np) [.Constant (.str msg) 0 cp] [] cpos)) none pos) env) Q E s := by
  obtain ⟨bm, N, nmm, qn, bs, hdct, sn, sub, ab, col, dd, c0, c1, c2, c3, c5, mN, hC, hN, hni, TL⟩ := (O.keeps k.base).obj
  refine wpAny_Raise_call_subT (C := 49) (nm := nmm) (q := qn) (N := N) (bs := bs) (bm := bm) (hdct := hdct) (sn := sn) (sub := sub) (ab := ab) (col := col) (dd := dd) (k0 := c0) (k1 := c1) (k2 := c2) (k3 := c3) (k5 := c5) FB (mN := mN) (TL.hasType FB.hasBase) hh rfl hni (oor_name G k.base eo hk ⟨rfl, ?_⟩)
  refine Calls.evalArgs_plain (spliced_more (rest := []) (wpAny_Constant_str (spliced_none ⟨rfl, by show 1 ≤ sizeLine; decide, hC, hN, TL, fun h' e hm => ?_⟩)))
  exact h h' e _ _ hm
end
end Mine
end
section
set_option maxRecDepth 100000
namespace Mine
open PySem PySem.W PyProof.Rows PySem.Calls

section
variable {h0 : Heap} {prog : Program} {w : World} {K : Frag} {mg mb : Str → Option Value} (G : Gd K h0 mg mb) {n : Nat}

include G in
theorem run_app {env : Env} {nm : List Str} {N : Loc → AHeap → Prop} {Rt : V → AHeap → Prop} {A : Around} {E : Value → Shared → Prop} {Q : Flow → Shared → Prop} {rest : List Stmt} (hnd : nodupS nm = true) (eo : EnvOk h0 env) (ap : Apart env) (R : Room A n) :
    ∀ (b : Sts) {ρ : Loc} {σ : AHeap} {s : Shared}, okSs env.kindOf nm b = true → Ok h0 σ s → Fm env nm ρ σ s.heap → wpSs (Bs h0) (SemCall prog w K h0 n) b ρ σ N Rt →
    (∀ ρ' σ' s', N ρ' σ' → Ok h0 σ' s' → Fm env nm ρ' σ' s'.heap → Post h0 (ownOfEnv env) σ s σ' s' → wpAny (model prog w) A (execs rest env) Q E s') →
    (∀ v σ' s', Rt (abst v) σ' → Post h0 (ownOfEnv env) σ s σ' s' → Q (.ret v) s') →
    wpAny (model prog w) A (execs (trSs nm b ++ rest) env) Q E s
  | .nil, ρ, σ, s, ok, k, F, h, hN, hR => hN ρ σ s h k F (.refl k)
  | .cons st r, ρ, σ, s, ok, k, F, h, hN, hR => by
    simp only [okSs, Bool.and_eq_true] at ok
    show wpAny _ _ (execs (trS nm st :: (trSs nm r ++ rest)) env) _ _ _
    refine wpAny_execs_cons (wpAny_mono (sndS G st (N := fun ρ σ => wpSs (Bs h0) (SemCall prog w K h0 n) r ρ σ N Rt) (Rt := Rt) ok.1 hnd eo ap R k F h) (fun f s1 q => ?_) fun _ _ e => e)
    cases f with
    | next =>
      obtain ⟨ρ1, σ1, h1, F1, P1⟩ := q
      exact run_app hnd eo ap R r ok.2 (k.post P1 eo.own) F1 h1 (fun ρ' σ' s' a b c d => hN ρ' σ' s' a b c (P1.trans d)) fun v σ' s' a b => hR v σ' s' a (P1.trans b)
    | ret v =>
      obtain ⟨σ1, h1, P1⟩ := q
      exact hR v σ1 s1 h1 P1
    | _ => exact q.elim
end

theorem fm_frame {h0 : Heap} {env : Env} {nm : List Str} {ρ : Loc} {σ : AHeap} {h : Heap} (F : Fm env nm ρ σ h) (eo : EnvOk h0 env) (hf : env.frame = some env.locals) :
    env.scope.kind ≠ .module ∧ ∃ L o, env.frame = some L ∧ h0.get? L = none ∧ h.get? L = some o ∧ ∀ vs, o.data ≠ .fields vs := by
  refine ⟨by rw [eo.kind]; decide, ?_⟩
  obtain ⟨m, ⟨o, es, ep, ho, hd, _⟩, _⟩ := F.ns
  exact ⟨env.locals, o, hf, eo.loc, ho, fun vs q => by rw [hd] at q; cases q⟩

def tstOf : St → Tst
  | .cond c _ _ _ => c
  | _ => .val (.num 0 ⟨0, 0, 0, 0⟩)
def take_tst : Tst := tstOf bd_L_take_in.tl.tl.hd

theorem take_at (P : Params) : ∃ (oc : Value) (od : Option Addr) (osl : Array (Option Value)) (name qual : Str) (params : Arguments) (scope : Scope) (dV kV doc pm : Value) (an : Option Addr) (cdv ct : Value),
    (hd.heap_39 P).lookup 273 = some ⟨oc, od, .func (fnOf name qual params (trSs nm_L_take_in bd_L_take_in) scope dV kV doc pm an cdv ct), osl⟩ ∧ codeIn (hd.heap_39 P) cdv qual = true ∧
    (scope.kind = .function ∧ nodupS (scope.names.map (·.1)) = true ∧ scope.isCoroutine = false ∧ scope.isGenerator = false ∧ nodupS nm_L_take_in = true ∧ nodupS (nm_L_take_in.take 2) = true ∧ okSs (fun x => scope.names.lookup x) nm_L_take_in bd_L_take_in = true ∧
      (nm_L_take_in.take 2).all (fun x => scope.names.lookup x == some .local || scope.names.lookup x == some .cell) = true ∧ 2 ≤ nm_L_take_in.length) ∧
    (∀ vals : List Value, vals.length = 2 → bindArgs (fnOf name qual params (trSs nm_L_take_in bd_L_take_in) scope dV kV doc pm an cdv ct) ⟨vals, []⟩ = pure ((nm_L_take_in.take 2).zip vals)) ∧
    scope.names.lookup (Str.ofString "OutOfRange") = some NameKind.globalImplicit := by
  refine ⟨_, _, _, _, _, _, _, _, _, _, _, _, _, _, rfl, rfl, ⟨rfl, rfl, rfl, rfl, rfl, rfl, rfl, rfl, by decide⟩, fun vals h => ?_, rfl⟩
  match vals, h with
  | [a0, a1], _ => rfl

section
variable {h0 : Heap} {prog : Program} {w : World} {mg mb : Str → Option Value} (G : Gd (KK w) h0 mg mb) {n : Nat} {bmB : List Value} {newId B initId : String}

include G in
theorem take_test {M : Addr → Prop} {s : Addr} {A : LA} {L : LC} {k : Nat} {σ : AHeap} {u2 u3 u4 u5 : Option V} {Q : Bool → AHeap → Prop} (s4 : LatAt h0 M σ s A (tkL L k)) (hs : L.sizes.length = k + 1) (hd : tkD L k = 0) (hQ : Q true σ) :
    wpT (Bs h0) (CC prog w h0 (n + 6)) take_tst [some (.ref s), some (.int (k : Nat)), u2, u3, u4, u5] σ Q := by
  obtain ⟨ss, hss, hS⟩ := s4.sizes
  obtain ⟨z, z1, z2⟩ := hS.at (i := k + 1) (by show k + 1 < (L.sizes ++ [tkD L k]).length; rw [List.length_append, hs]; exact Nat.lt_succ_self _)
  have ez : gt (tkL L k).sizes (k + 1) = tkD L k := by
    show gt (L.sizes ++ [tkD L k]) (k + 1) = _
    rw [gt_append_right (by rw [hs]; exact Nat.le_refl _), hs]; simp [gt]
  rw [ez, hd] at z2
  conv => whnf
  refine s4.aSx ?_
  conv => whnf
  refine ixL hss (k + 1) z (by omega) z1 ?_
  conv => whnf
  refine CC.up (n := n + 1) (c_s_sign G z2 ?_) (by omega)
  rw [if_pos rfl]
  conv => whnf
  exact hQ

include G in
theorem take_raises {M : Addr → Prop} {x : Addr} {A' : LA} {L : LC} {k : Nat} {σ : AHeap} {s : Shared} {A : Around} {vals : List Value} {env0 : Env} {nm0 : List Str} {ρ0 : Loc} {z : Int} {i0 : Nat}
    (O : OwnCls "OutOfRange" 49 bmB newId mg h0) (FB : ExcBaseFacts B newId initId bmB)
    (R : Room A (n + 7)) (kk : Ok h0 σ s) (hfr0 : A.frames = some [env0]) (hf0 : env0.frame = some env0.locals) (eo0 : EnvOk h0 env0) (F0 : Fm env0 nm0 ρ0 σ s.heap) (hz1 : nm0[i0]? = some "worth") (hz2 : env0.kindOf "worth" = some .local) (hz3 : ρ0.getD i0 none = some (.int z))
    (h : LatAt h0 M σ x A' L) (ok : TkOk L k) (hd : tkD L k = 0) (hv : vals.map abst = [.ref x, .int (k : Nat)]) :
    codeAny (model prog w) A (.call (.ref 273) ⟨vals, []⟩) (fun r s' => ∃ e, r = .error e ∧ Thr h0 env0 z s.os s.gens e s') s := by
  obtain ⟨oc, od, osl, name, qual, params, scope, dV, kV, doc, pm, an, cdv, ct, h1, h2, ⟨a1, a2, a3, a4, a5, a6, a7, a8, a9⟩, h3, h4⟩ := take_at w.params
  have X := G.X.keeps kk.base
  have hvl : vals.length = 2 := by rw [← List.length_map (f := abst), hv]; rfl
  refine fn_enter G R kk (X _ _ h1) (fd := fnOf name qual params (trSs nm_L_take_in bd_L_take_in) scope dV kV doc pm an cdv ct) (nm := nm_L_take_in) (k := 2) rfl rfl (codeRec_of X h2) rfl rfl rfl a1 a2 a3 a4 a6 (h3 vals hvl) a8 a9 hvl fun env s1 hkd eo ap hf hkind own P1 F R1 => ?_
  have ko : okSs env.kindOf nm_L_take_in bd_L_take_in = true := by rw [hkd]; exact a7
  have k1 := kk.post0 P1
  rw [hv, show entry nm_L_take_in.length [V.ref x, V.int (k : Nat)] = [some (.ref x), some (.int (k : Nat)), none, none, none, none] from rfl] at F
  have pre := take_pre (n := n) (prog := prog) (R := fun _ _ => False) G (r := .nil) (N := fun ρ σ' => ∃ u2 u3 u4 u5 M' A2, ρ = [some (.ref x), some (.int (k : Nat)), u2, u3, u4, u5] ∧ LatAt h0 M' σ' x A2 (tkL L k)) h ok
    fun M' A2 σ' u2 u3 u4 u5 _ _ _ l => ⟨u2, u3, u4, u5, M', A2, rfl, l⟩
  rw [CC_eq] at pre
  simp only [okSs, bd_L_take_in, Bool.and_eq_true] at ko
  show wpAny _ _ (execs (trSs nm_L_take_in (.cons bd_L_take_in.hd (.cons bd_L_take_in.tl.hd .nil)) ++ [.If (trT nm_L_take_in take_tst) [.Raise (some (.Call (.Name "OutOfRange" ⟨184, 18, 184, 28⟩) [.Constant (.str "rows that depend on one another") 0 ⟨184, 29, 184, 62⟩] [] ⟨184, 18, 184, 63⟩)) none ⟨184, 12, 184, 63⟩] [] ⟨183, 8, 184, 63⟩]) env) _ _ _
  refine run_app G a5 eo ap R1 _ (by simp only [okSs, Bool.and_eq_true]; exact ⟨ko.1, ko.2.1, trivial⟩) k1 F pre (fun ρ' σ' s' hN k2 F2 P2 => ?_) fun _ _ _ q => q.elim
  obtain ⟨u2, u3, u4, u5, M', A2, rfl, l2⟩ := hN
  refine wpAny_execs_cons (wpAny_If ?_)
  have tt := take_test (n := n) (prog := prog) (u2 := u2) (u3 := u3) (u4 := u4) (u5 := u5) (Q := fun t υ => t = true ∧ υ = σ') G l2 ok.hs hd ⟨rfl, rfl⟩
  rw [CC_eq] at tt
  have ko2 : okT env.kindOf nm_L_take_in take_tst = true := by
    have := ko.2.2.1
    simp only [okS, Bool.and_eq_true] at this
    exact this.1.1
  refine wpAny_mono (sndT G take_tst ko2 eo R1 k2 F2 tt) (fun t s2 q => ?_) fun _ _ e => e
  obtain ⟨σ2, ⟨rfl, rfl⟩, P3⟩ := q
  rw [if_pos rfl]
  have k3 := k2.post0 P3
  have F3 := F2.post P3
  have PP : Post h0 nobody σ s σ2 s2 := ((P1.wide.trans P2).trans P3.wide).narrow own
  have F03 := F0.post PP
  refine wpAny_execs_cons (raise_oor G O FB eo (by rw [hkd]; exact h4) k3 R1.handled fun h' e vs tk hm => ?_)
  refine wpAny_leaves_madeW (Around.frames_deeper hfr0) hf k3.base ⟨(fm_frame F3 eo hf).1, (fm_frame F3 eo hf).2, (fm_frame F03 eo0 hf0).1, (fm_frame F03 eo0 hf0).2, trivial⟩ hm fun h'' t fl _ _ us => ?_
  refine ⟨_, rfl, e, .ref t, rfl, fl, ⟨?_, PP.os, PP.gens⟩⟩
  obtain ⟨m, n1, n2⟩ := F03.ns
  obtain ⟨u, q1, q2⟩ := n2 _ _ _ hz1 hz2 hz3
  obtain ⟨tk', rfl⟩ := abst_int q2
  exact ⟨m, us.ns ((Heap.UpToSlots.of_keeps hm.keeps).ns n1), tk', q1⟩
end
end Mine
end
section
set_option maxRecDepth 100000
namespace Mine
open PySem PySem.W PyProof.Rows PySem.Calls

structure Grow (M : Addr → Prop) (σ : AHeap) (M' : Addr → Prop) (σ' : AHeap) : Prop where
  sub : ∀ m, M m → M' m
  fresh : ∀ m, M' m → M m ∨ σ m = none
  ext : ExtM M σ σ'
theorem Grow.refl {M : Addr → Prop} {σ : AHeap} : Grow M σ M σ := ⟨fun _ h => h, fun _ h => .inl h, fun _ _ _ e => e⟩
theorem Grow.trans {M M1 M2 : Addr → Prop} {σ σ1 σ2 : AHeap} (h : Grow M σ M1 σ1) (h' : Grow M1 σ1 M2 σ2) : Grow M σ M2 σ2 := by
  have key : ∀ a o, ¬ M a → σ a = some o → ¬ M1 a := fun a o n e q => by
    rcases h.fresh a q with z | z
    · exact n z
    · rw [e] at z; cases z
  refine ⟨fun m q => h'.sub m (h.sub m q), fun m q => ?_, fun a o n e => h'.ext a o (key a o n e) (h.ext a o n e)⟩
  rcases h'.fresh m q with z | z
  · exact h.fresh m z
  · by_cases hm : M m
    · exact .inl hm
    · right
      cases e : σ m with
      | none => rfl
      | some o => have := h.ext m o hm e; rw [z] at this; cases this
theorem Grow.of_ext {M : Addr → Prop} {σ σ' : AHeap} (e : Ext σ σ') : Grow M σ M σ' := ⟨fun _ h => h, fun _ h => .inl h, e.toM⟩
theorem Grow.out {M M' : Addr → Prop} {σ σ' : AHeap} (h : Grow M σ M' σ') {a : Addr} {o : AObj} (n : ¬ M a) (e : σ a = some o) : ¬ M' a ∧ σ' a = some o := by
  refine ⟨fun q => ?_, h.ext a o n e⟩
  rcases h.fresh a q with z | z
  · exact n z
  · rw [e] at z; cases z

section
variable {h0 : Heap} {prog : Program} {w : World} {K : Frag} {mg mb : Str → Option Value} (G : Gd K h0 mg mb) {n : Nat}

include G in
theorem forr_gen {b : Sts} (t : Tg) (src : Src) (p : Pos) {env : Env} {nm : List Str} {ρ : Loc} {σ : AHeap} {N : Loc → AHeap → Prop} {s : Shared} {A : Around} {E : Value → Shared → Prop} {items : List (List V)} {I : Nat → Loc → AHeap → Prop} {Thrw : Value → Shared → Prop}
    (o1 : tgKind t src = true) (o2 : okTg2 env.kindOf nm t = true) (o3 : okSrc env.kindOf nm src = true) (hnd : nodupS nm = true) (eo : EnvOk h0 env) (ap : Apart env) (R : Room A n) (k : Ok h0 σ s) (F : Fm env nm ρ σ s.heap)
    (h : wpSrc (Bs h0) (SemCall prog w K h0 n) src ρ σ (fun its g σ' => its = items ∧ I 0 ρ σ' ∧ ∀ k ρ σ, I k ρ σ → g σ))
    (hb : ∀ k ρ' σ' s' it E', I k ρ' σ' → items[k]? = some it → Ok h0 σ' s' → Fm env nm (setTg t it ρ') σ' s'.heap → s'.os = s.os → s'.gens = s.gens → (∀ e s'', Thrw e s'' → E' e s'') →
      wpAny (model prog w) A (execs (trSs nm b) env) (Flq h0 env nm (fun ρ σ => I (k + 1) ρ σ) (fun _ _ => False) σ' s') E' s')
    (hE : ∀ e s', Thrw e s' → notedBy (model prog w) A env (cameBackBy (model prog w) A env E) e s')
    (hN : ∀ ρ' σ', I items.length ρ' σ' → N ρ' σ') :
    wpAny (model prog w) A (exec (trS nm (.forr t src b p)) env) (Flq h0 env nm N (fun _ _ => False) σ s) E s := by
  refine wpAny_For (wpAny_mono (sndSrc G src (E := E) o3 eo R k F h) (fun x s1 h1 => wpAny_mono h1 (fun it s2 h2 => ?_) fun _ _ e => e) fun _ _ e => e) (folded_src src)
  obtain ⟨Ia, wr, items', g, St, σ2, r⟩ := h2
  obtain ⟨rfl, i0, ig⟩ := r.q
  rw [r.it]
  have k2 := k.post0 r.post
  have F2 := F.post r.post
  have W := r.iter env nm _ t o1 eo (tg_ok2 eo ap hnd o2)
  have wr2 : ∀ b ∈ wr, ∃ o, s2.heap.get? b = some o := r.here _ _ r.start
  have wrn : ∀ b ∈ wr, ¬ ownOfEnv env b ∧ Bs h0 b := fun b hb => ⟨fun q => (by obtain ⟨o, e⟩ := F.own_there b q; rw [(r.fresh b hb).1] at e; cases e), k.bs (r.fresh b hb).1⟩
  have ended : ∀ {σ' s1 s'} (P1 : Post h0 (fun a => ownOfEnv env a ∨ a ∈ wr) σ2 s2 σ' s1) (ok' : Ok h0 σ' s') (hkeep : ∀ b o, b ∉ wr → s1.heap.get? b = some o → s'.heap.get? b = some o) (ho : s'.os = s1.os) (hg : s'.gens = s1.gens), Post h0 (ownOfEnv env) σ s σ' s' :=
    fun P1 ok' hkeep ho hg => r.post.ended P1 ok' hkeep ho hg (fun b hb => (r.fresh b hb).1) fun a ha => by
      rcases ha with ha | ha
      · exact .inl ha
      · exact .inr (r.fresh a ha).1
  refine codeAny_forLoop_any (fun m s' => ∃ j ρ' σ', j ≤ items'.length ∧ m = items'.length + 1 - j ∧ I j ρ' σ' ∧ Ok h0 σ' s' ∧ Fm env nm ρ' σ' s'.heap ∧ St j s'.heap ∧ (∀ b ∈ wr, σ' b = none) ∧ Post h0 (fun a => ownOfEnv env a ∨ a ∈ wr) σ2 s2 σ' s')
    (fun m s' hI => ?_) (items'.length + 1) ⟨0, ρ, σ2, Nat.zero_le _, rfl, i0, k2, F2, r.start, fun b hb => (r.fresh b hb).2, .refl k2⟩
  obtain ⟨j, ρ', σ', hj, rfl, hi, k', F', st, hw, P⟩ := hI
  have hw' : ∀ b ∈ wr, σ' b = none ∧ ¬ ownOfEnv env b ∧ Bs h0 b := fun b hb => ⟨hw b hb, wrn b hb⟩
  rcases Nat.lt_or_ge j items'.length with hlt | hge
  · have hit : items'[j]? = some items'[j] := List.getElem?_eq_getElem hlt
    refine W.turn j s' σ' ρ' _ _ _ _ hit (ig _ _ _ hi) k' F' hw' st fun s3 k3 F3 st3 P3 => ?_
    have P03 : Post h0 (fun a => ownOfEnv env a ∨ a ∈ wr) σ2 s2 σ' s3 := P.trans P3
    refine wpAny_mono (hb j ρ' σ' s3 _ _ hi hit k3 F3 (P03.os.trans r.post.os) (P03.gens.trans r.post.gens) hE) (fun f s4 r4 => ?_) fun _ _ e => e
    cases f with
    | next =>
      obtain ⟨ρ4, σ4, hi4, F4, P4⟩ := r4
      refine ⟨items'.length + 1 - (j + 1), by omega, j + 1, ρ4, σ4, hlt, rfl, hi4, k3.post P4 eo.own, F4, ?_, fun b hb => P4.unk (hw b hb) (r.here _ _ st3 b hb), P03.trans (P4.widen fun a q => .inl q)⟩
      exact r.frame _ _ _ (fun b hb o e => P4.stays (hw b hb) (wrn b hb).1 e) st3
    | ret v =>
      obtain ⟨σ4, hr, P4⟩ := r4
      exact hr.elim
    | _ => exact r4.elim
  · have hke : j = items'.length := Nat.le_antisymm hj hge
    subst hke
    refine W.done s' σ' ρ' _ _ _ (ig _ _ _ hi) k' F' hw' st fun s3 k3 F3 hlv hkeep ho hgn => ?_
    exact wpAny_execs_nil ⟨ρ', σ', hN _ _ hi, F3, ended P k3 hkeep ho hgn⟩
end

section
variable {h0 : Heap} {prog : Program} {w : World} {mg mb : Str → Option Value} (G : Gd (KK w) h0 mg mb) {n : Nat} {bmB : List Value} {newId B initId : String}

theorem k_keeps_take (P : Params) : keepIn (hd.heap_39 P) (.ref 273) = true := rfl

include G in
theorem stmt_raises {M : Addr → Prop} {x : Addr} {A' : LA} {L : LC} {k : Nat} {σ : AHeap} {s : Shared} {A : Around} {env : Env} {ρ : Loc} {z : Int} {E : Value → Shared → Prop} {Q : Flow → Shared → Prop} {p1 p2 p3 p4 p5 : Pos}
    (O : OwnCls "OutOfRange" 49 bmB newId mg h0) (FB : ExcBaseFacts B newId initId bmB)
    (R : Room A (n + 7)) (kk : Ok h0 σ s) (hfr : A.frames = some [env]) (hf : env.frame = some env.locals) (eo : EnvOk h0 env) (F : Fm env nm_law ρ σ s.heap) (hz2 : env.kindOf "worth" = some .local)
    (ok1 : okE env.kindOf nm_law (.loc 10 p1) = true) (ok2 : okEs env.kindOf nm_law (.cons (.loc 11 p2) .nil) = true) (hp : (p3.endLine == p4.line) = true)
    (r8 : ρ.getD 8 none = some (.int z)) (r10 : ρ.getD 10 none = some (.ref x)) (r11 : ρ.getD 11 none = some (.int (k : Nat)))
    (h : LatAt h0 M σ x A' L) (ok : TkOk L k) (hd : tkD L k = 0) (hE : ∀ e s', Thr h0 env z s.os s.gens e s' → E e s') :
    wpAny (model prog w) A (exec (trS nm_law (.expr (.meth (.loc 10 p1) "take_in" 273 (.cons (.loc 11 p2) .nil) p3 p4) p5)) env) Q E s := by
  refine wpAny_Expr (wpAny_mono (Q := fun _ _ => False) (E := E) ?_ (fun _ _ h => h.elim) fun _ _ e => e) (by unfold interactive; rw [eo.kind]; rfl) (notComp_swaps (.meth (.loc 10 p1) "take_in" 273 (.cons (.loc 11 p2) .nil) p3 p4) rfl)
  refine meth_open (e := .loc 10 p1) rfl hp (method_form (.cons (.loc 11 p2) .nil) (by show 1 < 20; omega)) ?_
  refine wpAny_mono (sndE G (.loc 10 p1) (Q := fun v υ => v = .ref x ∧ υ = σ) ok1 eo R kk F ?_) (fun ov s1 q pl => ?_) fun _ _ e => e
  · unfold wpE; rw [r10]; exact ⟨rfl, rfl⟩
  obtain ⟨σ1, ⟨q1, rfl⟩, P1⟩ := q
  have k1 := kk.post0 P1
  have F1 := F.post P1
  obtain ⟨es, m, fa, h8, gd, gx, I⟩ := inst_at k1 h.inst h.dict
  rw [abst_ref q1]
  obtain ⟨m1, m2⟩ := G.kf.meth "take_in" 273 (by decide)
  refine method_fn (G.X.keeps k1.base) I G.kf.ga G.kf.gat m1 m2 (by show (lookIn _ (dictOf es m)).map _ = _; rw [lookIn_dict, fields_no fa h8 fun i hi => mt_field i (by omega) "take_in" 273 (by decide)]; rfl) ?_
  refine keep_call (as := .cons (.loc 11 p2) .nil) (P := fun h => (KK w).In h) (fun hp x => keeps_K (k_keeps_take w.params) hp x) (wpAny_mono (sndEs G (.cons (.loc 11 p2) .nil) (Q := fun vs υ => vs = [.int (k : Nat)] ∧ υ = σ1) ok2 eo R k1 F1 ?_) (fun vs s2 q => ?_) fun _ _ e => e)
  · unfold wpEs wpE; rw [r11]; exact ⟨rfl, rfl⟩
  obtain ⟨σ2, hl, ⟨q2, rfl⟩, P2⟩ := q
  have k2 := k1.post0 P2
  have F2 := F1.post P2
  refine ⟨G.X.keeps k2.base, wpAny_call (codeAny_mono (take_raises (n := n) G O FB R k2 hfr hf eo F2 (i0 := 8) rfl hz2 r8 h ok hd (by rw [List.map_append, q2]; rfl)) fun r s3 q => ?_)⟩
  obtain ⟨e, rfl, th⟩ := q
  exact hE e s3 (by rw [P2.os, P2.gens, P1.os, P1.gens] at th; exact th)
end
end Mine
end
section
set_option maxRecDepth 100000
namespace Mine
open PySem PySem.W PyProof.Rows PySem.Calls

section
variable {h0 : Heap} {prog : Program} {w : World} {mg mb : Str → Option Value} (G : Gd (KK w) h0 mg mb) {n : Nat} {bmB : List Value} {newId B initId : String}

include G in
theorem try_for {a0 a1 a3 a4 a5 a6 a7 a9 u0 a12 a13 a14 a15 a16 a17 a18 a19 a20 : Option V} {many : Nat} {z : Int} {x : Addr} {M0 : Addr → Prop} {A0 : LA} {Lk : Nat → LC} {σ : AHeap} {s : Shared} {A : Around} {env : Env} {E : Value → Shared → Prop} {Thrw : Value → Shared → Prop}
    (O : OwnCls "OutOfRange" 49 bmB newId mg h0) (FB : ExcBaseFacts B newId initId bmB) (hmany : many ≤ 1000)
    (R : Room A (n + 7)) (kk : Ok h0 σ s) (hfr : A.frames = some [env]) (hf : env.frame = some env.locals) (eo : EnvOk h0 env) (ap : Apart env) (hz2 : env.kindOf "worth" = some .local) (hok : okSs env.kindOf nm_law bd_law_try = true)
    (F : Fm env nm_law [a0, a1, some (.int (many : Nat)), a3, a4, a5, a6, a7, some (.int z), a9, some (.ref x), u0, a12, a13, a14, a15, a16, a17, a18, a19, a20] σ s.heap)
    (h : LatAt h0 M0 σ x A0 (Lk 0)) (ok : ∀ k, k < many → (∀ i, i < k → tkD (Lk i) i ≠ 0) → TkOk (Lk k) k) (st : ∀ k, k < many → (∀ i, i ≤ k → tkD (Lk i) i ≠ 0) → Lk (k + 1) = tkL (Lk k) k)
    (hthr : ∀ k, k < many → (∀ i, i < k → tkD (Lk i) i ≠ 0) → tkD (Lk k) k = 0 → ∀ e s', Thr h0 env z s.os s.gens e s' → Thrw e s')
    (hE : ∀ e s', Thrw e s' → notedBy (model prog w) A env (cameBackBy (model prog w) A env E) e s') :
    wpAny (model prog w) A (exec (trS nm_law bd_law_try.hd) env) (Flq h0 env nm_law (fun ρ' σ' => ∃ u M A', ρ' = [a0, a1, some (.int (many : Nat)), a3, a4, a5, a6, a7, some (.int z), a9, some (.ref x), u, a12, a13, a14, a15, a16, a17, a18, a19, a20] ∧
      (∀ i, i < many → tkD (Lk i) i ≠ 0) ∧ Grow M0 σ M σ' ∧ LatAt h0 M σ' x A' (Lk many)) (fun _ _ => False) σ s) E s := by
  have ko := hok
  simp only [bd_law_try, okSs, okS, Bool.and_eq_true] at ko
  obtain ⟨⟨⟨⟨b1, b2⟩, b3⟩, ⟨b4, b4'⟩, b5⟩, b6⟩ := ko
  simp only [okE, Bool.and_eq_true] at b4
  refine forr_gen (n := n + 7) (I := fun k ρ' σ' => ∃ u M A', ρ' = [a0, a1, some (.int (many : Nat)), a3, a4, a5, a6, a7, some (.int z), a9, some (.ref x), u, a12, a13, a14, a15, a16, a17, a18, a19, a20] ∧ k ≤ many ∧
      (∀ i, i < k → tkD (Lk i) i ≠ 0) ∧ Grow M0 σ M σ' ∧ LatAt h0 M σ' x A' (Lk k)) (items := upTo 0 (many : Nat)) (Thrw := Thrw) G _ _ _ b1 b2 b3 (by rfl) eo ap R kk F ?_ ?_ hE ?_
  · conv => whnf
    refine ⟨⟨by omega, by omega⟩, rfl, ⟨u0, M0, A0, rfl, Nat.zero_le _, fun i hi => absurd hi (Nat.not_lt_zero _), .refl, h⟩, fun _ _ _ _ => trivial⟩
  · rintro k _ σ' s' it E' ⟨u, M, A', rfl, hk, hnz, gr, hA⟩ hit k' F' ho hg hT
    obtain ⟨rfl, hlt⟩ := upTo_get hit
    have hkm : k < many := by omega
    rw [show (0 : Int) + (k : Int) = (k : Nat) by omega] at F'
    have tk := ok k hkm hnz
    by_cases hd : tkD (Lk k) k = 0
    · refine wpAny_execs_cons (stmt_raises (n := n) G O FB R k' hfr hf eo F' hz2 b4.1.2 b4.2 b4.1.1.2 rfl rfl rfl hA tk hd fun e s'' th => hT e s'' (hthr k hkm hnz hd e s'' (by rw [ho, hg] at th; exact th)))
    · have hnz' : ∀ i, i ≤ k → tkD (Lk i) i ≠ 0 := fun i hi => by
        rcases Nat.lt_or_ge i k with q | q
        · exact hnz i q
        · rw [show i = k by omega]; exact hd
      refine sndSs G _ (by simp only [okSs, okS, okE, Bool.and_eq_true]; exact ⟨⟨b4, b4'⟩, trivial⟩) (by rfl) eo ap R k' F' ?_
      rw [← CC_eq]
      conv => whnf
      refine ⟨hA.self.inst, ?_⟩
      conv => whnf
      refine c_take_in G hA tk hd fun M' A2 σ2 q1 q2 q3 q4 => ?_
      conv => whnf
      refine ⟨rfl, _, M', A2, rfl, hkm, fun i hi => hnz' i (by omega), gr.trans ⟨q1, q2, q3⟩, ?_⟩
      rw [st k hkm hnz']
      exact q4
  · rintro _ σ' ⟨u, M, A', rfl, hk, hnz, gr, hA⟩
    rw [upTo_len, show ((many : Int) - 0).toNat = many by omega] at hnz hA
    exact ⟨u, M, A', rfl, hnz, gr, hA⟩

include G in
theorem try_stmt {a0 a1 a3 a4 a5 a6 a7 a9 u0 a12 a13 a14 a15 a16 a17 a18 a19 a20 : Option V} {many : Nat} {z : Int} {x : Addr} {M0 : Addr → Prop} {A0 : LA} {Lk : Nat → LC} {σ : AHeap} {s : Shared} {A : Around} {env : Env} {E : Value → Shared → Prop} {Q : Flow → Shared → Prop} {np cp rp wp hp rtp pos : Pos}
    (O : OwnCls "OutOfRange" 49 bmB newId mg h0) (FB : ExcBaseFacts B newId initId bmB) (hmany : many ≤ 1000)
    (R : Room A (n + 7)) (kk : Ok h0 σ s) (hfr : A.frames = some [env]) (hf : env.frame = some env.locals) (eo : EnvOk h0 env) (ap : Apart env) (hk : env.kindOf "OutOfRange" = some .globalImplicit) (hz2 : env.kindOf "worth" = some .local) (hok : okSs env.kindOf nm_law bd_law_try = true)
    (F : Fm env nm_law [a0, a1, some (.int (many : Nat)), a3, a4, a5, a6, a7, some (.int z), a9, some (.ref x), u0, a12, a13, a14, a15, a16, a17, a18, a19, a20] σ s.heap)
    (h : LatAt h0 M0 σ x A0 (Lk 0)) (ok : ∀ k, k < many → (∀ i, i < k → tkD (Lk i) i ≠ 0) → TkOk (Lk k) k) (st : ∀ k, k < many → (∀ i, i ≤ k → tkD (Lk i) i ≠ 0) → Lk (k + 1) = tkL (Lk k) k)
    (hz : ∀ k, k < many → (∀ i, i < k → tkD (Lk i) i ≠ 0) → tkD (Lk k) k = 0 → z = 0)
    (hbad : ∀ s', (∀ b o, h0.get? b = some o → s'.heap.get? b = some o) → s'.os = s.os → s'.gens = s.gens → Q (.ret (.bool true)) s')
    (hgo : ∀ u M A' σ' s', (∀ i, i < many → tkD (Lk i) i ≠ 0) → Grow M0 σ M σ' → LatAt h0 M σ' x A' (Lk many) → Ok h0 σ' s' →
      Fm env nm_law [a0, a1, some (.int (many : Nat)), a3, a4, a5, a6, a7, some (.int z), a9, some (.ref x), u, a12, a13, a14, a15, a16, a17, a18, a19, a20] σ' s'.heap → Post h0 (ownOfEnv env) σ s σ' s' → Q .next s') :
    wpAny (model prog w) A (exec (.Try (trSs nm_law bd_law_try) [.ExceptHandler (some (.Name "OutOfRange" np)) none [.Return (some (.Compare (.Name "worth" wp) [.Eq] [.Constant (.int 0) 0 cp] rp)) rtp] hp] [] [] pos) env) Q E s := by
  refine wpAny_Try_except ?_
  have fin : ∀ {E' : Value → Shared → Prop} (f : Flow) (s' : Shared), Flq h0 env nm_law (fun ρ' σ' => ∃ u M A', ρ' = [a0, a1, some (.int (many : Nat)), a3, a4, a5, a6, a7, some (.int z), a9, some (.ref x), u, a12, a13, a14, a15, a16, a17, a18, a19, a20] ∧
      (∀ i, i < many → tkD (Lk i) i ≠ 0) ∧ Grow M0 σ M σ' ∧ LatAt h0 M σ' x A' (Lk many)) (fun _ _ => False) σ s f s' → (match f with
        | .next => wpAny (model prog w) A (execs [] env) (fun f s₁ => match f with | .next => wpAny (model prog w) A (execs [] env) Q E s₁ | f => Q f s₁) E' s'
        | f => match f with | .next => wpAny (model prog w) A (execs [] env) Q E s' | f => Q f s') := by
    intro E' f s' q
    cases f with
    | next =>
      obtain ⟨_, σ', ⟨u, M, A', rfl, q1, q2, q3⟩, q4, q5⟩ := q
      exact wpAny_execs_nil (wpAny_execs_nil (hgo u M A' σ' s' q1 q2 q3 (kk.post q5 eo.own) q4 q5))
    | ret v => obtain ⟨_, q, _⟩ := q; exact q.elim
    | _ => exact q.elim
  show wpAny _ _ (execs [trS nm_law bd_law_try.hd] env) _ _ _
  by_cases hz0 : z = 0
  · refine wpAny_mono (E := Hld h0 env z s.os s.gens) (wpAny_execs_cons (wpAny_mono (try_for (n := n) G (Thrw := Thr h0 env z s.os s.gens) O FB hmany R kk hfr hf eo ap hz2 hok F h ok st (fun _ _ _ _ e s' t => t) fun e s' t => thr_passes hfr hf t) (fun f s' q => ?_) fun _ _ e => e)) (fun _ _ q => q) fun e s1 q => ?_
    · exact fin f s' q
    · refine handle G O FB.hasBase hf eo hk hz2 q fun s' q1 q2 q3 => ?_
      rw [decide_eq_true hz0]
      exact hbad s' q1 q2 q3
  · refine wpAny_mono (E := fun _ _ => False) (wpAny_execs_cons (wpAny_mono (try_for (n := n) G (Thrw := fun _ _ => False) O FB hmany R kk hfr hf eo ap hz2 hok F h ok st (fun k q1 q2 q3 => absurd (hz k q1 q2 q3) hz0) fun e s' t => t.elim) (fun f s' q => ?_) fun _ _ e => e)) (fun _ _ q => q) fun e s1 q => q.elim
    exact fin f s' q
end
end Mine
end
section
set_option maxRecDepth 100000
namespace Mine
open PySem PySem.W PyProof.Rows PySem.Calls

theorem sq0 (x : Int) : 0 ≤ x * x := by
  rcases Int.le_total 0 x with h | h
  · exact Int.mul_nonneg h h
  · have := Int.mul_nonneg (show 0 ≤ -x by omega) (show 0 ≤ -x by omega)
    rwa [Int.neg_mul_neg] at this
theorem abs_sq (x : Int) : (x.natAbs : Int) ≤ x * x := by
  rcases Int.le_total 0 x with h | h
  · rcases Int.lt_or_eq_of_le h with h' | h'
    · have := Int.mul_le_mul_of_nonneg_right (show 1 ≤ x by omega) h
      omega
    · subst h'; decide
  · rcases Int.lt_or_eq_of_le h with h' | h'
    · have := Int.mul_le_mul_of_nonneg_right (show 1 ≤ -x by omega) (show 0 ≤ -x by omega)
      rw [Int.neg_mul_neg] at this
      omega
    · subst h'; decide
theorem mul_up {a b c d : Int} (h1 : a ≤ c) (h2 : b ≤ d) (h3 : 0 ≤ b) (h4 : 0 ≤ c) : a * b ≤ c * d := Int.mul_le_mul h1 h2 h3 h4
theorem sq_up {x d : Int} (h : (x.natAbs : Int) ≤ d) : x * x ≤ d * d := by
  have e : x * x = (x.natAbs : Int) * x.natAbs := by rw [Int.natAbs_mul_self' x]
  rw [e]
  exact mul_up h h (by omega) (by omega)
theorem le_mul_one {x d : Int} (hx : 0 ≤ x) (hd : 1 ≤ d) : x ≤ d * x := by
  have := Int.mul_le_mul_of_nonneg_right hd hx
  omega

theorem nq_rest {x d : Int} (hd : 1 ≤ d) : 2 * ((x - (2 * x + d).fdiv (2 * d) * d).natAbs : Int) ≤ d := by
  have e := Int.fdiv_eq_ediv_of_nonneg (2 * x + d) (show 0 ≤ 2 * d by omega)
  have h1 := Int.mul_ediv_add_emod (2 * x + d) (2 * d)
  have h2 := Int.emod_nonneg (2 * x + d) (show 2 * d ≠ 0 by omega)
  have h3 := Int.emod_lt_of_pos (2 * x + d) (show 0 < 2 * d by omega)
  rw [e]
  generalize (2 * x + d) / (2 * d) = q at *
  have h4 : 2 * d * q = 2 * (q * d) := by rw [Int.mul_assoc, Int.mul_comm d q]
  omega
theorem nq_sq {x d : Int} (hd : 1 ≤ d) : (2 * x + d).fdiv (2 * d) * (2 * x + d).fdiv (2 * d) ≤ 2 * (x * x) + 2 := by
  have h := nq_rest (x := x) hd
  generalize (2 * x + d).fdiv (2 * d) = q at *
  have h1 : ((q * d).natAbs : Int) ≤ x.natAbs + d := by omega
  rw [Int.natAbs_mul] at h1
  have h2 : (q.natAbs : Int) ≤ x.natAbs + 1 := by
    rcases Int.lt_or_le ((x.natAbs : Int) + 1) q.natAbs with c | c
    · exfalso
      have e1 : ((d.natAbs : Nat) : Int) = d := by omega
      rw [Int.natCast_mul, e1] at h1
      have := Int.mul_le_mul_of_nonneg_right (show (x.natAbs : Int) + 2 ≤ q.natAbs by omega) (show 0 ≤ d by omega)
      have := Int.mul_le_mul_of_nonneg_left hd (show (0 : Int) ≤ x.natAbs by omega)
      rw [Int.add_mul] at *
      omega
    · exact c
  have h3 := sq_up h2
  have h4 : (x.natAbs : Int) * x.natAbs = x * x := Int.natAbs_mul_self' x
  have h5 := abs_sq x
  have h6 : ((x.natAbs : Int) + 1) * (x.natAbs + 1) = x.natAbs * x.natAbs + 2 * x.natAbs + 1 := by
    rw [Int.add_mul, Int.mul_add, Int.one_mul]; omega
  have h7 := sq0 ((x.natAbs : Int) - 1)
  have h8 : ((x.natAbs : Int) - 1) * (x.natAbs - 1) = x.natAbs * x.natAbs - 2 * x.natAbs + 1 := by
    rw [Int.sub_mul, Int.mul_sub, Int.one_mul]; omega
  omega

theorem V3.dot_nonneg (u : V3) : 0 ≤ u.dot u := by
  have h1 := sq0 u.x; have h2 := sq0 u.y; have h3 := sq0 u.z
  unfold V3.dot; omega
theorem V3.ent (u : V3) {T : Int} (h : u.dot u ≤ T) : (u.x.natAbs : Int) ≤ T ∧ (u.y.natAbs : Int) ≤ T ∧ (u.z.natAbs : Int) ≤ T := by
  have h1 := sq0 u.x; have h2 := sq0 u.y; have h3 := sq0 u.z
  have a1 := abs_sq u.x; have a2 := abs_sq u.y; have a3 := abs_sq u.z
  unfold V3.dot at h; omega

theorem s20_e2 (r : R3) (q : Int) : (r.s20 q).e2 = r.e2 := by simp only [R3.s20, R3.e2, V3.less, V3.dot]; grind
theorem less_sq (u v : V3) (q : Int) : (u.less v q).dot (u.less v q) + (u.dot u + 2 * (q * u.dot v) + q * q * v.dot v) = 2 * u.dot u + 2 * (q * q * v.dot v) := by simp only [V3.less, V3.dot]; grind
theorem plus_sq (u v : V3) (q : Int) : 0 ≤ u.dot u + 2 * (q * u.dot v) + q * q * v.dot v := by
  have h1 := sq0 (u.x + q * v.x); have h2 := sq0 (u.y + q * v.y); have h3 := sq0 (u.z + q * v.z)
  have : u.dot u + 2 * (q * u.dot v) + q * q * v.dot v = (u.x + q * v.x) * (u.x + q * v.x) + (u.y + q * v.y) * (u.y + q * v.y) + (u.z + q * v.z) * (u.z + q * v.z) := by
    simp only [V3.dot]; grind
  omega
theorem less_le (u v : V3) (q : Int) : (u.less v q).dot (u.less v q) ≤ 2 * u.dot u + 2 * (q * q * v.dot v) := by
  have := less_sq u v q; have := plus_sq u v q; omega

structure R3.Bd (r : R3) (S U Tb Tc : Int) : Prop where
  p1 : 1 ≤ r.d1
  p2 : 1 ≤ r.d2
  p3 : 1 ≤ r.d3
  s1 : r.d1 ≤ S
  s2 : r.d2 ≤ S
  s3 : r.d3 ≤ U
  nb : r.b.dot r.b ≤ Tb
  nc : r.c.dot r.c ≤ Tc

section
variable {r : R3} {S U Tb Tc : Int}
theorem R3.Bd.e2p (h : r.Bd S U Tb Tc) : 1 ≤ r.e2 := by
  have e := r.syl
  have h1 := sq0 r.l21
  have h2 := mul_up h.p1 h.p3 (by decide) (by have := h.p1; omega)
  rcases Int.lt_or_le 0 r.e2 with c | c
  · omega
  · have := Int.mul_nonneg (show 0 ≤ r.d2 by have := h.p2; omega) (show 0 ≤ -r.e2 by omega)
    rw [Int.mul_neg] at this
    omega
theorem R3.Bd.l10 (h : r.Bd S U Tb Tc) : r.l10 * r.l10 ≤ S * Tb := by
  have e : r.d2 = r.d1 * r.b.dot r.b - r.l10 * r.l10 := rfl
  have := mul_up h.s1 h.nb r.b.dot_nonneg (by have := h.s1; have := h.p1; omega)
  have := h.p2
  omega
theorem R3.Bd.e2le (h : r.Bd S U Tb Tc) : r.e2 ≤ S * Tc := by
  have e : r.e2 = r.d1 * r.c.dot r.c - r.l20 * r.l20 := rfl
  have := mul_up h.s1 h.nc r.c.dot_nonneg (by have := h.s1; have := h.p1; omega)
  have := sq0 r.l20
  omega
theorem R3.Bd.l20 (h : r.Bd S U Tb Tc) : r.l20 * r.l20 ≤ S * Tc := by
  have e : r.e2 = r.d1 * r.c.dot r.c - r.l20 * r.l20 := rfl
  have := mul_up h.s1 h.nc r.c.dot_nonneg (by have := h.s1; have := h.p1; omega)
  have := h.e2p
  omega
theorem R3.Bd.l21 (h : r.Bd S U Tb Tc) : r.l21 * r.l21 ≤ S * (S * Tc) := by
  have e := r.syl
  have h2 := mul_up h.p1 h.p3 (by decide) (by have := h.p1; omega)
  have h3 := mul_up h.s2 h.e2le (by have := h.e2p; omega) (by have := h.s2; have := h.p2; omega)
  omega
theorem nb_red (h1 : 1 ≤ r.d1) (h1' : r.d1 ≤ S) (h2 : r.d2 ≤ S) (hl : 2 * (r.l10.natAbs : Int) ≤ r.d1) : r.b.dot r.b ≤ S + S * S := by
  have e : r.d2 = r.d1 * r.b.dot r.b - r.l10 * r.l10 := rfl
  have h3 := le_mul_one r.b.dot_nonneg h1
  have h4 := sq_up (show (r.l10.natAbs : Int) ≤ S by omega)
  omega
theorem R3.Bd.s10 (h : r.Bd S U Tb Tc) : (r.s10 (q10 r)).Bd S U (S + S * S) Tc := by
  have e1 := s10_d1 r (q10 r); have e2 := s10_d2 r (q10 r); have e3 := s10_d3 r (q10 r)
  refine ⟨h.p1, by rw [e2]; exact h.p2, by rw [e3]; exact h.p3, h.s1, by rw [e2]; exact h.s2, by rw [e3]; exact h.s3, ?_, h.nc⟩
  refine nb_red h.p1 h.s1 (by rw [e2]; exact h.s2) ?_
  rw [s10_l10]
  exact nq_rest h.p1
theorem R3.Bd.s20 (h : r.Bd S U Tb Tc) : (r.s20 (q20 r)).Bd S U Tb (Tc + S) := by
  have e1 := s20_d1 r (q20 r); have e2 := s20_d2 r (q20 r); have e3 := s20_d3 r (q20 r)
  refine ⟨h.p1, by rw [e2]; exact h.p2, by rw [e3]; exact h.p3, h.s1, by rw [e2]; exact h.s2, by rw [e3]; exact h.s3, h.nb, ?_⟩
  have a1 : (r.s20 (q20 r)).e2 = r.d1 * (r.s20 (q20 r)).c.dot (r.s20 (q20 r)).c - (r.s20 (q20 r)).l20 * (r.s20 (q20 r)).l20 := rfl
  have a2 : r.e2 = r.d1 * r.c.dot r.c - r.l20 * r.l20 := rfl
  rw [s20_e2, s20_l20] at a1
  have a3 : 2 * ((r.l20 - q20 r * r.d1).natAbs : Int) ≤ r.d1 := nq_rest h.p1
  have a4 := sq_up (show ((r.l20 - q20 r * r.d1).natAbs : Int) ≤ r.d1 by omega)
  have a5 := sq0 r.l20
  have p := h.p1
  rcases Int.lt_or_le (r.c.dot r.c + r.d1) ((r.s20 (q20 r)).c.dot (r.s20 (q20 r)).c) with c | c
  · exfalso
    have := Int.mul_le_mul_of_nonneg_left (show r.c.dot r.c + r.d1 + 1 ≤ (r.s20 (q20 r)).c.dot (r.s20 (q20 r)).c by omega) (show 0 ≤ r.d1 by omega)
    rw [Int.mul_add, Int.mul_add] at this
    omega
  · have := h.nc; have := h.s1; omega
theorem R3.Bd.s21 (h : r.Bd S U Tb Tc) (hT : 1 ≤ Tc) : (r.s21 (q21 r)).Bd S U Tb (2 * Tc + 2 * ((2 * (S * (S * Tc)) + 2) * Tb)) := by
  have e1 := s21_d1 r (q21 r); have e2 := s21_d2 r (q21 r); have e3 := s21_d3 r (q21 r)
  refine ⟨h.p1, by rw [e2]; exact h.p2, by rw [e3]; exact h.p3, h.s1, by rw [e2]; exact h.s2, by rw [e3]; exact h.s3, h.nb, ?_⟩
  have a1 : (r.s21 (q21 r)).c.dot (r.s21 (q21 r)).c ≤ 2 * r.c.dot r.c + 2 * (q21 r * q21 r * r.b.dot r.b) := less_le r.c r.b (q21 r)
  have a2 : q21 r * q21 r ≤ 2 * (r.l21 * r.l21) + 2 := nq_sq h.p2
  have a3 := h.l21
  have a4 := mul_up (show q21 r * q21 r ≤ 2 * (S * (S * Tc)) + 2 by omega) h.nb r.b.dot_nonneg (by have := sq0 (q21 r); omega)
  have := h.nc
  omega
theorem x1_pos (h1 : 1 ≤ r.d1) (h2 : 1 ≤ r.d2) : 1 ≤ r.x1.d1 := by
  have e := x1_d1 r
  have := sq0 r.l10
  rcases Int.lt_or_le 0 r.x1.d1 with c | c
  · omega
  · have := Int.mul_nonneg (show 0 ≤ -r.x1.d1 by omega) (show 0 ≤ r.d1 by omega)
    rw [Int.neg_mul] at this
    omega
theorem R3.Bd.x1 (h : r.Bd S U Tb Tc) (hd : r.x1.d1 ≤ r.d1) (hS : S ≤ Tb) : r.x1.Bd S U Tb Tc := by
  refine ⟨x1_pos h.p1 h.p2, by rw [x1_d2]; exact h.p2, by rw [x1_d3]; exact h.p3, by have := h.s1; omega, by rw [x1_d2]; exact h.s2, by rw [x1_d3]; exact h.s3, ?_, h.nc⟩
  have : r.x1.b.dot r.x1.b = r.d1 := rfl
  have := h.s1
  omega
theorem R3.Bd.x2 (h : r.Bd S U Tb Tc) (hd : r.x2.d2 ≤ r.d2) : r.x2.Bd S U Tc Tb := by
  have e : r.x2.d2 = r.e2 := rfl
  exact ⟨h.p1, by rw [e]; exact h.e2p, by rw [x2_d3]; exact h.p3, h.s1, by have := h.s2; omega, by rw [x2_d3]; exact h.s3, h.nc, h.nb⟩
end
end Mine
end
section
set_option maxRecDepth 100000
namespace Mine
open PySem PySem.W PyProof.Rows PySem.Calls

def SS : Int := 8192
def UU : Int := 1048576
def TT : Nat → Int
  | 0 => 134217728
  | n + 1 => 1073741824 * (TT n * TT n)
theorem TT_ge : ∀ n, 134217728 ≤ TT n
  | 0 => Int.le_refl _
  | n + 1 => by
    have h := TT_ge n
    have h1 := mul_up h h (by decide) (by omega)
    show 134217728 ≤ 1073741824 * (TT n * TT n)
    omega
theorem TT_step (n : Nat) : 2 * TT n + 2 * ((2 * (SS * (SS * TT n)) + 2) * TT n) ≤ TT (n + 1) := by
  have h := TT_ge n
  have h1 := Int.mul_le_mul_of_nonneg_right (show 1 ≤ TT n by omega) (show 0 ≤ TT n by omega)
  show _ ≤ 1073741824 * (TT n * TT n)
  have e : (2 * (SS * (SS * TT n)) + 2) * TT n = 134217728 * (TT n * TT n) + 2 * TT n := by
    unfold SS; rw [Int.add_mul, show (2 : Int) * (8192 * (8192 * TT n)) = 134217728 * TT n by omega, Int.mul_assoc]
  rw [e]
  omega
theorem TT_mono1 (n : Nat) : TT n + SS ≤ TT (n + 1) := by
  have h := TT_ge n
  have h1 := Int.mul_le_mul_of_nonneg_right (show 1 ≤ TT n by omega) (show 0 ≤ TT n by omega)
  show _ ≤ 1073741824 * (TT n * TT n)
  unfold SS; omega
theorem TT_mono {n m : Nat} (h : n ≤ m) : TT n ≤ TT m := by
  induction m with
  | zero => rw [Nat.le_zero.mp h]; exact Int.le_refl _
  | succ m ih =>
    rcases Nat.lt_or_ge m n with q | q
    · rw [show n = m + 1 by omega]; exact Int.le_refl _
    · have := ih q; have := TT_mono1 m; unfold SS at this; omega
theorem TT_pow : ∀ n, TT n * 1073741824 ≤ (2 : Int) ^ (57 * 2 ^ n)
  | 0 => by decide
  | n + 1 => by
    have h := TT_pow n
    have h0 := TT_ge n
    have h1 := mul_up h h (by omega) (by have := TT_ge n; exact Int.le_trans (show 0 ≤ TT n * 1073741824 by omega) h)
    rw [← Int.pow_add, show 57 * 2 ^ n + 57 * 2 ^ n = 57 * 2 ^ (n + 1) by rw [Nat.pow_succ]; omega] at h1
    have e : TT (n + 1) * 1073741824 = TT n * 1073741824 * (TT n * 1073741824) := by
      show 1073741824 * (TT n * TT n) * 1073741824 = _
      generalize TT n = x
      grind
    rw [e]; exact h1

@[irreducible] def KD : Nat := 58369
theorem KD_eq : KD = 58369 := by unfold KD; rfl
theorem pow_256 (k : Nat) : (256 : Int) ^ k = 2 ^ (8 * k) := by rw [Int.pow_mul]; rfl
theorem pow2_lt {a b : Nat} (h : a < b) : (2 : Int) ^ a < 2 ^ b := by
  have := Nat.pow_lt_pow_right (show 1 < 2 by decide) h
  have := Int.ofNat_lt.mpr this
  rwa [Int.natCast_pow, Int.natCast_pow] at this
theorem bnd_of {x : Int} (h : (x.natAbs : Int) ≤ 67108864 * TT 13) : Bnd KD x := by
  unfold Bnd
  have h1 := TT_pow 13
  have h2 := TT_ge 13
  have h3 : (2 : Int) ^ (57 * 2 ^ 13) < 256 ^ KD := by
    rw [pow_256, KD_eq]
    exact pow2_lt (by decide)
  omega

def R3.comb (r : R3) (x y z : Int) : V3 := ⟨x * r.a.x + y * r.b.x + z * r.c.x, x * r.a.y + y * r.b.y + z * r.c.y, x * r.a.z + y * r.b.z + z * r.c.z⟩
def R3.Spans (r : R3) (v : V3) : Prop := ∃ x y z, v = r.comb x y z
section
variable {r : R3} {v : V3} (q : Int)
theorem V3.ext' {u v : V3} (h1 : u.x = v.x) (h2 : u.y = v.y) (h3 : u.z = v.z) : u = v := by cases u; cases v; simp_all
theorem R3.Spans.s10 (h : r.Spans v) : (r.s10 q).Spans v := by
  obtain ⟨x, y, z, rfl⟩ := h
  refine ⟨x + y * q, y, z, V3.ext' ?_ ?_ ?_⟩ <;> (simp only [R3.comb, R3.s10, V3.less]; grind)
theorem R3.Spans.s20 (h : r.Spans v) : (r.s20 q).Spans v := by
  obtain ⟨x, y, z, rfl⟩ := h
  refine ⟨x + z * q, y, z, V3.ext' ?_ ?_ ?_⟩ <;> (simp only [R3.comb, R3.s20, V3.less]; grind)
theorem R3.Spans.s21 (h : r.Spans v) : (r.s21 q).Spans v := by
  obtain ⟨x, y, z, rfl⟩ := h
  refine ⟨x, y + z * q, z, V3.ext' ?_ ?_ ?_⟩ <;> (simp only [R3.comb, R3.s21, V3.less]; grind)
theorem R3.Spans.x1 (h : r.Spans v) : r.x1.Spans v := by
  obtain ⟨x, y, z, rfl⟩ := h
  refine ⟨y, x, z, V3.ext' ?_ ?_ ?_⟩ <;> (simp only [R3.comb, R3.x1]; omega)
theorem R3.Spans.x2 (h : r.Spans v) : r.x2.Spans v := by
  obtain ⟨x, y, z, rfl⟩ := h
  refine ⟨x, z, y, V3.ext' ?_ ?_ ?_⟩ <;> (simp only [R3.comb, R3.x2]; omega)
theorem R3.Spans.self_a : r.Spans r.a := ⟨1, 0, 0, V3.ext' (by simp [R3.comb]) (by simp [R3.comb]) (by simp [R3.comb])⟩
theorem R3.Spans.self_b : r.Spans r.b := ⟨0, 1, 0, V3.ext' (by simp [R3.comb]) (by simp [R3.comb]) (by simp [R3.comb])⟩
theorem R3.Spans.self_c : r.Spans r.c := ⟨0, 0, 1, V3.ext' (by simp [R3.comb]) (by simp [R3.comb]) (by simp [R3.comb])⟩
theorem det_a (x y z : Int) : ({ r with a := r.comb x y z } : R3).det = x * r.det := by simp only [R3.comb, R3.det]; grind
theorem det_b (x y z : Int) : ({ r with b := r.comb x y z } : R3).det = y * r.det := by simp only [R3.comb, R3.det]; grind
theorem det_c (x y z : Int) : ({ r with c := r.comb x y z } : R3).det = z * r.det := by simp only [R3.comb, R3.det]; grind
end

def V3.l3 (v : V3) : List Int := [v.x, v.y, v.z]
def V3.l2 (v : V3) : List Int := [v.x, v.y]
theorem det3_eq (r : R3) : detN 2 [r.a.l3, r.b.l3, r.c.l3] = r.det := by
  simp only [detN, wSum, minor, V3.l3, gl, gt, R3.det]
  simp
  grind
theorem det2_eq (r : R3) (h : r.flat) : detN 1 [r.a.l2, r.b.l2] = r.det := by
  obtain ⟨h1, h2, h3⟩ := h
  simp only [detN, wSum, minor, V3.l2, gl, gt, R3.det, h1, h2, h3]
  simp
  grind
end Mine
end
section
set_option maxRecDepth 100000
namespace Mine
open PySem PySem.W PyProof.Rows PySem.Calls

structure Good (m : Nat) (t b W : Int) (rows0 : List (List Int)) (L : LC) : Prop where
  top : L.top = t
  bot : L.bot = b
  lr : L.rows.length = m
  lp : L.parts.length = m
  ls : L.sizes.length = m + 1
  lpk : ∀ k, k < m → (gl L.parts k).length = k
  lrk : ∀ k, k < m → (gl L.rows k).length = m
  hb : BndL L
  hr : ∀ i j, Bnd KD (gt (gl L.rows i) j)
  pos : ∀ i, i < m + 1 → 0 < gt L.sizes i
  det : (detN (m - 1) L.rows).natAbs = W.natAbs
  dvd : ∀ i c, i < m → c < m → detN (m - 1) (L.rows.set c (gl rows0 i)) % W = 0

theorem b_nil {k : Nat} : ∀ j, Bnd k (gt [] j) := fun j => by unfold gt; simp; exact Bnd.zero
theorem b_cons {k : Nat} {x : Int} {l : List Int} (h : Bnd k x) (h' : ∀ j, Bnd k (gt l j)) : ∀ j, Bnd k (gt (x :: l) j)
  | 0 => h
  | j + 1 => h' j
theorem bb_nil {k : Nat} : ∀ i j, Bnd k (gt (gl [] i) j) := fun i j => by unfold gl; simp; exact b_nil j
theorem bb_cons {k : Nat} {x : List Int} {l : List (List Int)} (h : ∀ j, Bnd k (gt x j)) (h' : ∀ i j, Bnd k (gt (gl l i) j)) : ∀ i j, Bnd k (gt (gl (x :: l) i) j)
  | 0, j => h j
  | i + 1, j => h' i j

theorem KD_le : KD ≤ KB := by rw [KD_eq, KB_eq]; decide
theorem bnd_small {x : Int} (h : (x.natAbs : Int) ≤ 67108864) : Bnd KD x := bnd_of (by have := TT_ge 13; omega)
theorem bnd_TT {x : Int} {n : Nat} (h : (x.natAbs : Int) ≤ TT n) (hn : n ≤ 13) : Bnd KD x := bnd_of (by have := TT_mono hn; have := TT_ge 13; omega)

section
variable {r r0 : R3} {t b W Tb Tc : Int}

theorem bd_ents (h : r.Bd SS UU Tb Tc) (hb : Tb ≤ TT 13) (hc : Tc ≤ TT 13) : (∀ x ∈ [r.a.x, r.a.y, r.a.z, r.b.x, r.b.y, r.b.z, r.c.x, r.c.y, r.c.z], Bnd KD x) ∧ (∀ x ∈ [r.d1, r.d2, r.d3, r.l10, r.l20, r.l21], Bnd KD x) := by
  have T13 := TT_ge 13
  have ea := r.a.ent (show r.a.dot r.a ≤ SS from h.s1)
  have eb := r.b.ent h.nb
  have ec := r.c.ent h.nc
  have l10 := h.l10
  have l20 := h.l20
  have l21 := h.l21
  have a1 := abs_sq r.l10
  have a2 := abs_sq r.l20
  have a3 := abs_sq r.l21
  have p1 := h.p1; have p2 := h.p2; have p3 := h.p3; have s1 := h.s1; have s2 := h.s2; have s3 := h.s3
  unfold SS at *
  unfold UU at *
  constructor
  · intro x hx
    refine bnd_of ?_
    simp only [List.mem_cons, List.not_mem_nil, or_false] at hx
    rcases hx with rfl | rfl | rfl | rfl | rfl | rfl | rfl | rfl | rfl <;> omega
  · intro x hx
    refine bnd_of ?_
    simp only [List.mem_cons, List.not_mem_nil, or_false] at hx
    rcases hx with rfl | rfl | rfl | rfl | rfl | rfl <;> omega

theorem good3 (h : r.Bd SS UU Tb Tc) (hb : Tb ≤ TT 13) (hc : Tc ≤ TT 13) (hW : r.det.natAbs = W.natAbs) (ht : (t.natAbs : Int) ≤ 67108864) (hbt : (b.natAbs : Int) ≤ 67108864) (sa : r.Spans r0.a) (sb : r.Spans r0.b) (sc : r.Spans r0.c) :
    Good 3 t b W [r0.a.l3, r0.b.l3, r0.c.l3] (r.lc3 t b) := by
  obtain ⟨B1, B2⟩ := bd_ents h hb hc
  simp only [List.mem_cons, List.not_mem_nil, or_false, forall_eq_or_imp, forall_eq] at B1 B2
  obtain ⟨x1, x2, x3, x4, x5, x6, x7, x8, x9⟩ := B1
  obtain ⟨y1, y2, y3, y4, y5, y6⟩ := B2
  have hrow : ∀ i j, Bnd KD (gt (gl (r.lc3 t b).rows i) j) := bb_cons (b_cons x1 (b_cons x2 (b_cons x3 b_nil))) (bb_cons (b_cons x4 (b_cons x5 (b_cons x6 b_nil))) (bb_cons (b_cons x7 (b_cons x8 (b_cons x9 b_nil))) bb_nil))
  have hdW : W ∣ r.det := Int.natAbs_dvd_natAbs.mp (by rw [hW]; exact Nat.dvd_refl _)
  refine ⟨rfl, rfl, rfl, rfl, rfl, fun k hk => ?_, fun k hk => ?_, ⟨fun i j => (hrow i j).mono KD_le, fun i => (b_cons (bnd_small (by decide)) (b_cons y1 (b_cons y2 (b_cons y3 b_nil))) i).mono KD_le,
    fun i j => (bb_cons b_nil (bb_cons (b_cons y4 b_nil) (bb_cons (b_cons y5 (b_cons y6 b_nil)) bb_nil)) i j).mono KD_le, (bnd_small ht).mono KD_le, (bnd_small hbt).mono KD_le⟩, hrow, fun i hi => ?_, ?_, fun i c hi hc => ?_⟩
  · match k, hk with
    | 0, _ | 1, _ | 2, _ => rfl
  · match k, hk with
    | 0, _ | 1, _ | 2, _ => rfl
  · have p1 := h.p1; have p2 := h.p2; have p3 := h.p3
    match i, hi with
    | 0, _ => exact (by decide : (0 : Int) < 1)
    | 1, _ => show 0 < r.d1; omega
    | 2, _ => show 0 < r.d2; omega
    | 3, _ => show 0 < r.d3; omega
  · show (detN 2 [r.a.l3, r.b.l3, r.c.l3]).natAbs = _
    rw [det3_eq, hW]
  · refine Int.emod_eq_zero_of_dvd ?_
    have main : ∀ v, r.Spans v → W ∣ detN 2 ([r.a.l3, r.b.l3, r.c.l3].set c v.l3) := by
      rintro v ⟨x, y, z, rfl⟩
      match c, hc with
      | 0, _ => exact (det3_eq { r with a := r.comb x y z }) ▸ det_a x y z ▸ Int.dvd_mul_of_dvd_right hdW
      | 1, _ => exact (det3_eq { r with b := r.comb x y z }) ▸ det_b x y z ▸ Int.dvd_mul_of_dvd_right hdW
      | 2, _ => exact (det3_eq { r with c := r.comb x y z }) ▸ det_c x y z ▸ Int.dvd_mul_of_dvd_right hdW
    match i, hi with
    | 0, _ => exact main _ sa
    | 1, _ => exact main _ sb
    | 2, _ => exact main _ sc

theorem good2 (h : r.Bd SS UU Tb Tc) (hb : Tb ≤ TT 13) (hc : Tc ≤ TT 13) (hf : r.flat) (hf0 : r0.flat) (hW : r.det.natAbs = W.natAbs) (ht : (t.natAbs : Int) ≤ 67108864) (hbt : (b.natAbs : Int) ≤ 67108864) (sa : r.Spans r0.a) (sb : r.Spans r0.b) :
    Good 2 t b W [r0.a.l2, r0.b.l2] (r.lc2 t b) := by
  obtain ⟨B1, B2⟩ := bd_ents h hb hc
  simp only [List.mem_cons, List.not_mem_nil, or_false, forall_eq_or_imp, forall_eq] at B1 B2
  obtain ⟨x1, x2, x3, x4, x5, x6, x7, x8, x9⟩ := B1
  obtain ⟨y1, y2, y3, y4, y5, y6⟩ := B2
  have hrow : ∀ i j, Bnd KD (gt (gl (r.lc2 t b).rows i) j) := bb_cons (b_cons x1 (b_cons x2 b_nil)) (bb_cons (b_cons x4 (b_cons x5 b_nil)) bb_nil)
  have hdW : W ∣ r.det := Int.natAbs_dvd_natAbs.mp (by rw [hW]; exact Nat.dvd_refl _)
  refine ⟨rfl, rfl, rfl, rfl, rfl, fun k hk => ?_, fun k hk => ?_, ⟨fun i j => (hrow i j).mono KD_le, fun i => (b_cons (bnd_small (by decide)) (b_cons y1 (b_cons y2 b_nil)) i).mono KD_le,
    fun i j => (bb_cons b_nil (bb_cons (b_cons y4 b_nil) bb_nil) i j).mono KD_le, (bnd_small ht).mono KD_le, (bnd_small hbt).mono KD_le⟩, hrow, fun i hi => ?_, ?_, fun i c hi hc => ?_⟩
  · match k, hk with
    | 0, _ | 1, _ => rfl
  · match k, hk with
    | 0, _ | 1, _ => rfl
  · have p1 := h.p1; have p2 := h.p2
    match i, hi with
    | 0, _ => exact (by decide : (0 : Int) < 1)
    | 1, _ => show 0 < r.d1; omega
    | 2, _ => show 0 < r.d2; omega
  · show (detN 1 [r.a.l2, r.b.l2]).natAbs = _
    rw [det2_eq r hf, hW]
  · refine Int.emod_eq_zero_of_dvd ?_
    obtain ⟨f1, f2, f3⟩ := hf
    have main : ∀ v, v.z = 0 → r.Spans v → W ∣ detN 1 ([r.a.l2, r.b.l2].set c v.l2) := by
      rintro v hv ⟨x, y, z, rfl⟩
      match c, hc with
      | 0, _ => exact (det2_eq { r with a := r.comb x y z } ⟨hv, f2, f3⟩) ▸ det_a x y z ▸ Int.dvd_mul_of_dvd_right hdW
      | 1, _ => exact (det2_eq { r with b := r.comb x y z } ⟨f1, hv, f3⟩) ▸ det_b x y z ▸ Int.dvd_mul_of_dvd_right hdW
    match i, hi with
    | 0, _ => exact main _ hf0.1 sa
    | 1, _ => exact main _ hf0.2.1 sb
end
end Mine
end
section
set_option maxRecDepth 100000
namespace Mine
open PySem PySem.W PyProof.Rows PySem.Calls

def R3.rw (m : Nat) (r : R3) : List (List Int) := if m = 2 then [r.a.l2, r.b.l2] else [r.a.l3, r.b.l3, r.c.l3]

structure St3 (m : Nat) (t b W : Int) (r0 r : R3) (L : LC) : Prop where
  det : r.det.natAbs = W.natAbs
  sa : r.Spans r0.a
  sb : r.Spans r0.b
  sc : r.Spans r0.c
  form : (m = 3 ∧ L = r.lc3 t b) ∨ (m = 2 ∧ r.flat ∧ L = r.lc2 t b)

theorem R3.Bd.mono {r : R3} {S U Tb Tc Tb' Tc' : Int} (h : r.Bd S U Tb Tc) (h1 : Tb ≤ Tb') (h2 : Tc ≤ Tc') : r.Bd S U Tb' Tc' := ⟨h.p1, h.p2, h.p3, h.s1, h.s2, h.s3, Int.le_trans h.nb h1, Int.le_trans h.nc h2⟩

theorem flat_s10 {r : R3} (h : r.flat) (q : Int) : (r.s10 q).flat := by
  obtain ⟨h1, h2, h3⟩ := h
  refine ⟨h1, ?_, h3⟩
  simp only [R3.s10, V3.less]; rw [h1, h2]; omega
theorem flat_x1 {r : R3} (h : r.flat) : r.x1.flat := ⟨h.2.1, h.1, h.2.2⟩
theorem flat_d2 {r : R3} (h : r.flat) : r.d2 = r.det * r.det := by
  obtain ⟨h1, h2, h3⟩ := h
  simp only [R3.d2, R3.det, V3.dot, h1, h2, h3]; grind

section
variable {m : Nat} {t b W : Int} {r0 r : R3} {L : LC} {Tb Tc : Int}

theorem St3.good (h : St3 m t b W r0 r L) (hB : r.Bd SS UU Tb Tc) (hb : Tb ≤ TT 13) (hc : Tc ≤ TT 13) (hf0 : m = 2 → r0.flat) (ht : (t.natAbs : Int) ≤ 67108864) (hbt : (b.natAbs : Int) ≤ 67108864) : Good m t b W (r0.rw m) L := by
  rcases h.form with ⟨rfl, rfl⟩ | ⟨rfl, hf, rfl⟩
  · exact good3 hB hb hc h.det ht hbt h.sa h.sb h.sc
  · exact good2 hB hb hc hf (hf0 rfl) h.det ht hbt h.sa h.sb

theorem St3.s10 (h : St3 m t b W r0 r L) : St3 m t b W r0 (r.s10 (q10 r)) (shortA L 1 0) := by
  refine ⟨by rw [s10_det]; exact h.det, h.sa.s10 _, h.sb.s10 _, h.sc.s10 _, ?_⟩
  rcases h.form with ⟨hm, rfl⟩ | ⟨hm, hf, rfl⟩
  · exact .inl ⟨hm, sh3_10 r t b⟩
  · exact .inr ⟨hm, flat_s10 hf _, sh2_10 r t b⟩
theorem St3.s20 (h : St3 m t b W r0 r L) (hm : m = 3) : St3 m t b W r0 (r.s20 (q20 r)) (shortA L 2 0) := by
  refine ⟨by rw [s20_det]; exact h.det, h.sa.s20 _, h.sb.s20 _, h.sc.s20 _, ?_⟩
  rcases h.form with ⟨hm, rfl⟩ | ⟨hm', hf, rfl⟩
  · exact .inl ⟨hm, sh3_20 r t b⟩
  · omega
theorem St3.s21 (h : St3 m t b W r0 r L) (hm : m = 3) : St3 m t b W r0 (r.s21 (q21 r)) (shortA L 2 1) := by
  refine ⟨by rw [s21_det]; exact h.det, h.sa.s21 _, h.sb.s21 _, h.sc.s21 _, ?_⟩
  rcases h.form with ⟨hm, rfl⟩ | ⟨hm', hf, rfl⟩
  · exact .inl ⟨hm, sh3_21 r t b⟩
  · omega
theorem St3.x1 (h : St3 m t b W r0 r L) (hB : r.Bd SS UU Tb Tc) : St3 m t b W r0 r.x1 (exL L 1) := by
  refine ⟨by rw [x1_det, Int.natAbs_neg]; exact h.det, h.sa.x1, h.sb.x1, h.sc.x1, ?_⟩
  have := hB.p1; have := hB.p2
  rcases h.form with ⟨hm, rfl⟩ | ⟨hm, hf, rfl⟩
  · exact .inl ⟨hm, ex3_1 r t b (by omega) (by omega)⟩
  · exact .inr ⟨hm, flat_x1 hf, ex2_1 r t b (by omega)⟩
theorem St3.x2 (h : St3 m t b W r0 r L) (hm : m = 3) (hB : r.Bd SS UU Tb Tc) : St3 m t b W r0 r.x2 (exL L 2) := by
  refine ⟨by rw [x2_det, Int.natAbs_neg]; exact h.det, h.sa.x2, h.sb.x2, h.sc.x2, ?_⟩
  have := hB.p2
  rcases h.form with ⟨hm, rfl⟩ | ⟨hm', hf, rfl⟩
  · exact .inl ⟨hm, ex3_2 r t b (by omega)⟩
  · omega

theorem St3.g1 (h : St3 m t b W r0 r L) : gt L.sizes 1 = r.d1 := by rcases h.form with ⟨_, rfl⟩ | ⟨_, _, rfl⟩ <;> rfl
theorem St3.g2 (h : St3 m t b W r0 r L) : gt L.sizes 2 = r.d2 := by rcases h.form with ⟨_, rfl⟩ | ⟨_, _, rfl⟩ <;> rfl
theorem St3.g3 (h : St3 m t b W r0 r L) (hm : m = 3) : gt L.sizes 3 = r.d3 := by
  rcases h.form with ⟨_, rfl⟩ | ⟨_, _, rfl⟩
  · rfl
  · omega
theorem St3.g10 (h : St3 m t b W r0 r L) : gt (gl L.parts 1) 0 = r.l10 := by rcases h.form with ⟨_, rfl⟩ | ⟨_, _, rfl⟩ <;> rfl
theorem St3.g20 (h : St3 m t b W r0 r L) (hm : m = 3) : gt (gl L.parts 2) 0 = r.l20 := by
  rcases h.form with ⟨_, rfl⟩ | ⟨_, _, rfl⟩
  · rfl
  · omega
theorem St3.g21 (h : St3 m t b W r0 r L) (hm : m = 3) : gt (gl L.parts 2) 1 = r.l21 := by
  rcases h.form with ⟨_, rfl⟩ | ⟨_, _, rfl⟩
  · rfl
  · omega
theorem St3.u1 (h : St3 m t b W r0 r L) : uprightI L 1 = decide (r.d1 * r.d1 * t ≤ (r.d2 * 1 + r.l10 * r.l10) * b) := by rcases h.form with ⟨_, rfl⟩ | ⟨_, _, rfl⟩ <;> rfl
theorem St3.u2 (h : St3 m t b W r0 r L) (hm : m = 3) : uprightI L 2 = decide (r.d2 * r.d2 * t ≤ (r.d3 * r.d1 + r.l21 * r.l21) * b) := by
  rcases h.form with ⟨_, rfl⟩ | ⟨_, _, rfl⟩
  · rfl
  · omega
def pr (L : LC) : Int := prodI (L.sizes.take (L.sizes.length - 1))
theorem St3.pr3 (h : St3 m t b W r0 r L) (hm : m = 3) : pr L = r.d1 * r.d2 := by
  rcases h.form with ⟨_, rfl⟩ | ⟨_, _, rfl⟩
  · show 1 * 1 * r.d1 * r.d2 = _; rw [Int.one_mul, Int.one_mul]
  · omega
theorem St3.pr2 (h : St3 m t b W r0 r L) (hm : m = 2) : pr L = r.d1 := by
  rcases h.form with ⟨_, rfl⟩ | ⟨_, _, rfl⟩
  · omega
  · show 1 * 1 * r.d1 = _; rw [Int.one_mul, Int.one_mul]

theorem St3.sh10 (h : St3 m t b W r0 r L) (hB : r.Bd SS UU Tb Tc) : ∃ r', St3 m t b W r0 r' (shortL L 1 0) ∧ r'.Bd SS UU (SS + SS * SS) Tc ∧ r'.d1 = r.d1 ∧ r'.d2 = r.d2 ∧ 2 * (r'.l10.natAbs : Int) ≤ r'.d1 ∧ (shortL L 1 0).sizes = L.sizes := by
  unfold shortL
  rw [h.g10, h.g1]
  split
  · rename_i c
    exact ⟨r, h, ⟨hB.p1, hB.p2, hB.p3, hB.s1, hB.s2, hB.s3, nb_red hB.p1 hB.s1 hB.s2 c, hB.nc⟩, rfl, rfl, c, rfl⟩
  · refine ⟨_, h.s10, hB.s10, s10_d1 r _, s10_d2 r _, ?_, rfl⟩
    rw [s10_l10]
    exact nq_rest hB.p1
theorem St3.sh20 (h : St3 m t b W r0 r L) (hm : m = 3) (hB : r.Bd SS UU Tb Tc) : ∃ r', St3 m t b W r0 r' (shortL L 2 0) ∧ r'.Bd SS UU Tb (Tc + SS) ∧ r'.d1 = r.d1 ∧ r'.d2 = r.d2 ∧ r'.d3 = r.d3 ∧ r'.l10 = r.l10 ∧ r'.l21 = r.l21 ∧ (shortL L 2 0).sizes = L.sizes := by
  unfold shortL
  split
  · exact ⟨r, h, hB.mono (Int.le_refl _) (by unfold SS; omega), rfl, rfl, rfl, rfl, rfl, rfl⟩
  · exact ⟨_, h.s20 hm, hB.s20, s20_d1 r _, s20_d2 r _, s20_d3 r _, s20_l10 r _, s20_l21 r _, rfl⟩
theorem St3.sh21 (h : St3 m t b W r0 r L) (hm : m = 3) (hB : r.Bd SS UU Tb Tc) (hT : 1 ≤ Tc) : ∃ r', St3 m t b W r0 r' (shortL L 2 1) ∧ r'.Bd SS UU Tb (2 * Tc + 2 * ((2 * (SS * (SS * Tc)) + 2) * Tb)) ∧ r'.d1 = r.d1 ∧ r'.d2 = r.d2 ∧ r'.d3 = r.d3 ∧ r'.l10 = r.l10 ∧ 2 * (r'.l21.natAbs : Int) ≤ r'.d2 ∧ (shortL L 2 1).sizes = L.sizes := by
  unfold shortL
  rw [h.g21 hm, h.g2]
  split
  · rename_i c
    refine ⟨r, h, hB.mono (Int.le_refl _) ?_, rfl, rfl, rfl, rfl, c, rfl⟩
    have n0 : 0 ≤ Tb := Int.le_trans r.b.dot_nonneg hB.nb
    have := Int.mul_nonneg (show 0 ≤ 2 * (SS * (SS * Tc)) + 2 by unfold SS; omega) n0
    omega
  · refine ⟨_, h.s21 hm, hB.s21 hT, s21_d1 r _, s21_d2 r _, s21_d3 r _, s21_l10 r _, ?_, rfl⟩
    rw [s21_l21, s21_d2]
    exact nq_rest hB.p2

theorem up_lt {d x t b : Int} (hd : 1 ≤ d) (h : x * d * b < d * d * t) : b * x < t * d := by
  rcases Int.lt_or_le (b * x) (t * d) with c | c
  · exact c
  · exfalso
    have := Int.mul_le_mul_of_nonneg_left c (show 0 ≤ d by omega)
    have e1 : d * (t * d) = d * d * t := by grind
    have e2 : d * (b * x) = x * d * b := by grind
    omega
theorem lt_of_bt {d x t b : Int} (hd : 1 ≤ d) (hb : 0 < b) (htb : t ≤ b) (h : b * x < t * d) : x < d := by
  rcases Int.lt_or_le x d with c | c
  · exact c
  · exfalso
    have h1 := Int.mul_le_mul_of_nonneg_left c (show 0 ≤ b by omega)
    have h2 := Int.mul_le_mul_of_nonneg_right htb (show 0 ≤ d by omega)
    omega
theorem St3.n1 (h : St3 m t b W r0 r L) (hB : r.Bd SS UU Tb Tc) (hu : uprightI L 1 = false) : b * r.x1.d1 < t * r.d1 := by
  rw [h.u1, decide_eq_false_iff_not, Int.not_le] at hu
  refine up_lt hB.p1 ?_
  rw [x1_d1]
  rw [Int.mul_one] at hu
  exact hu
theorem St3.n2 (h : St3 m t b W r0 r L) (hm : m = 3) (hB : r.Bd SS UU Tb Tc) (hu : uprightI L 2 = false) : b * r.x2.d2 < t * r.d2 := by
  rw [h.u2 hm, decide_eq_false_iff_not, Int.not_le] at hu
  refine up_lt hB.p2 ?_
  rw [x2_d2, Int.mul_comm r.d1]
  exact hu
end
end Mine
end
section
set_option maxRecDepth 100000
namespace Mine
open PySem PySem.W PyProof.Rows PySem.Calls

section
variable {m : Nat} {t b W : Int} {rows0 : List (List Int)} {L : LC}
theorem Good.sh (g : Good m t b W rows0 L) (hm : m ≤ 3) {k j : Nat} (hk : k < m) (hj : j < k) : ShOk L k j :=
  ⟨g.hb, hj, by omega, by rw [g.lp]; exact hk, by rw [g.lr]; exact hk, by rw [g.lpk k hk]; exact hj, by rw [g.lpk j (by omega)]; exact Nat.le_refl _, by rw [g.ls]; omega, g.pos _ (by omega), by rw [g.lrk k hk]; omega⟩
theorem Good.up (g : Good m t b W rows0 L) {k : Nat} (hk : k < m) (hk0 : 0 < k) : UpOk L k :=
  ⟨g.hb, hk0, by rw [g.lp]; exact hk, by rw [g.lpk k hk]; omega, by rw [g.ls]; omega⟩
theorem Good.ex (g : Good m t b W rows0 L) (hm : m ≤ 3) {k : Nat} (hk : k < m) (hk0 : 0 < k) : ExOk L k :=
  ⟨g.hb, hk0, by rw [g.lp]; exact hk, by rw [g.lp]; omega, by rw [g.lr]; exact hk, g.lpk k hk, by rw [g.lpk (k - 1) (by omega)]; omega, fun i hi hi' => by rw [g.lp] at hi'; rw [g.lpk i hi']; exact hi, by rw [g.ls]; omega,
    by have := g.pos k (by omega); omega, by have := g.pos (k + 1) (by omega); omega⟩
end

theorem TT_step2 (n : Nat) : 2 * TT n + 2 * ((2 * (SS * (SS * TT n)) + 2) * TT n) + SS ≤ TT (n + 1) := by
  have h := TT_ge n
  have h1 := Int.mul_le_mul_of_nonneg_right (show 1 ≤ TT n by omega) (show 0 ≤ TT n by omega)
  show _ ≤ 1073741824 * (TT n * TT n)
  have e : (2 * (SS * (SS * TT n)) + 2) * TT n = 134217728 * (TT n * TT n) + 2 * TT n := by
    unfold SS; rw [Int.add_mul, show (2 : Int) * (8192 * (8192 * TT n)) = 134217728 * TT n by omega, Int.mul_assoc]
  rw [e]
  unfold SS
  omega
theorem SS_TT (n : Nat) : SS + SS * SS ≤ TT n := by have := TT_ge n; unfold SS; omega

structure TB (t b : Int) : Prop where
  t0 : 0 < t
  tb : t ≤ b
  b9 : b ≤ 67108864

def DI (m : Nat) (t b W : Int) (r0 : R3) (n : Nat) (L : LC) : Prop := ∃ r, St3 m t b W r0 r L ∧ r.Bd SS UU (TT n) (TT n)

section
variable {m : Nat} {t b W : Int} {r0 : R3} {L : LC} {n : Nat} (B : TB t b)
include B
theorem DI.good (h : DI m t b W r0 n L) (hn : n ≤ 13) (hf : m = 2 → r0.flat) : Good m t b W (r0.rw m) L := by
  obtain ⟨r, h1, h2⟩ := h
  have := B.t0; have := B.tb; have := B.b9
  exact h1.good h2 (TT_mono hn) (TT_mono hn) hf (by omega) (by omega)
omit B in
theorem DI.short (h : DI m t b W r0 n L) {k j : Nat} (hm : m = 2 ∨ m = 3) (hk : k < m) (hj : j < k) : DI m t b W r0 (n + 1) (shortL L k j) ∧ (shortL L k j).sizes = L.sizes := by
  obtain ⟨r, h1, h2⟩ := h
  have m1 := TT_mono1 n
  have m0 := TT_ge n
  have hc : (k = 1 ∧ j = 0) ∨ (k = 2 ∧ j = 0 ∧ m = 3) ∨ (k = 2 ∧ j = 1 ∧ m = 3) := by omega
  rcases hc with ⟨rfl, rfl⟩ | ⟨rfl, rfl, e⟩ | ⟨rfl, rfl, e⟩
  · obtain ⟨r', a1, a2, _, _, _, a3⟩ := h1.sh10 h2
    exact ⟨⟨r', a1, a2.mono (SS_TT _) (by unfold SS at m1; omega)⟩, a3⟩
  · obtain ⟨r', a1, a2, _, _, _, _, _, a3⟩ := h1.sh20 e h2
    exact ⟨⟨r', a1, a2.mono (by unfold SS at m1; omega) m1⟩, a3⟩
  · obtain ⟨r', a1, a2, _, _, _, _, _, a3⟩ := h1.sh21 e h2 (by omega)
    exact ⟨⟨r', a1, a2.mono (by unfold SS at m1; omega) (TT_step n)⟩, a3⟩
theorem DI.exch (h : DI m t b W r0 n L) {k : Nat} (hm : m = 2 ∨ m = 3) (hk : k < m) (hk0 : 0 < k) (hu : uprightI L k = false) :
    DI m t b W r0 (n + 1) (exL L k) ∧ b * gt (exL L k).sizes k < t * gt L.sizes k ∧ b * pr (exL L k) ≤ t * pr L := by
  obtain ⟨r, h1, h2⟩ := h
  have m1 := TT_mono1 n
  have m0 := TT_ge n
  have b0 : 0 < b := by have := B.t0; have := B.tb; omega
  have p1 := h2.p1
  have p2 := h2.p2
  have hc : k = 1 ∨ (k = 2 ∧ m = 3) := by omega
  rcases hc with rfl | ⟨rfl, e⟩
  · have q := h1.n1 h2 hu
    have lt := lt_of_bt h2.p1 b0 B.tb q
    have s := h1.x1 h2
    refine ⟨⟨_, s, (h2.x1 (by omega) (by unfold SS; omega)).mono (by unfold SS at m1; omega) (by unfold SS at m1; omega)⟩, by rw [s.g1, h1.g1]; exact q, ?_⟩
    rcases hm with e | e
    · rw [s.pr2 e, h1.pr2 e]; omega
    · rw [s.pr3 e, h1.pr3 e, x1_d2]
      have := Int.mul_le_mul_of_nonneg_right (Int.le_of_lt q) (show 0 ≤ r.d2 by omega)
      rw [← Int.mul_assoc, ← Int.mul_assoc]; exact this
  · have q := h1.n2 e h2 hu
    have lt := lt_of_bt h2.p2 b0 B.tb q
    have s := h1.x2 e h2
    refine ⟨⟨_, s, (h2.x2 (by omega)).mono (by unfold SS at m1; omega) (by unfold SS at m1; omega)⟩, by rw [s.g2, h1.g2]; exact q, ?_⟩
    rw [s.pr3 e, h1.pr3 e, x2_d1]
    have := Int.mul_le_mul_of_nonneg_left (Int.le_of_lt q) (show 0 ≤ r.d1 by omega)
    have e1 : r.d1 * (b * r.x2.d2) = b * (r.d1 * r.x2.d2) := by grind
    have e2 : r.d1 * (t * r.d2) = t * (r.d1 * r.d2) := by grind
    rw [← e1, ← e2]; exact this
end

structure RI (m : Nat) (t b W : Int) (r0 : R3) (D1 D2 : Int) (w k : Nat) (L : LC) (r : R3) (Tb Tc : Int) : Prop where
  st : St3 m t b W r0 r L
  bd : r.Bd SS UU Tb Tc
  d1 : r.d1 ≤ D1
  d2 : r.d2 ≤ D2
  we : w = 4 * (r.d1 + r.d2).toNat + (3 - k)
  km : k ≤ m
  tb : Tb ≤ TT 13
  tc : Tc ≤ TT 13
  tc2 : k ≤ 2 → Tc ≤ TT 12
  tb2 : k = 0 ∨ k = 2 → Tb ≤ TT 12
  f2 : 2 ≤ k → 2 * (r.l10.natAbs : Int) ≤ r.d1 ∧ r.d1 * r.d1 * t ≤ (r.d2 * 1 + r.l10 * r.l10) * b
  f3 : 3 ≤ k → 2 * (r.l21.natAbs : Int) ≤ r.d2 ∧ r.d2 * r.d2 * t ≤ (r.d3 * r.d1 + r.l21 * r.l21) * b
def RJ (m : Nat) (t b W : Int) (r0 : R3) (D1 D2 : Int) (w k : Nat) (L : LC) : Prop := ∃ r Tb Tc, RI m t b W r0 D1 D2 w k L r Tb Tc

section
variable {m : Nat} {t b W D1 D2 : Int} {r0 r : R3} {L : LC} {w k : Nat} {Tb Tc : Int} (B : TB t b)
include B
theorem RI.good (h : RI m t b W r0 D1 D2 w k L r Tb Tc) (hf : m = 2 → r0.flat) : Good m t b W (r0.rw m) L := by
  have := B.t0; have := B.tb; have := B.b9
  exact h.st.good h.bd h.tb h.tc hf (by omega) (by omega)

theorem run_step (hm : m = 2 ∨ m = 3) (hf : m = 2 → r0.flat) (h : RJ m t b W r0 D1 D2 w k L) (hk : k < L.rows.length) : RunStep (RJ m t b W r0 D1 D2) w k L := by
  obtain ⟨r, Tb, Tc, h⟩ := h
  have g := h.good B hf
  have b0 : 0 < b := by have := B.t0; have := B.tb; omega
  have ts : (t.natAbs : Int) ≤ 67108864 := by have := B.t0; have := B.tb; have := B.b9; omega
  have bs : (b.natAbs : Int) ≤ 67108864 := by have := B.b9; omega
  have hkm : k < m := by rw [← g.lr]; exact hk
  have m3 : m ≤ 3 := by omega
  have p1 := h.bd.p1
  have p2 := h.bd.p2
  have hc : k = 0 ∨ k = 1 ∨ (k = 2 ∧ m = 3) := by omega
  refine { parts := by rw [g.lp, g.lr], r9 := by rw [g.lr]; omega, sh := fun hk0 => g.sh m3 hkm (by omega), up := ?_, ex := ?_, dn := ?_ }
  · intro hk0
    rcases hc with rfl | rfl | ⟨rfl, e⟩
    · omega
    · obtain ⟨r', a1, a2, _⟩ := h.st.sh10 h.bd
      exact (a1.good a2 (SS_TT _) h.tc hf ts bs).up hkm (by omega)
    · obtain ⟨r', a1, a2, _⟩ := h.st.sh21 e (h.bd.mono (h.tb2 (.inr rfl)) (h.tc2 (by omega))) (by have := TT_ge 12; omega)
      exact (a1.good a2 (TT_mono (by decide)) (TT_step 12) hf ts bs).up hkm (by omega)
  · intro hk0 hu
    rcases hc with rfl | rfl | ⟨rfl, e⟩
    · omega
    · obtain ⟨r', a1, a2, a3, a4, a5, a6⟩ := h.st.sh10 h.bd
      have hu : uprightI (shortL L 1 0) 1 = false := hu
      refine ⟨(a1.good a2 (SS_TT _) h.tc hf ts bs).ex m3 hkm (by omega), 4 * (r'.x1.d1 + r'.x1.d2).toNat + 2, ?_, r'.x1, SS + SS * SS, Tc, ?_⟩
      · have q := lt_of_bt a2.p1 b0 B.tb (a1.n1 a2 hu)
        have q0 := x1_pos a2.p1 a2.p2
        rw [h.we, x1_d2]; omega
      · have q := lt_of_bt a2.p1 b0 B.tb (a1.n1 a2 hu)
        exact { st := a1.x1 a2, bd := a2.x1 (by omega) (by unfold SS; omega), d1 := by have := h.d1; omega, d2 := by rw [x1_d2]; have := h.d2; omega, we := rfl, km := by show 1 ≤ m; omega, tb := SS_TT _, tc := h.tc, tc2 := fun _ => h.tc2 (by omega), tb2 := fun _ => SS_TT _, f2 := fun z => by have : (2 : Nat) ≤ 1 := z; omega, f3 := fun z => by have : (3 : Nat) ≤ 1 := z; omega }
    · obtain ⟨r', a1, a2, a3, a4, a5, a6, a7, _⟩ := h.st.sh21 e (h.bd.mono (h.tb2 (.inr rfl)) (h.tc2 (by omega))) (by have := TT_ge 12; omega)
      have hu : uprightI (shortL L 2 1) 2 = false := hu
      have q := lt_of_bt a2.p2 b0 B.tb (a1.n2 e a2 hu)
      refine ⟨(a1.good a2 (TT_mono (by decide)) (TT_step 12) hf ts bs).ex m3 hkm (by omega), 4 * (r'.x2.d1 + r'.x2.d2).toNat + 2, ?_, r'.x2, TT 13, TT 12, ?_⟩
      · have q0 : 1 ≤ r'.x2.d2 := a2.e2p
        rw [h.we, x2_d1]; omega
      · exact { st := a1.x2 e a2, bd := (a2.x2 (by omega)).mono (TT_step 12) (Int.le_refl _), d1 := by rw [x2_d1]; have := h.d1; omega, d2 := by have := h.d2; omega, we := rfl, km := by show 1 ≤ m; omega, tb := Int.le_refl _, tc := TT_mono (by decide), tc2 := fun _ => Int.le_refl _, tb2 := fun z => by have : (1 : Nat) = 0 ∨ (1 : Nat) = 2 := z; omega, f2 := fun z => by have : (2 : Nat) ≤ 1 := z; omega, f3 := fun z => by have : (3 : Nat) ≤ 1 := z; omega }
  · intro hu
    rcases hc with rfl | rfl | ⟨rfl, e⟩
    · refine ⟨fun t ht => by omega, w - 1, by rw [h.we]; omega, r, Tb, Tc, ?_⟩
      exact { st := h.st, bd := h.bd, d1 := h.d1, d2 := h.d2, we := by rw [h.we]; omega, km := by omega, tb := h.tb, tc := h.tc, tc2 := fun _ => h.tc2 (by omega), tb2 := fun _ => h.tb2 (.inl rfl), f2 := fun z => by omega, f3 := fun z => by omega }
    · obtain ⟨r', a1, a2, a3, a4, a5, a6⟩ := h.st.sh10 h.bd
      have hu : uprightI (shortL L 1 0) 1 = true := hu.resolve_left (by decide)
      refine ⟨fun t ht => by omega, w - 1, by rw [h.we]; omega, r', SS + SS * SS, Tc, ?_⟩
      exact { st := a1, bd := a2, d1 := by rw [a3]; exact h.d1, d2 := by rw [a4]; exact h.d2, we := by rw [h.we, a3, a4]; omega, km := by omega, tb := SS_TT _, tc := h.tc, tc2 := fun _ => h.tc2 (by omega), tb2 := fun _ => SS_TT _, f2 := fun _ => ⟨a5, by rw [a1.u1, decide_eq_true_eq] at hu; exact hu⟩, f3 := fun z => by omega }
    · obtain ⟨r', a1, a2, a3, a4, a5, a6, a7, _⟩ := h.st.sh21 e (h.bd.mono (h.tb2 (.inr rfl)) (h.tc2 (by omega))) (by have := TT_ge 12; omega)
      have hu : uprightI (shortL L 2 1) 2 = true := hu.resolve_left (by decide)
      have g1 := a1.good a2 (TT_mono (by decide)) (TT_step 12) hf ts bs
      obtain ⟨r2, c1, c2, c3, c4, c5, c6, c7, _⟩ := a1.sh20 e a2
      refine ⟨fun t ht => ?_, w - 1, by rw [h.we]; omega, r2, TT 12, 2 * TT 12 + 2 * ((2 * (SS * (SS * TT 12)) + 2) * TT 12) + SS, ?_⟩
      · obtain rfl : t = 0 := by omega
        exact g1.sh m3 hkm (by omega)
      · have ff := h.f2 (by omega)
        exact { st := c1, bd := c2, d1 := by rw [c3, a3]; exact h.d1, d2 := by rw [c4, a4]; exact h.d2, we := by rw [h.we, c3, c4, a3, a4]; omega, km := by omega, tb := TT_mono (by decide), tc := TT_step2 12, tc2 := fun z => by omega, tb2 := fun z => by omega, f2 := fun _ => by rw [c6, c3, c4, a3, a4, a6]; exact ff, f3 := fun _ => ⟨by rw [c7, c4]; exact a7, by rw [a1.u2 e, decide_eq_true_eq] at hu; rw [c7, c3, c4, c5]; exact hu⟩ }
end
end Mine
end
section
set_option maxRecDepth 100000
namespace Mine
open PySem PySem.W PyProof.Rows PySem.Calls

section
variable {m : Nat} {t b W D1 D2 : Int} {r0 r : R3} {L L' : LC} {n w k : Nat} {Tb Tc : Int} (B : TB t b)

theorem run_start (h : DI m t b W r0 n L) (hn : n ≤ 12) : ∃ D1 D2, (∃ w, RJ m t b W r0 D1 D2 w 0 L) ∧ (m = 3 → pr L = D1 * D2) ∧ (m = 2 → pr L = D1) := by
  obtain ⟨r, h1, h2⟩ := h
  refine ⟨r.d1, r.d2, ⟨_, r, TT n, TT n, { st := h1, bd := h2, d1 := Int.le_refl _, d2 := Int.le_refl _, we := rfl, km := Nat.zero_le _, tb := TT_mono (by omega), tc := TT_mono (by omega), tc2 := fun _ => TT_mono hn, tb2 := fun _ => TT_mono hn, f2 := fun z => ?_, f3 := fun z => ?_ }⟩, fun e => h1.pr3 e, fun e => h1.pr2 e⟩
  · have z : (2 : Nat) ≤ 0 := z; omega
  · have z : (3 : Nat) ≤ 0 := z; omega

include B in
theorem run_end (hm : m = 2 ∨ m = 3) (hf : m = 2 → r0.flat) (h : RJ m t b W r0 D1 D2 w k L') (hk : L'.rows.length ≤ k) (h3 : m = 3 → pr L = D1 * D2) (h2 : m = 2 → pr L = D1) :
    Good m t b W (r0.rw m) L' ∧ pr L' ≤ pr L ∧ ∀ i, 1 ≤ i → i < m → 2 * ((gt (gl L'.parts i) (i - 1)).natAbs : Int) ≤ gt L'.sizes i ∧
      t * gt L'.sizes i * gt L'.sizes i ≤ b * (gt L'.sizes (i + 1) * gt L'.sizes (i - 1) + gt (gl L'.parts i) (i - 1) * gt (gl L'.parts i) (i - 1)) := by
  obtain ⟨r, Tb, Tc, h⟩ := h
  have g := h.good B hf
  rw [g.lr] at hk
  have p1 := h.bd.p1
  have p2 := h.bd.p2
  have o : gt L'.sizes 0 = 1 := by rcases h.st.form with ⟨_, rfl⟩ | ⟨_, _, rfl⟩ <;> rfl
  refine ⟨g, ?_, fun i hi him => ?_⟩
  · rcases hm with e | e
    · rw [h.st.pr2 e, h2 e]; exact h.d1
    · rw [h.st.pr3 e, h3 e]; exact mul_up h.d1 h.d2 (by omega) (by have := h.d1; omega)
  · have hc : i = 1 ∨ (i = 2 ∧ m = 3) := by omega
    rcases hc with rfl | ⟨rfl, e⟩
    · obtain ⟨a1, a2⟩ := h.f2 (by omega)
      show 2 * ((gt (gl L'.parts 1) 0).natAbs : Int) ≤ gt L'.sizes 1 ∧ t * gt L'.sizes 1 * gt L'.sizes 1 ≤ b * (gt L'.sizes 2 * gt L'.sizes 0 + gt (gl L'.parts 1) 0 * gt (gl L'.parts 1) 0)
      rw [o, h.st.g1, h.st.g2, h.st.g10]
      refine ⟨a1, ?_⟩
      have e1 : t * r.d1 * r.d1 = r.d1 * r.d1 * t := by grind
      rw [e1, Int.mul_comm b]; exact a2
    · obtain ⟨a1, a2⟩ := h.f3 (by omega)
      show 2 * ((gt (gl L'.parts 2) 1).natAbs : Int) ≤ gt L'.sizes 2 ∧ t * gt L'.sizes 2 * gt L'.sizes 2 ≤ b * (gt L'.sizes 3 * gt L'.sizes 1 + gt (gl L'.parts 2) 1 * gt (gl L'.parts 2) 1)
      rw [h.st.g1, h.st.g2, h.st.g3 e, h.st.g21 e]
      refine ⟨a1, ?_⟩
      have e1 : t * r.d2 * r.d2 = r.d2 * r.d2 * t := by grind
      rw [e1, Int.mul_comm b]; exact a2
end

structure V3.Sm (u : V3) : Prop where
  x : (u.x.natAbs : Int) ≤ 5
  y : (u.y.natAbs : Int) ≤ 5
  z : (u.z.natAbs : Int) ≤ 5
structure R3.Sm (r : R3) : Prop where
  a : r.a.Sm
  b : r.b.Sm
  c : r.c.Sm
theorem abs_mul {x y X Y : Int} (h1 : (x.natAbs : Int) ≤ X) (h2 : (y.natAbs : Int) ≤ Y) : ((x * y).natAbs : Int) ≤ X * Y := by
  rw [Int.natAbs_mul, Int.natCast_mul]
  exact mul_up h1 h2 (by omega) (by omega)
theorem abs_add {x y X Y : Int} (h1 : (x.natAbs : Int) ≤ X) (h2 : (y.natAbs : Int) ≤ Y) : ((x + y).natAbs : Int) ≤ X + Y := by omega
theorem abs_sub {x y X Y : Int} (h1 : (x.natAbs : Int) ≤ X) (h2 : (y.natAbs : Int) ≤ Y) : ((x - y).natAbs : Int) ≤ X + Y := by omega
theorem V3.Sm.dot {u v : V3} (h : u.Sm) (h' : v.Sm) : ((u.dot v).natAbs : Int) ≤ 75 := by
  have h1 := abs_mul h.x h'.x; have h2 := abs_mul h.y h'.y; have h3 := abs_mul h.z h'.z
  unfold V3.dot; omega
section
variable {r : R3} (h : r.Sm)
include h
theorem sm_d1 : (r.d1.natAbs : Int) ≤ 75 := h.a.dot h.a
theorem sm_l10 : (r.l10.natAbs : Int) ≤ 75 := h.b.dot h.a
theorem sm_l20 : (r.l20.natAbs : Int) ≤ 75 := h.c.dot h.a
theorem sm_d2 : (r.d2.natAbs : Int) ≤ 11250 := abs_sub (X := 5625) (Y := 5625) (abs_mul (h.a.dot h.a) (h.b.dot h.b)) (abs_mul (h.b.dot h.a) (h.b.dot h.a))
theorem sm_e2 : (r.e2.natAbs : Int) ≤ 11250 := abs_sub (X := 5625) (Y := 5625) (abs_mul (h.a.dot h.a) (h.c.dot h.c)) (abs_mul (h.c.dot h.a) (h.c.dot h.a))
theorem sm_l21 : (r.l21.natAbs : Int) ≤ 11250 := abs_sub (X := 5625) (Y := 5625) (abs_mul (h.a.dot h.a) (h.c.dot h.b)) (abs_mul (h.c.dot h.a) (h.b.dot h.a))
theorem sm_det : (r.det.natAbs : Int) ≤ 750 := by
  have q : ∀ {x y z u v : Int}, (x.natAbs : Int) ≤ 5 → (y.natAbs : Int) ≤ 5 → (z.natAbs : Int) ≤ 5 → (u.natAbs : Int) ≤ 5 → (v.natAbs : Int) ≤ 5 → ((x * (y * z - u * v)).natAbs : Int) ≤ 250 :=
    fun h1 h2 h3 h4 h5 => abs_mul (Y := 50) h1 (abs_sub (X := 25) (Y := 25) (abs_mul h2 h3) (abs_mul h4 h5))
  have h1 := q h.a.x h.b.y h.c.z h.b.z h.c.y
  have h2 := q h.a.y h.b.x h.c.z h.b.z h.c.x
  have h3 := q h.a.z h.b.x h.c.y h.b.y h.c.x
  unfold R3.det
  omega
theorem sm_d3 : (r.d3.natAbs : Int) ≤ 562500 := abs_mul (sm_det h) (sm_det h)
end
theorem d1_nonneg (r : R3) : 0 ≤ r.d1 := r.a.dot_nonneg
theorem d2_nonneg (r : R3) : 0 ≤ r.d2 := by
  have e : r.d2 = (r.a.x * r.b.y - r.a.y * r.b.x) * (r.a.x * r.b.y - r.a.y * r.b.x) + (r.a.x * r.b.z - r.a.z * r.b.x) * (r.a.x * r.b.z - r.a.z * r.b.x) + (r.a.y * r.b.z - r.a.z * r.b.y) * (r.a.y * r.b.z - r.a.z * r.b.y) := by
    simp only [R3.d2, V3.dot]; grind
  have h1 := sq0 (r.a.x * r.b.y - r.a.y * r.b.x); have h2 := sq0 (r.a.x * r.b.z - r.a.z * r.b.x); have h3 := sq0 (r.a.y * r.b.z - r.a.z * r.b.y)
  omega
theorem sq_eq0 {x : Int} (h : x * x = 0) : x = 0 := by have := abs_sq x; omega
theorem d1_zero {r : R3} (h : r.d1 = 0) : r.det = 0 := by
  have h1 := sq0 r.a.x; have h2 := sq0 r.a.y; have h3 := sq0 r.a.z
  have e : r.d1 = r.a.x * r.a.x + r.a.y * r.a.y + r.a.z * r.a.z := rfl
  have x := sq_eq0 (show r.a.x * r.a.x = 0 by omega)
  have y := sq_eq0 (show r.a.y * r.a.y = 0 by omega)
  have z := sq_eq0 (show r.a.z * r.a.z = 0 by omega)
  unfold R3.det
  rw [x, y, z, Int.zero_mul, Int.zero_mul, Int.zero_mul]; rfl
theorem d2_zero {r : R3} (h1 : r.d1 ≠ 0) (h : r.d2 = 0) : r.det = 0 := by
  have e := r.syl
  rw [h, Int.zero_mul] at e
  have p := d1_nonneg r
  have q := sq0 r.l21
  have s : 0 ≤ r.d3 := sq0 r.det
  have s2 := Int.mul_le_mul_of_nonneg_right (show 1 ≤ r.d1 by omega) s
  exact sq_eq0 (show r.det * r.det = 0 by have : r.d3 = r.det * r.det := rfl; omega)
theorem bd_start {r : R3} (h : r.Sm) (h1 : r.d1 ≠ 0) (h2 : r.d2 ≠ 0) (h3 : r.det ≠ 0) : r.Bd SS UU (TT 0) (TT 0) := by
  have p1 := d1_nonneg r
  have p2 := d2_nonneg r
  have p3 : 0 ≤ r.d3 := sq0 r.det
  have p4 : r.d3 ≠ 0 := fun e => h3 (sq_eq0 e)
  have a1 := sm_d1 h; have a2 := sm_d2 h; have a3 := sm_d3 h
  have b1 := h.b.dot h.b; have b2 := h.c.dot h.c
  have t0 := TT_ge 0
  have c1 := mul_up (show r.d1 ≤ 75 by omega) (show r.b.dot r.b ≤ 75 by omega) r.b.dot_nonneg (by decide)
  have c2 : r.d2 = r.d1 * r.b.dot r.b - r.l10 * r.l10 := rfl
  have c3 := sq0 r.l10
  exact ⟨by omega, by omega, by omega, by unfold SS; omega, by unfold SS; omega, by unfold UU; omega, by omega, by omega⟩
end Mine
end
section
set_option maxRecDepth 100000
namespace Mine
open PySem PySem.W PyProof.Rows PySem.Calls

def lk3 (r : R3) (t b : Int) : Nat → LC
  | 0 => ⟨r.rows3, [1], [], t, b⟩
  | 1 => ⟨r.rows3, [1, r.d1], [[]], t, b⟩
  | 2 => ⟨r.rows3, [1, r.d1, r.d2], [[], [r.l10]], t, b⟩
  | _ => r.lc3 t b
def lk2 (r : R3) (t b : Int) : Nat → LC
  | 0 => ⟨r.rows2, [1], [], t, b⟩
  | 1 => ⟨r.rows2, [1, r.d1], [[]], t, b⟩
  | _ => r.lc2 t b
def lkm (m : Nat) (r : R3) (t b : Int) : Nat → LC := if m = 2 then lk2 r t b else lk3 r t b

theorem bnd_mid {x : Int} (h : (x.natAbs : Int) ≤ 9007199254740992) : Bnd KB x := by
  refine (bnd_of (x := x) ?_).mono KD_le
  have := TT_ge 13; omega

section
variable {r : R3} {t b : Int}
theorem td3_0 : tkD (lk3 r t b 0) 0 = r.d1 := dot3 r.a r.a
theorem td3_1 : tkD (lk3 r t b 1) 1 = r.d2 := by
  show (r.d1 * dotI [r.b.x, r.b.y, r.b.z] [r.b.x, r.b.y, r.b.z] - dotI [r.b.x, r.b.y, r.b.z] [r.a.x, r.a.y, r.a.z] * dotI [r.b.x, r.b.y, r.b.z] [r.a.x, r.a.y, r.a.z]).tdiv 1 = _
  rw [dot3, dot3, tdiv_one]; rfl
theorem td3_2 (h1 : r.d1 ≠ 0) : tkD (lk3 r t b 2) 2 = r.d3 := by
  have e := congrArg (fun L => gt L.sizes 3) (tk3_2 r t b h1)
  exact e
theorem td2_0 (h : r.flat) : tkD (lk2 r t b 0) 0 = r.d1 := dot2 r.a r.a h.1
theorem td2_1 (h : r.flat) : tkD (lk2 r t b 1) 1 = r.d2 := by
  have e := congrArg (fun L => gt L.sizes 2) (tk2_1 r t b h)
  exact e

theorem flatRow {u : V3} (h : u.Sm) : (∀ j, Bnd KB (gt [u.x, u.y] j)) ∧ ∀ j, Bnd KB (gt [u.x, u.y, u.z] j) := by
  have q : ∀ {x : Int}, (x.natAbs : Int) ≤ 5 → Bnd KB x := fun h => bnd_mid (by omega)
  exact ⟨b_cons (q h.x) (b_cons (q h.y) b_nil), b_cons (q h.x) (b_cons (q h.y) (b_cons (q h.z) b_nil))⟩

theorem tkok3 (hs : r.Sm) (ht : (t.natAbs : Int) ≤ 67108864) (hbt : (b.natAbs : Int) ≤ 67108864) (k : Nat) (hk : k < 3) (hz : ∀ i, i < k → tkD (lk3 r t b i) i ≠ 0) : TkOk (lk3 r t b k) k := by
  have a1 := sm_d1 hs; have a2 := sm_d2 hs; have a3 := sm_l10 hs; have a4 := sm_l20 hs; have a5 := sm_l21 hs; have a6 := sm_e2 hs
  have bb := hs.b.dot hs.b; have cb := hs.c.dot hs.b; have cc := hs.c.dot hs.c; have aa := hs.a.dot hs.a; have ba := hs.b.dot hs.a; have ca := hs.c.dot hs.a
  have hrow : ∀ i j, Bnd KB (gt (gl r.rows3 i) j) := bb_cons (flatRow hs.a).2 (bb_cons (flatRow hs.b).2 (bb_cons (flatRow hs.c).2 bb_nil))
  have b1 : Bnd KB (1 : Int) := bnd_mid (by decide)
  have B1 : Bnd KB r.d1 := bnd_mid (by omega)
  have B2 : Bnd KB r.d2 := bnd_mid (by omega)
  have B3 : Bnd KB r.l10 := bnd_mid (by omega)
  have hw : ∀ j, (gl r.rows3 j).length ≤ 1000 := fun j => by
    match j with
    | 0 | 1 | 2 => show 3 ≤ 1000; omega
    | _ + 3 => show 0 ≤ 1000; omega
  have ht' : Bnd KB t := bnd_mid (by omega)
  have hb' : Bnd KB b := bnd_mid (by omega)
  have f3 : ∀ u v : V3, (((u.dot v).natAbs : Int) ≤ 75) → Bnd KB (dotI [u.x, u.y, u.z] [v.x, v.y, v.z]) := fun u v h => by rw [dot3]; exact bnd_mid (by omega)
  match k, hk with
  | 0, _ =>
    refine { hb := ⟨hrow, b_cons b1 b_nil, bb_nil, ht', hb'⟩, hp := rfl, hs := rfl, hr := by show 0 < 3; omega, hr9 := by show 3 ≤ 1000; omega, hl := fun j hj => by omega, hw := hw, hz := fun i hi => ?_, h1 := fun j hj => by omega, h2 := fun i hi => ?_, h3 := fun j i hj => ?_ }
    · obtain rfl : i = 0 := by omega
      show (1 : Int) ≠ 0; decide
    · obtain rfl : i = 0 := by omega
      exact f3 r.a r.a aa
    · obtain rfl : j = 0 := by omega
      exact b_nil i
  | 1, _ =>
    have z0 := hz 0 (by omega)
    rw [td3_0] at z0
    refine { hb := ⟨hrow, b_cons b1 (b_cons B1 b_nil), bb_cons b_nil bb_nil, ht', hb'⟩, hp := rfl, hs := rfl, hr := by show 1 < 3; omega, hr9 := by show 3 ≤ 1000; omega, hl := fun j hj => ?_, hw := hw, hz := fun i hi => ?_, h1 := fun j hj i hi => ?_, h2 := fun i hi => ?_, h3 := fun j i hj => ?_ }
    · obtain rfl : j = 0 := by omega
      rfl
    · match i, hi with
      | 0, _ => show (1 : Int) ≠ 0; decide
      | 1, _ => exact z0
    · obtain rfl : j = 0 := by omega
      obtain rfl : i = 0 := by omega
      exact f3 r.b r.a ba
    · match i, hi with
      | 0, _ => exact f3 r.b r.b bb
      | 1, _ =>
        show Bnd KB ((r.d1 * dotI [r.b.x, r.b.y, r.b.z] [r.b.x, r.b.y, r.b.z] - dotI [r.b.x, r.b.y, r.b.z] [r.a.x, r.a.y, r.a.z] * dotI [r.b.x, r.b.y, r.b.z] [r.a.x, r.a.y, r.a.z]).tdiv 1)
        rw [dot3, dot3, tdiv_one]; exact B2
    · match j, hj with
      | 0, _ => exact b_nil i
      | 1, _ => exact b_cons (f3 r.b r.a ba) b_nil i
  | 2, _ =>
    have z0 := hz 0 (by omega)
    rw [td3_0] at z0
    have z1 := hz 1 (by omega)
    rw [td3_1] at z1
    have e21 : (r.d1 * dotI [r.c.x, r.c.y, r.c.z] [r.b.x, r.b.y, r.b.z] - dotI [r.c.x, r.c.y, r.c.z] [r.a.x, r.a.y, r.a.z] * r.l10).tdiv 1 = r.l21 := by rw [dot3, dot3, tdiv_one]; rfl
    have ee2 : (r.d1 * dotI [r.c.x, r.c.y, r.c.z] [r.c.x, r.c.y, r.c.z] - dotI [r.c.x, r.c.y, r.c.z] [r.a.x, r.a.y, r.a.z] * dotI [r.c.x, r.c.y, r.c.z] [r.a.x, r.a.y, r.a.z]).tdiv 1 = r.e2 := by rw [dot3, dot3, tdiv_one]; rfl
    have B21 : Bnd KB ((r.d1 * dotI [r.c.x, r.c.y, r.c.z] [r.b.x, r.b.y, r.b.z] - dotI [r.c.x, r.c.y, r.c.z] [r.a.x, r.a.y, r.a.z] * r.l10).tdiv 1) := by rw [e21]; exact bnd_mid (by omega)
    refine { hb := ⟨hrow, b_cons b1 (b_cons B1 (b_cons B2 b_nil)), bb_cons b_nil (bb_cons (b_cons B3 b_nil) bb_nil), ht', hb'⟩, hp := rfl, hs := rfl, hr := by show 2 < 3; omega, hr9 := by show 3 ≤ 1000; omega, hl := fun j hj => ?_, hw := hw, hz := fun i hi => ?_, h1 := fun j hj i hi => ?_, h2 := fun i hi => ?_, h3 := fun j i hj => ?_ }
    · match j, hj with
      | 0, _ => rfl
      | 1, _ => rfl
    · match i, hi with
      | 0, _ => show (1 : Int) ≠ 0; decide
      | 1, _ => exact z0
      | 2, _ => exact z1
    · match j, hj, i, hi with
      | 0, _, 0, _ => exact f3 r.c r.a ca
      | 1, _, 0, _ => exact f3 r.c r.b cb
      | 1, _, 1, _ => exact B21
    · match i, hi with
      | 0, _ => exact f3 r.c r.c cc
      | 1, _ =>
        show Bnd KB ((r.d1 * dotI [r.c.x, r.c.y, r.c.z] [r.c.x, r.c.y, r.c.z] - dotI [r.c.x, r.c.y, r.c.z] [r.a.x, r.a.y, r.a.z] * dotI [r.c.x, r.c.y, r.c.z] [r.a.x, r.a.y, r.a.z]).tdiv 1)
        rw [ee2]; exact bnd_mid (by omega)
      | 2, _ =>
        show Bnd KB ((r.d2 * (r.d1 * dotI [r.c.x, r.c.y, r.c.z] [r.c.x, r.c.y, r.c.z] - dotI [r.c.x, r.c.y, r.c.z] [r.a.x, r.a.y, r.a.z] * dotI [r.c.x, r.c.y, r.c.z] [r.a.x, r.a.y, r.a.z]).tdiv 1 -
          (r.d1 * dotI [r.c.x, r.c.y, r.c.z] [r.b.x, r.b.y, r.b.z] - dotI [r.c.x, r.c.y, r.c.z] [r.a.x, r.a.y, r.a.z] * r.l10).tdiv 1 * (r.d1 * dotI [r.c.x, r.c.y, r.c.z] [r.b.x, r.b.y, r.b.z] - dotI [r.c.x, r.c.y, r.c.z] [r.a.x, r.a.y, r.a.z] * r.l10).tdiv 1).tdiv r.d1)
        rw [ee2, e21]
        refine Bnd.tdiv (bnd_mid ?_)
        have := abs_sub (abs_mul a2 a6) (abs_mul a5 a5)
        omega
    · match j, hj with
      | 0, _ => exact b_nil i
      | 1, _ => exact b_cons (f3 r.c r.a ca) b_nil i
      | 2, _ => exact b_cons (f3 r.c r.a ca) (b_cons B21 b_nil) i

theorem tkok2 (hf : r.flat) (hs : r.Sm) (ht : (t.natAbs : Int) ≤ 67108864) (hbt : (b.natAbs : Int) ≤ 67108864) (k : Nat) (hk : k < 2) (hz : ∀ i, i < k → tkD (lk2 r t b i) i ≠ 0) : TkOk (lk2 r t b k) k := by
  have a1 := sm_d1 hs; have a2 := sm_d2 hs; have a3 := sm_l10 hs
  have bb := hs.b.dot hs.b; have aa := hs.a.dot hs.a; have ba := hs.b.dot hs.a
  have hrow : ∀ i j, Bnd KB (gt (gl r.rows2 i) j) := bb_cons (flatRow hs.a).1 (bb_cons (flatRow hs.b).1 bb_nil)
  have b1 : Bnd KB (1 : Int) := bnd_mid (by decide)
  have B1 : Bnd KB r.d1 := bnd_mid (by omega)
  have B2 : Bnd KB r.d2 := bnd_mid (by omega)
  have hw : ∀ j, (gl r.rows2 j).length ≤ 1000 := fun j => by
    match j with
    | 0 | 1 => show 2 ≤ 1000; omega
    | _ + 2 => show 0 ≤ 1000; omega
  have ht' : Bnd KB t := bnd_mid (by omega)
  have hb' : Bnd KB b := bnd_mid (by omega)
  have f3 : ∀ u v : V3, u.z = 0 → (((u.dot v).natAbs : Int) ≤ 75) → Bnd KB (dotI [u.x, u.y] [v.x, v.y]) := fun u v hu h => by rw [dot2 _ _ hu]; exact bnd_mid (by omega)
  match k, hk with
  | 0, _ =>
    refine { hb := ⟨hrow, b_cons b1 b_nil, bb_nil, ht', hb'⟩, hp := rfl, hs := rfl, hr := by show 0 < 2; omega, hr9 := by show 2 ≤ 1000; omega, hl := fun j hj => by omega, hw := hw, hz := fun i hi => ?_, h1 := fun j hj => by omega, h2 := fun i hi => ?_, h3 := fun j i hj => ?_ }
    · obtain rfl : i = 0 := by omega
      show (1 : Int) ≠ 0; decide
    · obtain rfl : i = 0 := by omega
      exact f3 r.a r.a hf.1 aa
    · obtain rfl : j = 0 := by omega
      exact b_nil i
  | 1, _ =>
    have z0 := hz 0 (by omega)
    rw [td2_0 hf] at z0
    refine { hb := ⟨hrow, b_cons b1 (b_cons B1 b_nil), bb_cons b_nil bb_nil, ht', hb'⟩, hp := rfl, hs := rfl, hr := by show 1 < 2; omega, hr9 := by show 2 ≤ 1000; omega, hl := fun j hj => ?_, hw := hw, hz := fun i hi => ?_, h1 := fun j hj i hi => ?_, h2 := fun i hi => ?_, h3 := fun j i hj => ?_ }
    · obtain rfl : j = 0 := by omega
      rfl
    · match i, hi with
      | 0, _ => show (1 : Int) ≠ 0; decide
      | 1, _ => exact z0
    · obtain rfl : j = 0 := by omega
      obtain rfl : i = 0 := by omega
      exact f3 r.b r.a hf.2.1 ba
    · match i, hi with
      | 0, _ => exact f3 r.b r.b hf.2.1 bb
      | 1, _ =>
        show Bnd KB ((r.d1 * dotI [r.b.x, r.b.y] [r.b.x, r.b.y] - dotI [r.b.x, r.b.y] [r.a.x, r.a.y] * dotI [r.b.x, r.b.y] [r.a.x, r.a.y]).tdiv 1)
        rw [dot2 _ _ hf.2.1, dot2 _ _ hf.2.1, tdiv_one]; exact B2
    · match j, hj with
      | 0, _ => exact b_nil i
      | 1, _ => exact b_cons (f3 r.b r.a hf.2.1 ba) b_nil i
end

section
variable {m : Nat} {r : R3} {t b : Int} (B : TB t b) (hm : m = 2 ∨ m = 3) (hf : m = 2 → r.flat) (hs : r.Sm)
include B hm hf hs
theorem lk_ok (k : Nat) (hk : k < m) (hz : ∀ i, i < k → tkD (lkm m r t b i) i ≠ 0) : TkOk (lkm m r t b k) k := by
  have := B.t0; have := B.tb; have := B.b9
  rcases hm with rfl | rfl
  · exact tkok2 (hf rfl) hs (by omega) (by omega) k hk hz
  · exact tkok3 hs (by omega) (by omega) k hk hz
omit B hs in
theorem lk_st (k : Nat) (hk : k < m) (hz : ∀ i, i ≤ k → tkD (lkm m r t b i) i ≠ 0) : lkm m r t b (k + 1) = tkL (lkm m r t b k) k := by
  rcases hm with rfl | rfl
  · match k, hk with
    | 0, _ => exact (tk2_0 r t b (hf rfl)).symm
    | 1, _ => exact (tk2_1 r t b (hf rfl)).symm
  · match k, hk with
    | 0, _ => exact (tk3_0 r t b).symm
    | 1, _ => exact (tk3_1 r t b).symm
    | 2, _ =>
      have z0 := hz 0 (by omega)
      exact (tk3_2 r t b (by rw [← td3_0 (t := t) (b := b)]; exact z0)).symm
omit B hs in
theorem lk_zero (k : Nat) (hk : k < m) (hz : ∀ i, i < k → tkD (lkm m r t b i) i ≠ 0) (h0 : tkD (lkm m r t b k) k = 0) : r.det = 0 := by
  rcases hm with rfl | rfl
  · match k, hk with
    | 0, _ => exact d1_zero ((td2_0 (hf rfl)).symm.trans h0)
    | 1, _ => exact sq_eq0 ((flat_d2 (hf rfl)).symm.trans ((td2_1 (hf rfl)).symm.trans h0))
  · match k, hk with
    | 0, _ => exact d1_zero (td3_0.symm.trans h0)
    | 1, _ =>
      have z0 := hz 0 (by omega)
      exact d2_zero (by rw [← td3_0 (t := t) (b := b)]; exact z0) (td3_1.symm.trans h0)
    | 2, _ =>
      have z0 := hz 0 (by omega)
      exact sq_eq0 ((td3_2 (by rw [← td3_0 (t := t) (b := b)]; exact z0)).symm.trans h0)
theorem lk_end (hz : ∀ i, i < m → tkD (lkm m r t b i) i ≠ 0) : r.det ≠ 0 ∧ DI m t b r.det r 0 (lkm m r t b m) ∧ gt (lkm m r t b m).sizes m = r.det * r.det := by
  rcases hm with rfl | rfl
  · have hf := hf rfl
    have z0 : r.d1 ≠ 0 := by rw [← td2_0 (t := t) (b := b) hf]; exact hz 0 (by omega)
    have z1 : r.d2 ≠ 0 := by rw [← td2_1 (t := t) (b := b) hf]; exact hz 1 (by omega)
    have e := flat_d2 hf
    have zd : r.det ≠ 0 := fun q => z1 (by rw [e, q]; rfl)
    exact ⟨zd, ⟨r, ⟨rfl, .self_a, .self_b, .self_c, .inr ⟨rfl, hf, rfl⟩⟩, bd_start hs z0 z1 zd⟩, e⟩
  · have z0 : r.d1 ≠ 0 := by rw [← td3_0 (t := t) (b := b)]; exact hz 0 (by omega)
    have z1 : r.d2 ≠ 0 := by rw [← td3_1 (t := t) (b := b)]; exact hz 1 (by omega)
    have z2 : r.d3 ≠ 0 := by rw [← td3_2 (t := t) (b := b) z0]; exact hz 2 (by omega)
    have zd : r.det ≠ 0 := fun q => z2 (by show r.det * r.det = 0; rw [q]; rfl)
    exact ⟨zd, ⟨r, ⟨rfl, .self_a, .self_b, .self_c, .inl ⟨rfl, rfl⟩⟩, bd_start hs z0 z1 zd⟩, rfl⟩
end
end Mine
end
section
set_option maxRecDepth 100000
namespace Mine
open PySem PySem.W PyProof.Rows PySem.Calls

def Odd (σ : AHeap) (x d : Addr) (c : Int) : Prop := σ x = some (.list [.int c, .ref d])
section
variable {M : Addr → Prop} {σ σ' : AHeap} {x d : Addr} {c : Int} (ho : Odd σ x d c) (e : ExtBut x σ σ')
include ho e
omit e in
theorem odd_ne_I {a : Addr} {l : List Int} (h1 : σ a = some (iL l)) : a ≠ x := fun q => by
  rw [q, ho] at h1
  match l with
  | [] => cases h1
  | [y] => cases h1
  | y :: z :: r => simp at h1
theorem IsN.odd {a : Addr} {z : Int} (h : IsN σ a z) : IsN σ' a z := by
  obtain ⟨l, h1, h2⟩ := h
  exact ⟨l, e _ _ (odd_ne_I ho h1) h1, h2⟩
theorem IsS.odd {v : V} {z : Int} (h : IsS M σ v z) : IsS M σ' v z := by
  obtain ⟨t, a, h1, h2, h3, h4⟩ := h
  exact ⟨t, a, h1, e _ _ (fun q => by rw [q, ho] at h2; cases h2) h2, h3.odd ho e, h4⟩
theorem IsSs.odd {vs : List V} {xs : List Int} (h : IsSs M σ vs xs) : IsSs M σ' vs xs := ⟨h.1, fun i v y h1 h2 => (h.2 i v y h1 h2).odd ho e⟩
omit e in
theorem odd_ne_S {a : Addr} {vs : List V} {xs : List Int} (h1 : σ a = some (.list vs)) (h : IsSs M σ vs xs) : a ≠ x := fun q => by
  rw [q, ho] at h1
  cases h1
  obtain ⟨hl, h⟩ := h
  match xs, hl with
  | [y, z], _ => obtain ⟨t, a, q, _⟩ := h 0 _ _ rfl rfl; cases q
omit e in
theorem odd_ne_R {a : Addr} {l : List Addr} (h1 : σ a = some (.list (l.map .ref))) : a ≠ x := fun q => by
  rw [q, ho] at h1
  cases l with
  | nil => cases h1
  | cons y r => simp at h1
theorem IsLs.odd {as : List Addr} {ls : List (List Int)} (h : IsLs M σ as ls) : IsLs M σ' as ls :=
  ⟨h.1, fun i a r h1 h2 => by
    obtain ⟨vs, q1, q2⟩ := h.2 i a r h1 h2
    exact ⟨vs, e _ _ (odd_ne_S ho q1 q2) q1, q2.odd ho e⟩⟩
theorem LatAt.odd {h0 : Heap} {s : Addr} {A : LA} {L : LC} {o : AObj} (h : LatAt h0 M σ s A L) (hx : σ' x = some o) : LatAt h0 M σ' s A L := by
  refine { inst := e _ _ (fun q => by have := h.inst; rw [q, ho] at this; cases this) h.inst, dict := e _ _ (fun q => by have := h.dict; rw [q, ho] at this; cases this) h.dict, rows := e _ _ (odd_ne_R ho h.rows) h.rows, rowsL := h.rowsL.odd ho e, sizes := ?_, parts := e _ _ (odd_ne_R ho h.parts) h.parts, partsL := h.partsL.odd ho e, top := h.top.odd ho e, bot := h.bot.odd ho e, nought := h.nought.odd ho e, live := h.live.but e hx, mu := h.mu, nd := h.nd, rsM := h.rsM, bs := h.bs }
  obtain ⟨ss, a, b⟩ := h.sizes
  exact ⟨ss, e _ _ (odd_ne_S ho a b) a, b.odd ho e⟩
theorem IsM.odd {a : Addr} {rows : List (List Int)} (h : IsM σ a rows) : IsM σ' a rows := by
  obtain ⟨as, h1, h2, h3⟩ := h
  exact ⟨as, e _ _ (odd_ne_R ho h1) h1, h2, fun i hi => e _ _ (odd_ne_I ho (h3 i hi)) (h3 i hi)⟩
end

def Sg (σ : AHeap) (t : Addr) (x : Int) : Prop := ∃ r, σ t = some (.tup [.bool (decide (x < 0)), .ref r]) ∧ σ r = some (iL (digs x.natAbs))
theorem Sg.ext {σ σ' : AHeap} {t : Addr} {x : Int} (h : Sg σ t x) (e : Ext σ σ') : Sg σ' t x := by obtain ⟨r, a, b⟩ := h; exact ⟨r, e _ _ a, e _ _ b⟩
theorem Sg.isS {σ : AHeap} {t : Addr} {x : Int} {M : Addr → Prop} (h : Sg σ t x) (hM : ∀ a o, σ a = some o → ¬ M a) : IsS M σ (.ref t) x := by
  obtain ⟨r, a, b⟩ := h; exact ⟨t, r, rfl, a, ⟨_, b, digs_nrm _, digs_val _⟩, hM _ _ b⟩
def SgRow (σ : AHeap) (a : Addr) (row : List Int) : Prop := ∃ ts : List Addr, σ a = some (.list (ts.map .ref)) ∧ ts.length = row.length ∧ ∀ j, j < row.length → Sg σ (ga ts j) (gt row j)
theorem SgRow.ext {σ σ' : AHeap} {a : Addr} {row : List Int} (h : SgRow σ a row) (e : Ext σ σ') : SgRow σ' a row := by obtain ⟨ts, h1, h2, h3⟩ := h; exact ⟨ts, e _ _ h1, h2, fun j hj => (h3 j hj).ext e⟩
def Given (σ : AHeap) (a : Addr) (rows : List (List Int)) : Prop := ∃ as : List Addr, σ a = some (.list (as.map .ref)) ∧ as.length = rows.length ∧ ∀ i, i < rows.length → SgRow σ (ga as i) (gl rows i)
theorem Given.ext {σ σ' : AHeap} {a : Addr} {rows : List (List Int)} (h : Given σ a rows) (e : Ext σ σ') : Given σ' a rows := by obtain ⟨as, h1, h2, h3⟩ := h; exact ⟨as, e _ _ h1, h2, fun j hj => (h3 j hj).ext e⟩
section
variable {σ σ' : AHeap} {x d : Addr} {c : Int} (ho : Odd σ x d c) (e : ExtBut x σ σ')
include ho e
theorem Sg.odd {t : Addr} {z : Int} (h : Sg σ t z) : Sg σ' t z := by
  obtain ⟨r, a, b⟩ := h; exact ⟨r, e _ _ (fun q => by rw [q, ho] at a; cases a) a, e _ _ (odd_ne_I ho b) b⟩
theorem SgRow.odd {a : Addr} {row : List Int} (h : SgRow σ a row) : SgRow σ' a row := by obtain ⟨ts, h1, h2, h3⟩ := h; exact ⟨ts, e _ _ (odd_ne_R ho h1) h1, h2, fun j hj => (h3 j hj).odd ho e⟩
theorem Given.odd {a : Addr} {rows : List (List Int)} (h : Given σ a rows) : Given σ' a rows := by obtain ⟨as, h1, h2, h3⟩ := h; exact ⟨as, e _ _ (odd_ne_R ho h1) h1, h2, fun j hj => (h3 j hj).odd ho e⟩
end
theorem Given.isLs {σ : AHeap} {a : Addr} {rows : List (List Int)} {M : Addr → Prop} (h : Given σ a rows) (hM : ∀ a o, σ a = some o → ¬ M a) : ∃ as : List Addr, σ a = some (.list (as.map .ref)) ∧ IsLs M σ as rows := by
  obtain ⟨as, h1, h2, h3⟩ := h
  refine ⟨as, h1, h2, fun i b l e1 e2 => ?_⟩
  have hi : i < rows.length := by
    rcases Nat.lt_or_ge i rows.length with q | q
    · exact q
    · rw [List.getElem?_eq_none q] at e2; cases e2
  rw [gl_some hi] at e2; cases e2
  rw [ga_some (by omega)] at e1; cases e1
  obtain ⟨ts, t1, t2, t3⟩ := h3 i hi
  refine ⟨_, t1, by rw [List.length_map, t2], fun j v y f1 f2 => ?_⟩
  have hj : j < (gl rows i).length := by
    rcases Nat.lt_or_ge j (gl rows i).length with q | q
    · exact q
    · rw [List.getElem?_eq_none q] at f2; cases f2
  rw [gt_some hj] at f2; cases f2
  rw [List.getElem?_map, ga_some (by omega)] at f1; cases f1
  exact (t3 j hj).isS hM

def trN (x : Int) : PyData := .tuple [.bool (decide (x < 0)), .list ((digs x.natAbs).map .int)]
def trRow (r : List Int) : PyData := .list (r.map trN)
def trRows (rows : List (List Int)) : PyData := .list (rows.map trRow)
theorem tr_ints {σ : AHeap} {a : Addr} {l : List Int} {n : Nat} (h : σ a = some (iL l)) : TrIs σ (n + 1) (.ref a) (.list (l.map .int)) := by
  refine ⟨_, h, by simp, fun i v d e1 e2 => ?_⟩
  rw [List.getElem?_map] at e1 e2
  obtain ⟨y, y1, rfl⟩ := Option.map_eq_some_iff.mp e1
  rw [y1] at e2; cases e2
  unfold TrIs; rfl
theorem Sg.tree {σ : AHeap} {t : Addr} {x : Int} {n : Nat} (h : Sg σ t x) : TrIs σ (n + 2) (.ref t) (trN x) := by
  obtain ⟨r, a, b⟩ := h
  refine ⟨_, a, rfl, fun i v d e1 e2 => ?_⟩
  match i with
  | 0 => cases e1; cases e2; unfold TrIs; rfl
  | 1 => cases e1; cases e2; exact tr_ints b
  | _ + 2 => simp at e1
theorem SgRow.tree {σ : AHeap} {a : Addr} {row : List Int} {n : Nat} (h : SgRow σ a row) : TrIs σ (n + 3) (.ref a) (trRow row) := by
  obtain ⟨ts, h1, h2, h3⟩ := h
  refine ⟨_, h1, by simp [h2], fun i v d e1 e2 => ?_⟩
  rw [List.getElem?_map] at e1 e2
  obtain ⟨y, y1, rfl⟩ := Option.map_eq_some_iff.mp e1
  obtain ⟨z, z1, rfl⟩ := Option.map_eq_some_iff.mp e2
  have hi : i < row.length := by
    rcases Nat.lt_or_ge i row.length with q | q
    · exact q
    · rw [List.getElem?_eq_none q] at z1; cases z1
  rw [gt_some hi] at z1; cases z1
  rw [ga_some (by omega)] at y1; cases y1
  exact (h3 i hi).tree
theorem Given.tree {σ : AHeap} {a : Addr} {rows : List (List Int)} (h : Given σ a rows) : TrIs σ 6 (.ref a) (trRows rows) := by
  obtain ⟨as, h1, h2, h3⟩ := h
  refine ⟨_, h1, by simp [h2], fun i v d e1 e2 => ?_⟩
  rw [List.getElem?_map] at e1 e2
  obtain ⟨y, y1, rfl⟩ := Option.map_eq_some_iff.mp e1
  obtain ⟨z, z1, rfl⟩ := Option.map_eq_some_iff.mp e2
  have hi : i < rows.length := by
    rcases Nat.lt_or_ge i rows.length with q | q
    · exact q
    · rw [List.getElem?_eq_none q] at z1; cases z1
  rw [gl_some hi] at z1; cases z1
  rw [ga_some (by omega)] at y1; cases y1
  exact (h3 i hi).tree
end Mine
end
section
set_option maxRecDepth 100000
namespace Mine
open PySem PySem.W PyProof.Rows PySem.Calls

section
variable {h0 : Heap} {prog : Program} {w : World} {mg mb : Str → Option Value} (G : Gd (KK w) h0 mg mb) {n : Nat}

theorem ga_append_left {l m : List Addr} {j : Nat} (h : j < l.length) : ga (l ++ m) j = ga l j := by
  unfold ga; rw [List.getD_eq_getElem?_getD, List.getD_eq_getElem?_getD, List.getElem?_append_left h]
theorem ga_append_last {l : List Addr} {v : Addr} : ga (l ++ [v]) l.length = v := by
  unfold ga; rw [List.getD_eq_getElem?_getD, List.getElem?_append_right (Nat.le_refl _)]; simp

include G in
theorem signed_row {p1 p2 p3 p4 p5 p6 : Pos} {sc : Scope} {cn : List Str} {a : Addr} {row : List Int} {σ : AHeap} {Q : V → AHeap → Prop} (ha : σ a = some (iL row)) (hb : ∀ j, Bnd ML (gt row j)) (hl : row.length ≤ 1000)
    (hQ : ∀ r σ', Ext σ σ' → SgRow σ' r row → Q (.ref r) σ') :
    wpE (Bs h0) (CC prog w h0 (n + 1)) (.comp (.call (.glo "_law_signed" (.ref 371) p1) (.cons (.loc 0 p2) .nil) p3) (.one 0 p4) (.lst (.loc 0 p5)) sc cn [none] p6) [some (.ref a)] σ Q := by
  conv => whnf
  refine ⟨_, ha, ?_⟩
  refine ⟨by rw [List.length_map, List.length_map]; show _ ≤ 16777216; omega, fun acc υ => Ext σ υ ∧ ∃ ts : List Addr, acc = ts.map .ref ∧ ts.length ≤ row.length ∧ ∀ j, j < ts.length → Sg υ (ga ts j) (gt row j), ⟨.refl, [], rfl, Nat.zero_le _, fun j hj => absurd hj (Nat.not_lt_zero _)⟩, ?_, ?_, ?_⟩
  · rintro acc υ ⟨he, _⟩
    exact he _ _ ha
  · rintro acc υ it ⟨he, ts, rfl, hle, hts⟩ hit
    obtain ⟨v, hv, rfl⟩ := map_get hit
    rw [List.length_map] at hv
    have hlt : ts.length < row.length := by
      rcases Nat.lt_or_ge ts.length row.length with q | q
      · exact q
      · rw [List.getElem?_eq_none (by simpa using q)] at hv; cases hv
    rw [List.getElem?_map, gt_some hlt] at hv
    cases hv
    conv => whnf
    refine c_law_signed (M := fun _ => False) G (fun m hm => hm.elim) (hb _) fun t r υ' e1 t1 t2 _ => ?_
    refine ⟨he.trans e1, ts ++ [t], by simp, by rw [List.length_append, List.length_singleton]; exact hlt, fun j hj => ?_⟩
    rw [List.length_append, List.length_singleton] at hj
    rcases Nat.lt_or_ge j ts.length with q | q
    · rw [ga_append_left q]; exact (hts j q).ext e1
    · rw [show j = ts.length by omega, ga_append_last]; exact ⟨r, t1, t2⟩
  · rintro acc υ ⟨he, ts, rfl, hle, hts⟩ hlen
    rw [List.length_map, List.length_map, List.length_map] at hlen
    intro r σ' b1 n1 e1 y1
    exact hQ r σ' (he.trans e1) ⟨ts, y1, hlen, fun j hj => (hts j (by omega)).ext e1⟩

include G in
theorem signed_rows {p1 p2 p3 p4 p5 p6 p7 p8 p9 : Pos} {sc sc2 : Scope} {cn cn2 : List Str} {ρ : Loc} {a : Addr} {rows : List (List Int)} {σ : AHeap} {Q : V → AHeap → Prop} (hρ : ρ.getD 6 none = some (.ref a)) (ha : IsM σ a rows) (hb : ∀ i j, Bnd ML (gt (gl rows i) j)) (hl : rows.length ≤ 1000) (hl' : ∀ i, i < rows.length → (gl rows i).length ≤ 1000)
    (hQ : ∀ r σ', Ext σ σ' → Given σ' r rows → Q (.ref r) σ') :
    wpE (Bs h0) (CC prog w h0 (n + 1)) (.comp (.comp (.call (.glo "_law_signed" (.ref 371) p1) (.cons (.loc 0 p2) .nil) p3) (.one 0 p4) (.lst (.loc 0 p5)) sc cn [none] p6) (.one 0 p7) (.lst (.loc 6 p8)) sc2 cn2 [none] p9) ρ σ Q := by
  obtain ⟨as, h1, h2, h3⟩ := ha
  conv => whnf
  rw [hρ]
  refine ⟨_, h1, ?_⟩
  refine ⟨by rw [List.length_map, List.length_map]; show _ ≤ 16777216; omega, fun acc υ => Ext σ υ ∧ ∃ bs : List Addr, acc = bs.map .ref ∧ bs.length ≤ rows.length ∧ ∀ i, i < bs.length → SgRow υ (ga bs i) (gl rows i), ⟨.refl, [], rfl, Nat.zero_le _, fun j hj => absurd hj (Nat.not_lt_zero _)⟩, ?_, ?_, ?_⟩
  · rintro acc υ ⟨he, _⟩
    exact he _ _ h1
  · rintro acc υ it ⟨he, bs, rfl, hle, hbs⟩ hit
    obtain ⟨v, hv, rfl⟩ := map_get hit
    rw [List.length_map] at hv
    have hlt : bs.length < rows.length := by
      rcases Nat.lt_or_ge bs.length rows.length with q | q
      · exact q
      · rw [List.getElem?_eq_none (by simp; omega)] at hv; cases hv
    rw [List.getElem?_map, ga_some (by omega)] at hv
    cases hv
    refine signed_row G (he _ _ (h3 _ hlt)) (hb _) (hl' _ hlt) fun r υ' e1 s1 => ?_
    refine ⟨he.trans e1, bs ++ [r], by simp, by rw [List.length_append, List.length_singleton]; exact hlt, fun j hj => ?_⟩
    rw [List.length_append, List.length_singleton] at hj
    rcases Nat.lt_or_ge j bs.length with q | q
    · rw [ga_append_left q]; exact (hbs j q).ext e1
    · rw [show j = bs.length by omega, ga_append_last]; exact s1
  · rintro acc υ ⟨he, bs, rfl, hle, hbs⟩ hlen
    rw [List.length_map, List.length_map, List.length_map, h2] at hlen
    intro r σ' b1 n1 e1 y1
    exact hQ r σ' (he.trans e1) ⟨bs, y1, hlen, fun j hj => (hbs j (by omega)).ext e1⟩

include G in
theorem plain_row {M : Addr → Prop} {p1 p2 p3 p4 p5 p6 : Pos} {sc : Scope} {cn : List Str} {a : Addr} {vs : List V} {row : List Int} {σ : AHeap} {Q : V → AHeap → Prop} (ha : σ a = some (.list vs)) (hS : IsSs M σ vs row) (hb : ∀ j, Bnd KB (gt row j)) (hl : row.length ≤ 1000)
    (hQ : ∀ r σ', Ext σ σ' → σ' r = some (iL row) → Q (.ref r) σ') :
    wpE (Bs h0) (CC prog w h0 (n + 1)) (.comp (.call (.glo "_law_plain" (.ref 376) p1) (.cons (.loc 0 p2) .nil) p3) (.one 0 p4) (.lst (.loc 0 p5)) sc cn [none] p6) [some (.ref a)] σ Q := by
  conv => whnf
  refine ⟨_, ha, ?_⟩
  refine ⟨by rw [List.length_map, hS.1]; show _ ≤ 16777216; omega, fun acc υ => Ext σ υ ∧ acc.length ≤ row.length ∧ acc = (row.take acc.length).map .int, ⟨.refl, Nat.zero_le _, rfl⟩, ?_, ?_, ?_⟩
  · rintro acc υ ⟨he, _⟩
    exact he _ _ ha
  · rintro acc υ it ⟨he, hle, hacc⟩ hit
    obtain ⟨v, hv, rfl⟩ := map_get hit
    have hlt : acc.length < row.length := by
      rw [← hS.1]
      rcases Nat.lt_or_ge acc.length vs.length with q | q
      · exact q
      · rw [List.getElem?_eq_none q] at hv; cases hv
    conv => whnf
    refine c_plain G ((hS.2 _ _ _ hv (gt_some hlt)).ext he) ((hb _).mono (by omega)) fun υ' e => ?_
    refine ⟨he.trans e, by rw [List.length_append, List.length_singleton]; omega, ?_⟩
    rw [List.length_append, List.length_singleton, List.take_succ_eq_append_getElem hlt, List.map_append, ← hacc, gt_eq]
    rfl
  · rintro acc υ ⟨he, hle, hacc⟩ hlen
    rw [List.length_map, hS.1] at hlen
    intro r σ' r1 r2 r3 r4
    rw [hacc, hlen, List.take_of_length_le (Nat.le_refl _)] at r4
    exact hQ r σ' (he.trans r3) r4

include G in
theorem plain_rows {M : Addr → Prop} {A : LA} {L : LC} {x : Addr} {p1 p2 p3 p4 p5 p6 p7 p8 p9 p10 : Pos} {sc sc2 : Scope} {cn cn2 : List Str} {ρ : Loc} {σ : AHeap} {Q : V → AHeap → Prop} (hρ : ρ.getD 10 none = some (.ref x)) (h : LatAt h0 M σ x A L) (hb : BndL L) (hl : L.rows.length ≤ 1000) (hl' : ∀ i, i < L.rows.length → (gl L.rows i).length ≤ 1000)
    (hQ : ∀ r σ', Ext σ σ' → IsM σ' r L.rows → Q (.ref r) σ') :
    wpE (Bs h0) (CC prog w h0 (n + 1)) (.comp (.comp (.call (.glo "_law_plain" (.ref 376) p1) (.cons (.loc 0 p2) .nil) p3) (.one 0 p4) (.lst (.loc 0 p5)) sc cn [none] p6) (.one 0 p7) (.lst (.attr (.loc 10 p8) 0 p9)) sc2 cn2 [none] p10) ρ σ Q := by
  have hlr := h.len_rs
  conv => whnf
  rw [hρ]
  refine h.aRx ?_
  refine ⟨_, h.rows, ?_⟩
  refine ⟨by rw [List.length_map, List.length_map]; show _ ≤ 16777216; omega, fun acc υ => Ext σ υ ∧ ∃ bs : List Addr, acc = bs.map .ref ∧ bs.length ≤ L.rows.length ∧ ∀ i, i < bs.length → υ (ga bs i) = some (iL (gl L.rows i)), ⟨.refl, [], rfl, Nat.zero_le _, fun j hj => absurd hj (Nat.not_lt_zero _)⟩, ?_, ?_, ?_⟩
  · rintro acc υ ⟨he, _⟩
    exact he _ _ h.rows
  · rintro acc υ it ⟨he, bs, rfl, hle, hbs⟩ hit
    obtain ⟨v, hv, rfl⟩ := map_get hit
    rw [List.length_map] at hv
    have hlt : bs.length < L.rows.length := by
      rcases Nat.lt_or_ge bs.length L.rows.length with q | q
      · exact q
      · rw [List.getElem?_eq_none (by simp; omega)] at hv; cases hv
    rw [List.getElem?_map, ga_some (by omega)] at hv
    cases hv
    obtain ⟨_, vs, v1, v2⟩ := h.rowsL.at hlt
    refine plain_row G (he _ _ v1) (v2.ext he) (hb.rows _) (hl' _ hlt) fun r υ' e1 s1 => ?_
    refine ⟨he.trans e1, bs ++ [r], by simp, by rw [List.length_append, List.length_singleton]; exact hlt, fun j hj => ?_⟩
    rw [List.length_append, List.length_singleton] at hj
    rcases Nat.lt_or_ge j bs.length with q | q
    · rw [ga_append_left q]; exact e1 _ _ (hbs j q)
    · rw [show j = bs.length by omega, ga_append_last]; exact s1
  · rintro acc υ ⟨he, bs, rfl, hle, hbs⟩ hlen
    rw [List.length_map, List.length_map, List.length_map, hlr] at hlen
    intro r σ' b1 n1 e1 y1
    exact hQ r σ' (he.trans e1) ⟨bs, y1, hlen, fun j hj => e1 _ _ (hbs j (by omega))⟩
end
end Mine
end
section
set_option maxRecDepth 100000
namespace Mine
open PySem PySem.W PyProof.Rows PySem.Calls

structure LS (h0 : Heap) (τ : AHeap) (hp dl : Addr) (ds : List Int) (ra gv : Addr) (rows : List (List Int)) (x : Addr) (M : Addr → Prop) (σ : AHeap) (A : LA) (L : LC) : Prop where
  ext : Ext τ σ
  off : ∀ a o, τ a = some o → ¬ M a
  hpM : ¬ M hp
  hpB : Bs h0 hp
  hpN : τ hp = none
  odd : ∃ c, 0 ≤ c ∧ Odd σ hp dl c
  dls : τ dl = some (iL ds)
  rws : IsM τ ra rows
  giv : Given τ gv rows
  lat : LatAt h0 M σ x A L

section
variable {h0 : Heap} {τ : AHeap} {hp dl : Addr} {ds : List Int} {ra gv : Addr} {rows : List (List Int)} {x : Addr} {M : Addr → Prop} {σ σ' : AHeap} {A : LA} {L : LC}
theorem LS.extE (h : LS h0 τ hp dl ds ra gv rows x M σ A L) (e : Ext σ σ') : LS h0 τ hp dl ds ra gv rows x M σ' A L := by
  obtain ⟨c, c0, o⟩ := h.odd
  exact { h with ext := h.ext.trans e, odd := ⟨c, c0, e _ _ o⟩, lat := h.lat.ext e }
theorem LS.grow (h : LS h0 τ hp dl ds ra gv rows x M σ A L) {M' : Addr → Prop} {A' : LA} {L' : LC} (g : Grow M σ M' σ') (l : LatAt h0 M' σ' x A' L') : LS h0 τ hp dl ds ra gv rows x M' σ' A' L' := by
  obtain ⟨c, c0, o⟩ := h.odd
  have q := g.out h.hpM o
  exact { ext := fun a o e => g.ext a o (h.off a o e) (h.ext a o e), off := fun a o e => (g.out (h.off a o e) (h.ext a o e)).1, hpM := q.1, hpB := h.hpB, hpN := h.hpN, odd := ⟨c, c0, q.2⟩, dls := h.dls, rws := h.rws, giv := h.giv, lat := l }
theorem LS.rake (h : LS h0 τ hp dl ds ra gv rows x M σ A L) {c c' : Int} (o : Odd σ hp dl c) (e : ExtBut hp σ σ') (o' : Odd σ' hp dl c') (c0 : 0 ≤ c') : LS h0 τ hp dl ds ra gv rows x M σ' A L :=
  { h with ext := fun a ob q => e a ob (fun z => by rw [z, h.hpN] at q; cases q) (h.ext a ob q), odd := ⟨c', c0, o'⟩, lat := h.lat.odd o e o' }
theorem LS.dlh (h : LS h0 τ hp dl ds ra gv rows x M σ A L) : dl ≠ hp := fun q => by have := h.dls; rw [q, h.hpN] at this; cases this
end

theorem len_two {α : Type} {l : List α} (h : l.length = 2) : ∃ a b, l = [a, b] := by
  match l, h with
  | [a, b], _ => exact ⟨a, b, rfl⟩
theorem len_three {α : Type} {l : List α} (h : l.length = 3) : ∃ a b c, l = [a, b, c] := by
  match l, h with
  | [a, b, c], _ => exact ⟨a, b, c, rfl⟩
theorem rows_r3 {m : Nat} {rows : List (List Int)} (hm : m = 2 ∨ m = 3) (h1 : rows.length = m) (h2 : ∀ i, i < m → (gl rows i).length = m) (h3 : ∀ i j, i < m → j < m → -3 ≤ gt (gl rows i) j ∧ gt (gl rows i) j ≤ 5) :
    ∃ r : R3, rows = r.rw m ∧ r.Sm ∧ (m = 2 → r.flat) ∧ detN (m - 1) rows = r.det := by
  have ab : ∀ {x : Int}, -3 ≤ x ∧ x ≤ 5 → (x.natAbs : Int) ≤ 5 := fun h => by omega
  have z5 : (((0 : Int).natAbs : Nat) : Int) ≤ 5 := by decide
  have o5 : (((1 : Int).natAbs : Nat) : Int) ≤ 5 := by decide
  rcases hm with rfl | rfl
  · obtain ⟨p, q, rfl⟩ := len_two h1
    obtain ⟨a, b, rfl⟩ := len_two (h2 0 (by omega))
    obtain ⟨c, d, rfl⟩ := len_two (h2 1 (by omega))
    have fl : (⟨⟨a, b, 0⟩, ⟨c, d, 0⟩, ⟨0, 0, 1⟩⟩ : R3).flat := ⟨rfl, rfl, rfl⟩
    refine ⟨⟨⟨a, b, 0⟩, ⟨c, d, 0⟩, ⟨0, 0, 1⟩⟩, rfl, ⟨⟨?_, ?_, z5⟩, ⟨?_, ?_, z5⟩, ⟨z5, z5, o5⟩⟩, fun _ => fl, ?_⟩
    · exact ab (h3 0 0 (by omega) (by omega))
    · exact ab (h3 0 1 (by omega) (by omega))
    · exact ab (h3 1 0 (by omega) (by omega))
    · exact ab (h3 1 1 (by omega) (by omega))
    · exact det2_eq ⟨⟨a, b, 0⟩, ⟨c, d, 0⟩, ⟨0, 0, 1⟩⟩ fl
  · obtain ⟨p, q, s, rfl⟩ := len_three h1
    obtain ⟨a, b, c, rfl⟩ := len_three (h2 0 (by omega))
    obtain ⟨d, e, f, rfl⟩ := len_three (h2 1 (by omega))
    obtain ⟨g, i, j, rfl⟩ := len_three (h2 2 (by omega))
    refine ⟨⟨⟨a, b, c⟩, ⟨d, e, f⟩, ⟨g, i, j⟩⟩, rfl, ⟨⟨?_, ?_, ?_⟩, ⟨?_, ?_, ?_⟩, ⟨?_, ?_, ?_⟩⟩, fun z => by omega, ?_⟩
    · exact ab (h3 0 0 (by omega) (by omega))
    · exact ab (h3 0 1 (by omega) (by omega))
    · exact ab (h3 0 2 (by omega) (by omega))
    · exact ab (h3 1 0 (by omega) (by omega))
    · exact ab (h3 1 1 (by omega) (by omega))
    · exact ab (h3 1 2 (by omega) (by omega))
    · exact ab (h3 2 0 (by omega) (by omega))
    · exact ab (h3 2 1 (by omega) (by omega))
    · exact ab (h3 2 2 (by omega) (by omega))
    · exact det3_eq ⟨⟨a, b, c⟩, ⟨d, e, f⟩, ⟨g, i, j⟩⟩
theorem rw_len {m : Nat} (hm : m = 2 ∨ m = 3) (r : R3) : (r.rw m).length = m ∧ ∀ i, i < m → (gl (r.rw m) i).length = m := by
  rcases hm with rfl | rfl
  · refine ⟨rfl, fun i hi => ?_⟩
    match i, hi with
    | 0, _ => rfl
    | 1, _ => rfl
  · refine ⟨rfl, fun i hi => ?_⟩
    match i, hi with
    | 0, _ => rfl
    | 1, _ => rfl
    | 2, _ => rfl
theorem rw_bnd {m : Nat} (hm : m = 2 ∨ m = 3) {r : R3} (hs : r.Sm) {k : Nat} (hk : 1 ≤ k) : ∀ i j, Bnd k (gt (gl (r.rw m) i) j) := by
  have q : ∀ {x : Int}, (x.natAbs : Int) ≤ 5 → Bnd k x := fun h => Bnd.mono (show Bnd 1 _ by unfold Bnd; rw [Int.pow_one]; omega) hk
  rcases hm with rfl | rfl
  · exact bb_cons (b_cons (q hs.a.x) (b_cons (q hs.a.y) b_nil)) (bb_cons (b_cons (q hs.b.x) (b_cons (q hs.b.y) b_nil)) bb_nil)
  · exact bb_cons (b_cons (q hs.a.x) (b_cons (q hs.a.y) (b_cons (q hs.a.z) b_nil))) (bb_cons (b_cons (q hs.b.x) (b_cons (q hs.b.y) (b_cons (q hs.b.z) b_nil))) (bb_cons (b_cons (q hs.c.x) (b_cons (q hs.c.y) (b_cons (q hs.c.z) b_nil))) bb_nil))
theorem lk_zero_eq {m : Nat} (hm : m = 2 ∨ m = 3) (r : R3) (t b : Int) : lkm m r t b 0 = ⟨r.rw m, [1], [], t, b⟩ := by
  rcases hm with rfl | rfl <;> rfl

section
variable {h0 : Heap} {prog : Program} {w : World} {mg mb : Str → Option Value} (G : Gd (KK w) h0 mg mb) {n : Nat}

include G in
theorem draw_row {p1 p2 p3 p4 p5 p6 p7 p8 p9 p10 p11 : Pos} {sc : Scope} {cn : List Str} {many : Nat} {hp dl : Addr} {ds : List Int} {c : Int} {u0 : Option V} {σ : AHeap} {Q : V → AHeap → Prop} (hm : many ≤ 3) (hB : Bs h0 hp) (ho : Odd σ hp dl c) (c0 : 0 ≤ c) (hd : σ dl = some (iL ds)) (hne : dl ≠ hp)
    (hQ : ∀ r row c' σ', ExtBut hp σ σ' → Odd σ' hp dl c' → 0 ≤ c' → σ' r = some (iL row) → row.length = many → (∀ j, j < many → -3 ≤ gt row j ∧ gt row j ≤ 5) → Q (.ref r) σ') :
    wpE (Bs h0) (CC prog w h0 (n + 1)) (.comp (.bin .Sub (.call (.glo "_law_raked" (.ref 364) p1) (.cons (.loc 1 p2) (.cons (.num 9 p3) .nil)) p4) (.num 3 p5) p6) (.one 0 p7) (.range1 (.loc 2 p8) p9 p10) sc cn [none, some 1] p11) [u0, some (.ref hp), some (.int (many : Nat))] σ Q := by
  conv => whnf
  refine ⟨⟨by omega, by omega⟩, ?_⟩
  refine ⟨by rw [upTo_len]; show _ ≤ 16777216; omega, fun acc υ => ExtBut hp σ υ ∧ ∃ c' row, Odd υ hp dl c' ∧ 0 ≤ c' ∧ acc = row.map .int ∧ ∀ j, j < row.length → -3 ≤ gt row j ∧ gt row j ≤ 5, ⟨fun _ _ _ e => e, c, [], ho, c0, rfl, fun j hj => absurd hj (Nat.not_lt_zero _)⟩, fun _ _ _ => trivial, ?_, ?_⟩
  · rintro acc υ it ⟨he, c', row, ho', c0', rfl, hr⟩ hit
    obtain ⟨rfl, hlt⟩ := upTo_get hit
    conv => whnf
    refine c_raked G hB ho' (he _ _ hne hd) hne c0' (show (0 : Int) < 9 by decide) fun v υ' v0 v9 e1 o1 => ?_
    conv => whnf
    refine ⟨fun a o q e => e1 a o q (he a o q e), c' + 1, row ++ [v - 3], o1, by omega, by simp, fun j hj => ?_⟩
    rw [List.length_append, List.length_singleton] at hj
    rcases Nat.lt_or_ge j row.length with q | q
    · rw [gt_append_left q]; exact hr j q
    · rw [show j = row.length by omega, gt_append_right (Nat.le_refl _), Nat.sub_self]
      show -3 ≤ v - 3 ∧ v - 3 ≤ 5
      omega
  · rintro acc υ ⟨he, c', row, ho', c0', rfl, hr⟩ hlen
    rw [List.length_map, upTo_len] at hlen
    intro r σ' b1 n1 e1 y1
    exact hQ r row c' σ' (fun a o q e => e1 a o (he a o q e)) (e1 _ _ ho') c0' y1 (by omega) fun j hj => hr j (by omega)
end
end Mine
end
section
set_option maxRecDepth 100000
namespace Mine
open PySem PySem.W PyProof.Rows PySem.Calls

theorem wpE_id {B : Addr → Prop} {C : V → List V → AHeap → (V → AHeap → Prop) → Prop} {e : Ex} {ρ : Loc} {σ : AHeap} {Q : V → AHeap → Prop} (h : wpE B C e ρ σ Q) : wpE B C e ρ σ Q := h

section
variable {h0 : Heap} {prog : Program} {w : World} {mg mb : Str → Option Value} (G : Gd (KK w) h0 mg mb) {n : Nat}

include G in
theorem draw_rows {p1 p2 p3 p4 p5 p6 p7 p8 p9 p10 p11 p12 p13 p14 p15 p16 : Pos} {sc sc2 : Scope} {cn cn2 : List Str} {ρ : Loc} {many : Nat} {hp dl : Addr} {ds : List Int} {c : Int} {σ : AHeap} {Q : V → AHeap → Prop} (r1 : ρ.getD 1 none = some (.ref hp)) (r2 : ρ.getD 2 none = some (.int (many : Nat)))
    (hm : many = 2 ∨ many = 3) (hB : Bs h0 hp) (ho : Odd σ hp dl c) (c0 : 0 ≤ c) (hd : σ dl = some (iL ds)) (hne : dl ≠ hp)
    (hQ : ∀ r (r0 : R3) c' σ', ExtBut hp σ σ' → Odd σ' hp dl c' → 0 ≤ c' → IsM σ' r (r0.rw many) → r0.Sm → (many = 2 → r0.flat) → detN (many - 1) (r0.rw many) = r0.det → Q (.ref r) σ') :
    wpE (Bs h0) (CC prog w h0 (n + 1)) (.comp (.comp (.bin .Sub (.call (.glo "_law_raked" (.ref 364) p1) (.cons (.loc 1 p2) (.cons (.num 9 p3) .nil)) p4) (.num 3 p5) p6) (.one 0 p7) (.range1 (.loc 2 p8) p9 p10) sc cn [none, some 1] p11) (.one 0 p12) (.range1 (.loc 2 p13) p14 p15) sc2 cn2 [none, some 1, some 2] p16) ρ σ Q := by
  conv => whnf
  rw [r2]
  conv => whnf
  refine ⟨⟨by omega, by omega⟩, ?_⟩
  refine ⟨by rw [upTo_len]; show _ ≤ 16777216; omega, fun acc υ => ExtBut hp σ υ ∧ ∃ c' as rows, Odd υ hp dl c' ∧ 0 ≤ c' ∧ acc = List.map V.ref as ∧ as.length = rows.length ∧ (∀ i, i < rows.length → υ (ga as i) = some (iL (gl rows i)) ∧ (gl rows i).length = many ∧ ∀ j, j < many → -3 ≤ gt (gl rows i) j ∧ gt (gl rows i) j ≤ 5),
    ⟨fun _ _ _ e => e, c, [], [], ho, c0, rfl, rfl, fun j hj => absurd hj (Nat.not_lt_zero _)⟩, fun _ _ _ => trivial, ?_, ?_⟩
  · rintro acc υ it ⟨he, c', as, rows, ho', c0', rfl, hl, hr⟩ hit
    obtain ⟨rfl, hlt⟩ := upTo_get hit
    have eρ : setTg (.one 0 p12) [V.int (0 + ((List.map V.ref as).length : Nat))] (capt [none, some 1, some 2] ρ) = [some (.int (0 + ((List.map V.ref as).length : Nat))), some (.ref hp), some (.int (many : Nat))] := by
      unfold capt setTg
      simp only [List.map_cons, List.map_nil, r1, r2, List.set_cons_zero]
    rw [eρ]
    refine draw_row G (by omega) hB ho' c0' (he _ _ hne hd) hne fun r row c2 υ' e1 o1 c02 y1 l1 b1 => ?_
    refine ⟨fun a o q e => e1 a o q (he a o q e), c2, as ++ [r], rows ++ [row], o1, c02, by simp, by simp [hl], fun i hi => ?_⟩
    rw [List.length_append, List.length_singleton] at hi
    rcases Nat.lt_or_ge i rows.length with q | q
    · rw [ga_append_left (by omega), gl_append_left q]
      obtain ⟨a1, a2, a3⟩ := hr i q
      exact ⟨e1 _ _ (odd_ne_I ho' a1) a1, a2, a3⟩
    · rw [show i = rows.length by omega, gl_append_last, ← hl, ga_append_last]
      exact ⟨y1, l1, b1⟩
  · rintro acc υ ⟨he, c', as, rows, ho', c0', rfl, hl, hr⟩ hlen
    rw [List.length_map, upTo_len] at hlen
    intro r σ' b1 n1 e1 y1
    have hrl : rows.length = many := by omega
    obtain ⟨r0, q1, q2, q3, q4⟩ := rows_r3 hm hrl (fun i hi => (hr i (by omega)).2.1) fun i j hi hj => (hr i (by omega)).2.2 j hj
    rw [q1] at q4
    refine hQ r r0 c' σ' (fun a o q e => e1 a o (he a o q e)) (e1 _ _ ho') c0' ?_ q2 q3 q4
    rw [← q1]
    exact ⟨as, y1, hl, fun i hi => e1 _ _ (hr i hi).1⟩

set_option maxHeartbeats 1000000 in
include G in
theorem law_one {sc : Addr} {script : List Int} {σ : AHeap} {N : Loc → AHeap → Prop} {R : V → AHeap → Prop} (hs : σ sc = some (iL script)) (hl : script.length ≤ 63) (hn : IsS (fun _ => False) σ (.ref 214) 0)
    (hQ : ∀ hp dl ds many t b ra gv r0 x M τ σ' A, (many = 2 ∨ many = 3) → TB t b → r0.Sm → (many = 2 → r0.flat) → LS h0 τ hp dl ds ra gv (r0.rw many) x M σ' A (lkm many r0 t b 0) →
      N [some (.ref sc), some (.ref hp), some (.int (many : Nat)), some (.int t), some (.int b), none, some (.ref ra), some (.ref gv), some (.int r0.det), some (.int 0), some (.ref x), none, none, none, none, none, none, none, none, none, none] σ') :
    wpSs (Bs h0) (CC prog w h0 (n + 4)) bd_law_1 [some (.ref sc), none, none, none, none, none, none, none, none, none, none, none, none, none, none, none, none, none, none, none, none] σ N R := by
  have hML := ML_eq
  conv => whnf
  refine ⟨_, hs, ?_⟩
  rw [show cut (List.map V.int script) none (some 24) = (script.take 24).map .int by rw [cut_to' (e := 24) (by rfl), List.map_take]]
  intro s1 σ1 b1 n1 e1 y1
  refine ⟨_, y1, ?_⟩
  refine ⟨by rw [List.length_map, List.length_map, List.length_take]; show _ ≤ 16777216; omega, fun acc υ => Ext σ1 υ ∧ ∃ ds : List Int, acc = ds.map .int, ⟨.refl, [], rfl⟩, ?_, ?_, ?_⟩
  · rintro acc υ ⟨he, _⟩
    exact he _ _ y1
  · rintro acc υ it ⟨he, ds, rfl⟩ hit
    obtain ⟨v, hv, rfl⟩ := map_get hit
    rw [List.getElem?_map] at hv
    obtain ⟨i, _, rfl⟩ := Option.map_eq_some_iff.mp hv
    conv => whnf
    exact ⟨he, ds ++ [(i.natAbs : Int)], by simp⟩
  rintro acc σ2 ⟨e2, ds, rfl⟩ hlen
  intro dl σ3 b3 n3 e3 y3
  conv => whnf
  intro hp σ4 b4 n4 e4 y4
  have hne : dl ≠ hp := fun q => by rw [← q, y3] at n4; cases n4
  have o4 : Odd σ4 hp dl 0 := y4
  have dl4 : σ4 dl = some (iL ds) := e4 _ _ y3
  have E4 : Ext σ σ4 := ((e1.trans e2).trans e3).trans e4
  have nt4 := hn.ext E4
  clear hs hlen y1 e1 e2 y3 e3 e4 y4 n4 n3 n1 E4
  conv => whnf
  refine c_raked (n := n + 3) G b4 o4 dl4 hne (by decide) (show (0 : Int) < 2 by decide) fun v σ5 v0 v2 e5 o5 => ?_
  have dl5 : σ5 dl = some (iL ds) := e5 _ _ hne dl4
  have nt5 := nt4.odd o4 e5
  obtain ⟨many, hmv, hm⟩ : ∃ many : Nat, 2 + v = (many : Int) ∧ (many = 2 ∨ many = 3) := ⟨(2 + v).toNat, by omega, by omega⟩
  conv => whnf
  rw [hmv]
  intro t1 σ6 b6 n6 e6 y6
  conv => whnf
  intro t2 σ7 b7 n7 e7 y7
  conv => whnf
  intro t3 σ8 b8 n8 e8 y8
  conv => whnf
  intro t4 σ9 b9 n9 e9 y9
  conv => whnf
  intro tl σ10 b10 n10 e10 y10
  have E10 : Ext σ5 σ10 := (((e6.trans e7).trans e8).trans e9).trans e10
  have o10 : Odd σ10 hp dl (0 + 1) := E10 _ _ o5
  conv => whnf
  refine c_raked (n := n + 3) G b4 o10 (E10 _ _ dl5) hne (by decide) (show (0 : Int) < 4 by decide) fun u σ11 u0 u4 e11 o11 => ?_
  have dl11 : σ11 dl = some (iL ds) := e11 _ _ hne (E10 _ _ dl5)
  have nt11 := (nt5.ext E10).odd o10 e11
  have x1 : σ11 t1 = some (.tup [.int 3, .int 4]) := e11 _ _ (fun q => by have := o10; unfold Odd at this; rw [← q, e10 _ _ (e9 _ _ (e8 _ _ (e7 _ _ y6)))] at this; cases this) (e10 _ _ (e9 _ _ (e8 _ _ (e7 _ _ y6))))
  have x2 : σ11 t2 = some (.tup [.int 1, .int 1]) := e11 _ _ (fun q => by have := o10; unfold Odd at this; rw [← q, e10 _ _ (e9 _ _ (e8 _ _ y7))] at this; cases this) (e10 _ _ (e9 _ _ (e8 _ _ y7)))
  have x3 : σ11 t3 = some (.tup [.int 1, .int 2]) := e11 _ _ (fun q => by have := o10; unfold Odd at this; rw [← q, e10 _ _ (e9 _ _ y8)] at this; cases this) (e10 _ _ (e9 _ _ y8))
  have x4 : σ11 t4 = some (.tup [.int 9, .int 10]) := e11 _ _ (fun q => by have := o10; unfold Odd at this; rw [← q, e10 _ _ y9] at this; cases this) (e10 _ _ y9)
  have xl : σ11 tl = some (.list ([t1, t2, t3, t4].map .ref)) := e11 _ _ (odd_ne_R o10 (l := [t1, t2, t3, t4]) y10) y10
  obtain ⟨j, tj, t, b, ju, j4, gj, yj, hTB⟩ : ∃ (j : Nat) (tj : Addr) (t b : Int), u = (j : Int) ∧ j < 4 ∧ ga [t1, t2, t3, t4] j = tj ∧ σ11 tj = some (.tup [.int t, .int b]) ∧ TB t b := by
    have hu : u = 0 ∨ u = 1 ∨ u = 2 ∨ u = 3 := by omega
    rcases hu with rfl | rfl | rfl | rfl
    · exact ⟨0, t1, 3, 4, rfl, by omega, rfl, x1, ⟨by decide, by decide, by decide⟩⟩
    · exact ⟨1, t2, 1, 1, rfl, by omega, rfl, x2, ⟨by decide, by decide, by decide⟩⟩
    · exact ⟨2, t3, 1, 2, rfl, by omega, rfl, x3, ⟨by decide, by decide, by decide⟩⟩
    · exact ⟨3, t4, 9, 10, rfl, by omega, rfl, x4, ⟨by decide, by decide, by decide⟩⟩
  clear x1 x2 x3 x4 y6 y7 y8 y9 y10 n6 n7 n8 n9 n10 b6 b7 b8 b9 b10 e6 e7 e8 e9 e10
  conv => whnf
  refine ixR xl j ju (by show j < 4; exact j4) ?_
  rw [gj]
  conv => whnf
  refine ⟨_, _, yj, ?_⟩
  refine wpE_id ?_
  refine draw_rows (n := n + 3) G (by rfl) (by rfl) hm b4 o11 (by decide) dl11 hne fun ra r0 c12 σ12 e12 o12 c0 hM sm fl hdet => ?_
  have dl12 : σ12 dl = some (iL ds) := e12 _ _ hne dl11
  have nt12 := nt11.odd o11 e12
  obtain ⟨rl, rl'⟩ := rw_len hm r0
  refine wpE_id ?_
  refine signed_rows (n := n + 3) G (by rfl) hM (rw_bnd hm sm (by omega)) (by omega) (fun i hi => by rw [rl' i (by omega)]; omega) fun gv σ13 e13 hG => ?_
  conv => whnf
  refine CC.up (n := n + (many - 1) + 1) (c_worth (k := 1) G (many - 1) (hM.ext e13) (by omega) (fun i hi => by rw [rl' i (by omega)]; omega) (rw_bnd hm sm (by omega)) ?_ (by omega) fun σ14 e14 => ?_) (by omega)
  · rcases hm with rfl | rfl <;> decide
  rw [hdet]
  have E14 := e13.trans e14
  have nt14 := nt12.ext E14
  have o14 : Odd σ14 hp dl c12 := E14 _ _ o12
  obtain ⟨as, as1, as2⟩ := (hG.ext e14).isLs (M := fun _ => False) (fun _ _ _ q => q)
  have := hTB.t0; have := hTB.tb; have := hTB.b9
  conv => whnf
  refine c_Lattice (n := n) G as1 as2 nt14 (fun m hm => hm.elim) (by omega) ((bnd_small (by omega)).mono (by have := KD_eq; omega)) ((bnd_small (by omega)).mono (by have := KD_eq; omega)) fun M' A x σ15 m1 m2 e15 l15 => ?_
  conv => whnf
  have fr : ∀ a o, σ14 a = some o → ¬ M' a := fun a o e q => by
    rcases m2 a q with z | z
    · exact z
    · rw [e] at z; cases z
  let τ : AHeap := fun a => if a = hp then none else σ14 a
  have eτ : ExtBut hp σ14 τ := fun a o q e => by show (if a = hp then none else σ14 a) = some o; rw [if_neg q]; exact e
  have τe : ∀ a o, τ a = some o → σ14 a = some o := fun a o e => by
    have e : (if a = hp then none else σ14 a) = some o := e
    split at e
    · cases e
    · exact e
  refine hQ hp dl ds many t b ra gv r0 x M' τ σ15 A hm hTB sm fl { ext := fun a o e => e15 a o (τe a o e), off := fun a o e => fr a o (τe a o e), hpM := fr hp _ o14, hpB := b4, hpN := if_pos rfl, odd := ⟨c12, c0, e15 _ _ o14⟩, dls := eτ _ _ hne (E14 _ _ dl12), rws := (hM.ext E14).odd o14 eτ, giv := (hG.ext e14).odd o14 eτ, lat := by rw [lk_zero_eq hm]; exact l15 }
end
end Mine
end
section
set_option maxRecDepth 100000
namespace Mine
open PySem PySem.W PyProof.Rows PySem.Calls

structure Sml (m : Nat) (L : LC) : Prop where
  sz : ∀ i, i < m → 0 < gt L.sizes i ∧ gt L.sizes i ≤ 67108864
  p0 : 0 < pr L
  p9 : pr L ≤ 67108864
theorem St3.small {m : Nat} {t b W : Int} {r0 r : R3} {L : LC} {Tb Tc : Int} (hm : m = 2 ∨ m = 3) (h : St3 m t b W r0 r L) (hB : r.Bd SS UU Tb Tc) : Sml m L := by
  have p1 := hB.p1; have p2 := hB.p2; have s1 := hB.s1; have s2 := hB.s2
  unfold SS at s1 s2
  have o : gt L.sizes 0 = 1 := by rcases h.form with ⟨_, rfl⟩ | ⟨_, _, rfl⟩ <;> rfl
  have q := mul_up s1 s2 (by omega) (by decide)
  have q0 := mul_up p1 p2 (by decide) (by omega)
  refine ⟨fun i hi => ?_, ?_, ?_⟩
  · have hc : i = 0 ∨ i = 1 ∨ i = 2 := by omega
    rcases hc with rfl | rfl | rfl
    · rw [o]; decide
    · rw [h.g1]; omega
    · rw [h.g2]; omega
  · rcases hm with e | e
    · rw [h.pr2 e]; omega
    · rw [h.pr3 e]; omega
  · rcases hm with e | e
    · rw [h.pr2 e]; omega
    · rw [h.pr3 e]; omega
theorem DI.small {m : Nat} {t b W : Int} {r0 : R3} {n : Nat} {L : LC} (hm : m = 2 ∨ m = 3) (h : DI m t b W r0 n L) : Sml m L := by
  obtain ⟨r, h1, h2⟩ := h; exact h1.small hm h2
theorem RJ.small {m : Nat} {t b W D1 D2 : Int} {r0 : R3} {w k : Nat} {L : LC} (hm : m = 2 ∨ m = 3) (h : RJ m t b W r0 D1 D2 w k L) : Sml m L := by
  obtain ⟨r, _, _, h⟩ := h; exact h.st.small hm h.bd

theorem pow_nn {b : Int} (h : 0 ≤ b) (c : Nat) : 0 ≤ b ^ c := Int.pow_nonneg h
theorem prod_step {b t P P' P0 : Int} {c : Nat} (hb : 0 ≤ b) (ht : 0 ≤ t) (h : b ^ c * P ≤ t ^ c * P0) (h' : b * P' ≤ t * P) : b ^ (c + 1) * P' ≤ t ^ (c + 1) * P0 := by
  have h1 := Int.mul_le_mul_of_nonneg_left h' (pow_nn hb c)
  have h2 := Int.mul_le_mul_of_nonneg_left h ht
  have e1 : b ^ (c + 1) * P' = b ^ c * (b * P') := by rw [Int.pow_succ, Int.mul_assoc]
  have e2 : t ^ (c + 1) * P0 = t * (t ^ c * P0) := by rw [Int.pow_succ, Int.mul_comm (t ^ c) t, Int.mul_assoc]
  have e3 : b ^ c * (t * P) = t * (b ^ c * P) := by grind
  omega
theorem bits64 {x : Int} (h0 : 0 ≤ x) (h : x ≤ 67108864) : bitsI x ≤ 64 := bits_small (by omega) (by omega)

section
variable {h0 : Heap} {τ : AHeap} {hp dl : Addr} {ds : List Int} {ra gv : Addr} {rows : List (List Int)} {x : Addr} {M : Addr → Prop} {σ σ' : AHeap} {A : LA} {L : LC}
theorem LS.freeze (h : LS h0 τ hp dl ds ra gv rows x M σ A L) {f : Addr} {o : AObj} (hf : σ f = some o) (hM : ¬ M f) (hne : f ≠ hp) : ∃ τ', LS h0 τ' hp dl ds ra gv rows x M σ A L ∧ τ' f = some o := by
  have e : Ext τ (fun a => if a = f then some o else τ a) := fun a ob q => by
    show (if a = f then some o else τ a) = some ob
    split
    · rename_i z; rw [z] at q; rw [← hf]; exact h.ext _ _ q
    · exact q
  refine ⟨fun a => if a = f then some o else τ a, { h with ext := fun a ob q => ?_, off := fun a ob q => ?_, hpN := ?_, dls := e _ _ h.dls, rws := h.rws.ext e, giv := h.giv.ext e }, if_pos rfl⟩
  · have q : (if a = f then some o else τ a) = some ob := q
    split at q
    · rename_i z; rw [z, ← q]; exact hf
    · exact h.ext a ob q
  · have q : (if a = f then some o else τ a) = some ob := q
    split at q
    · rename_i z; rw [z]; exact hM
    · exact h.off a ob q
  · show (if hp = f then some o else τ hp) = none
    rw [if_neg (Ne.symm hne)]; exact h.hpN
theorem LS.apart (h : LS h0 τ hp dl ds ra gv rows x M σ A L) {f : Addr} (hf : σ f = none) : ¬ M f ∧ f ≠ hp := by
  refine ⟨h.lat.live.not hf, fun q => ?_⟩
  obtain ⟨c, _, o⟩ := h.odd
  rw [q, o] at hf; cases hf
end

section
variable {h0 : Heap} {prog : Program} {w : World} {mg mb : Str → Option Value} (G : Gd (KK w) h0 mg mb) {n : Nat}

include G in
theorem c_pr {m : Nat} {L : LC} {a : Addr} {σ : AHeap} {Q : V → AHeap → Prop} (hs : Sml m L) (hl : L.sizes.length = m + 1) (ha : σ a = some (iL L.sizes)) (hQ : ∀ σ', Ext σ σ' → Q (.int (pr L)) σ') : CC prog w h0 (n + 1) (.ref 398) [.ref a] σ Q := by
  refine c_product G ha (fun e => by rw [e] at hl; cases hl) (fun k hk => ?_) hQ
  obtain ⟨a1, a2⟩ := hs.sz k (by omega)
  exact .inr (.inl (bits64 (by omega) a2))

include G in
theorem c_same {m : Nat} {t b : Int} {r0 : R3} {L : LC} {ra fa : Addr} {σ : AHeap} {Q : V → AHeap → Prop} (hm : m = 2 ∨ m = 3) (sm : r0.Sm) (hW : r0.det ≠ 0) (g : Good m t b r0.det (r0.rw m) L) (ho : IsM σ ra (r0.rw m)) (ha : IsM σ fa L.rows)
    (hQ : ∀ σ', Ext σ σ' → Q (.bool true) σ') : CC prog w h0 (n + 4) (.ref 386) [.ref ra, .ref fa, .int r0.det] σ Q := by
  obtain ⟨rl, rl'⟩ := rw_len hm r0
  have K := KD_eq
  have m1 : m - 1 + 1 = m := by omega
  refine CC.up (n := n + (m - 1) + 2) (c_is_same (k := KD) G (m := m - 1) ho ha (by omega) (by rw [g.lr]; omega) (fun i hi => by rw [rl' i (by omega)]; omega) (fun i hi => by rw [g.lrk i (by omega)]; omega) (rw_bnd hm sm (by omega)) g.hr ?_ (by omega) hW g.det (fun i c hi hc => g.dvd i c (by omega) (by omega)) hQ) (by omega)
  rw [K]
  rcases hm with rfl | rfl <;> decide
end

def bodyOf : St → Sts
  | .forr _ _ b _ => b
  | _ => .nil
def deedB : Sts := bodyOf bd_law_2.tl.tl.hd

abbrev slots (sc hp ra gv x : Addr) (many : Nat) (t b W cnt : Int) (u5 u11 u12 u13 u14 u15 u16 u17 u18 u19 u20 : Option V) : Loc :=
  [some (.ref sc), some (.ref hp), some (.int (many : Nat)), some (.int t), some (.int b), u5, some (.ref ra), some (.ref gv), some (.int W), some (.int cnt), some (.ref x), u11, u12, u13, u14, u15, u16, u17, u18, u19, u20]

def DInv (h0 : Heap) (τ : AHeap) (sc hp dl : Addr) (ds : List Int) (ra gv x f : Addr) (many : Nat) (t b : Int) (r0 : R3) (P0 : Int) (k : Nat) (ρ : Loc) (σ : AHeap) : Prop :=
  ∃ u5 u11 u13 u14 u15 u16 M A L, ∃ cnt : Nat, ρ = slots sc hp ra gv x many t b r0.det (cnt : Int) u5 u11 (some (.ref f)) u13 u14 u15 u16 none none none none ∧ LS h0 τ hp dl ds ra gv (r0.rw many) x M σ A L ∧ DI many t b r0.det r0 k L ∧ cnt ≤ k ∧ b ^ cnt * pr L ≤ t ^ cnt * P0
end Mine
end
section
set_option maxRecDepth 100000
namespace Mine
open PySem PySem.W PyProof.Rows PySem.Calls

section
variable {B : Addr → Prop} {C : V → List V → AHeap → (V → AHeap → Prop) → Prop} {ρ : Loc} {σ : AHeap} {Q : V → AHeap → Prop} {Qs : List V → AHeap → Prop}
theorem wpE_call {f : Ex} {as : Exs} {p : Pos} (h : wpE B C f ρ σ fun g σ => wpEs B C as ρ σ fun vs σ => C g vs σ Q) : wpE B C (.call f as p) ρ σ Q := h
theorem wpE_glo {x : Str} {v : V} {p : Pos} (h : Q v σ) : wpE B C (.glo x v p) ρ σ Q := h
theorem wpE_loc {i : Nat} {v : V} {p : Pos} (e : ρ.getD i none = some v) (h : Q v σ) : wpE B C (.loc i p) ρ σ Q := by unfold wpE; rw [e]; exact h
theorem wpEs_cons {e : Ex} {r : Exs} (h : wpE B C e ρ σ fun v σ => wpEs B C r ρ σ fun vs σ => Qs (v :: vs) σ) : wpEs B C (.cons e r) ρ σ Qs := h
theorem wpEs_id {es : Exs} (h : wpEs B C es ρ σ Qs) : wpEs B C es ρ σ Qs := h
end

section
variable {h0 : Heap} {prog : Program} {w : World} {mg mb : Str → Option Value} (G : Gd (KK w) h0 mg mb) {n : Nat}

theorem set_split_int {l : List Int} {k : Nat} {v : Int} (h : k < l.length) : l.take k ++ [v] ++ l.drop (k + 1) = l.set k v := by
  rw [List.set_eq_take_append_cons_drop, if_pos h, List.append_assoc]; rfl

set_option maxHeartbeats 2000000 in
include G in
theorem deed {τ : AHeap} {sc hp dl : Addr} {ds : List Int} {ra gv x f : Addr} {m : Nat} {t b : Int} {r0 : R3} {L0 : LC} {k : Nat} {ρ : Loc} {σ : AHeap} {R : V → AHeap → Prop} {v5 : V} {p5 : Pos} (hm : m = 2 ∨ m = 3) (B : TB t b) (sm : r0.Sm) (fl : m = 2 → r0.flat) (hW : r0.det ≠ 0) (hk : k < 12)
    (hf : τ f = some (iL L0.sizes)) (s0 : Sml m L0) (l0 : L0.sizes.length = m + 1) (h : DInv h0 τ sc hp dl ds ra gv x f m t b r0 (pr L0) k ρ σ) :
    wpSs (Bs h0) (CC prog w h0 (n + 9)) deedB (setTg (.one 5 p5) [v5] ρ) σ (fun ρ σ => DInv h0 τ sc hp dl ds ra gv x f m t b r0 (pr L0) (k + 1) ρ σ) R := by
  obtain ⟨u5, u11, u13, u14, u15, u16, M, A, L, cnt, rfl, S, D, hc, hp'⟩ := h
  have g := D.good B (by omega) fl
  have b0 : 0 < b := by have := B.t0; have := B.tb; omega
  have t0 := B.t0
  have t9 : t ≤ 67108864 := by have := B.tb; have := B.b9; omega
  have b9 := B.b9
  have ms := D.small hm
  have hKB := KB_eq
  show wpSs _ _ deedB (slots sc hp ra gv x m t b r0.det (cnt : Int) (some v5) u11 (some (.ref f)) u13 u14 u15 u16 none none none none) σ _ R
  obtain ⟨c, c0, o⟩ := S.odd
  conv => whnf
  refine c_raked (n := n + 8) G S.hpB o (S.ext _ _ S.dls) S.dlh c0 (show (0 : Int) < (m : Int) - 1 by omega) fun v σ1 v0 v9 e1 o1 => ?_
  have S1 := S.rake o e1 o1 (by omega)
  obtain ⟨kk, hkk, k1, k2⟩ : ∃ kk : Nat, 1 + v = (kk : Int) ∧ 0 < kk ∧ kk < m := ⟨(1 + v).toNat, by omega, by omega, by omega⟩
  conv => whnf
  refine CC.up (n := n + 2) (c_sizes (n := n) G S1.lat g.hb (by rw [g.ls]; omega) fun bf σ2 b2 n2 e2 y2 => ?_) (by omega)
  have S2 := S1.extE e2
  have ap := S1.apart n2
  obtain ⟨c2, c20, o2⟩ := S2.odd
  conv => whnf
  rw [hkk]
  refine c_raked (n := n + 8) G S2.hpB o2 (S2.ext _ _ S2.dls) S2.dlh c20 (show (0 : Int) < (kk : Int) by omega) fun j σ3 j0 jk e3 o3 => ?_
  have S3 := S2.rake o2 e3 o3 (by omega)
  have y3 := e3 _ _ ap.2 y2
  obtain ⟨jn, rfl, j1⟩ : ∃ jn : Nat, j = (jn : Int) ∧ jn < kk := ⟨j.toNat, by omega, by omega⟩
  clear e1 o1 o S1 n2 e2 y2 o2 S2 e3 o3 v0 v9 hkk j0 jk
  have up := g.up k2 k1
  refine wcons (join (P := (fun ρ σ' => ∃ L' M' A' du, ∃ cnt' : Nat, ρ = slots sc hp ra gv x m t b r0.det (cnt' : Int) (some v5) (some (.int (kk : Nat))) (some (.ref f)) (some (.ref bf)) (some (.int (jn : Nat))) (some (.ref du)) u16 none none none none ∧ LS h0 τ hp dl ds ra gv (r0.rw m) x M' σ' A' L' ∧ DI m t b r0.det r0 (k + 1) L' ∧ cnt' ≤ k + 1 ∧ b ^ cnt' * pr L' ≤ t ^ cnt' * pr L0 ∧ σ' du = some (iL L'.sizes))) (F := fun N => wpS _ _ _ _ _ N _) ?_ ?_)
  · intro N hN
    conv => whnf
    refine ⟨S3.lat.self.inst, ?_⟩
    conv => whnf
    refine CC.up (n := n + 5) (c_is_upright G S3.lat g.hb k1 up.hk up.hkl up.hks fun σ4 e4 => ?_) (by omega)
    have S4 := S3.extE e4
    have y4 := e4 _ _ y3
    conv => whnf
    refine ⟨fun e5 => ?_, fun e5 => ?_⟩
    · conv => whnf
      refine ⟨S4.lat.self.inst, ?_⟩
      conv => whnf
      refine CC.up (n := n + 8) (c_sh G S4.lat (g.sh (by omega) k2 j1) fun A' σ5 x5 l5 => ?_) (by omega)
      have gr : Grow M σ4 M σ5 := ⟨fun _ h => h, fun _ h => .inl h, x5⟩
      obtain ⟨D', sz⟩ := D.short hm k2 j1
      conv => whnf
      refine ⟨rfl, ?_⟩
      conv => whnf
      refine hN _ _ ⟨_, M, A', bf, cnt, rfl, S4.grow gr l5, D', by omega, ?_, ?_⟩
      · have e : pr (shortL L kk jn) = pr L := by unfold pr; rw [sz]
        rw [e]; exact hp'
      · rw [sz]; exact (gr.out ap.1 y4).2
    · obtain ⟨D', lt, pl⟩ := D.exch B hm k2 k1 e5
      have ex := g.ex (by omega) k2 k1
      have gx := D'.good B (by omega) fl
      conv => whnf
      refine ⟨S4.lat.self.inst, ?_⟩
      conv => whnf
      refine CC.up (n := n + 7) (c_exchange G S4.lat ex.hb ex.hk0 ex.hk ex.hp9 ex.hkr ex.hkl ex.hkm ex.hil ex.hks ex.hz ex.hz' fun M' A' σ5 m1 m2 x5 l5 => ?_) (by omega)
      have gr : Grow M σ4 M' σ5 := ⟨m1, m2, x5⟩
      have S5 := S4.grow gr l5
      have y5 := (gr.out ap.1 y4).2
      obtain ⟨ss, hss, hS⟩ := l5.sizes
      obtain ⟨z, z1, z2⟩ := hS.at (i := kk) (by rw [gx.ls]; omega)
      have ls := g.ls
      have sx : (exL L kk).sizes = L.sizes.set kk (gt (exL L kk).sizes kk) := by
        show L.sizes.set kk (nowI L kk) = _
        congr 1
        exact (gt_set_self (by omega)).symm
      generalize hnw : gt (exL L kk).sizes kk = nw at *
      conv => whnf
      refine ⟨rfl, ?_⟩
      conv => whnf
      refine ⟨_, y5, ?_⟩
      rw [cut_to' (e := kk) rfl, ← List.map_take]
      intro l1 σ6 b6 n6 e6 y6
      conv => whnf
      refine (l5.ext e6).aSx ?_
      conv => whnf
      refine ixL (e6 _ _ hss) kk z rfl z1 ?_
      conv => whnf
      refine CC.up (n := n + 1) (c_plain G (z2.ext e6) (by rw [← hnw]; exact (gx.hb.sizes _).mono (by omega)) fun σ7 e7 => ?_) (by omega)
      conv => whnf
      intro l2 σ8 b8 n8 e8 y8
      conv => whnf
      refine ⟨(L.sizes.take kk).map .int, [.int nw], ⟨e8 _ _ (e7 _ _ y6), y8, by rw [List.length_map, List.length_take]; show _ + 1 ≤ 16777216; omega⟩, ?_⟩
      intro l3 σ9 b9' n9 e9 y9
      have E9 : Ext σ5 σ9 := ((e6.trans e7).trans e8).trans e9
      conv => whnf
      refine ⟨_, E9 _ _ y5, ?_⟩
      rw [cut_from (e := kk + 1) (by omega), ← List.map_drop]
      intro l4 σ10 b10 n10 e10 y10
      conv => whnf
      refine ⟨_, _, ⟨e10 _ _ y9, y10, by simp; show _ ≤ 16777216; omega⟩, ?_⟩
      intro du σ11 b11 n11 e11 y11
      have E11 : Ext σ5 σ11 := (E9.trans e10).trans e11
      have yd : σ11 du = some (iL (exL L kk).sizes) := by
        rw [y11, sx, ← set_split_int (by omega)]
        show _ = some (AObj.list ((L.sizes.take kk ++ [nw] ++ L.sizes.drop (kk + 1)).map V.int))
        rw [List.map_append, List.map_append]; rfl
      have S11 := S5.extE E11
      have gk : gt (exL L kk).sizes kk = nw := hnw
      conv => whnf
      rw [show (cnt : Int) + 1 = ((cnt + 1 : Nat) : Int) by omega]
      refine ixL yd kk (.int nw) rfl (by rw [List.getElem?_map, gt_some (by rw [gx.ls]; omega), hnw]; rfl) ?_
      conv => whnf
      refine ⟨.inl (bits64 (by omega) b9), ?_⟩
      refine ixL (E11 _ _ y5) kk (.int (gt L.sizes kk)) rfl (by rw [List.getElem?_map, gt_some (by omega)]; rfl) ?_
      conv => whnf
      refine ⟨.inl (bits64 (by omega) t9), ?_⟩
      conv => whnf
      refine ⟨fun e12 => ?_, fun e12 => ?_⟩
      · have e12 := of_decide_eq_true e12; omega
      · conv => whnf
        exact hN _ _ ⟨_, M', A', du, cnt + 1, rfl, S11, D', by omega, prod_step (by omega) (by omega) hp' pl, yd⟩
  clear S3 y3 up g ms D hp' S
  rintro _ σ3 ⟨L', M', A', du, cnt', rfl, S, D, hc, hp', yd⟩
  have g := D.good B (by omega) fl
  have ms := D.small hm
  conv => whnf
  refine CC.up (n := n + 2) (c_sizes (n := n) G S.lat g.hb (by rw [g.ls]; omega) fun nw σ4 b4 n4 e4 y4 => ?_) (by omega)
  have S4 := S.extE e4
  conv => whnf
  refine ⟨L'.sizes, L'.sizes, ⟨y4, e4 _ _ yd⟩, ?_⟩
  conv => whnf
  refine ⟨fun q => ?_, fun _ => ?_⟩
  · exact absurd (of_decide_eq_true q) (fun z => z rfl)
  conv => whnf
  refine ⟨_, y4, ?_⟩
  refine ⟨by rw [List.length_map, List.length_map]; show _ ≤ 16777216; have := g.ls; omega, fun k acc υ => acc = [] ∧ Ext σ4 υ, ⟨rfl, .refl⟩, ?_, ?_, ?_⟩
  · rintro k acc υ ⟨rfl, he⟩
    exact ⟨he _ _ y4, Nat.zero_le _⟩
  · rintro i acc υ it ⟨rfl, he⟩ hit
    obtain ⟨v, hv, rfl⟩ := map_get hit
    rw [List.getElem?_map] at hv
    obtain ⟨z, hz, rfl⟩ := Option.map_eq_some_iff.mp hv
    conv => whnf
    refine ⟨fun e => ?_, fun _ => ⟨rfl, he⟩⟩
    exfalso
    have e := of_decide_eq_true e
    have hi : i < L'.sizes.length := by
      rcases Nat.lt_or_ge i L'.sizes.length with q | q
      · exact q
      · rw [List.getElem?_eq_none q] at hz; cases hz
    rw [gt_some hi] at hz; cases hz
    have := g.pos i (by have := g.ls; omega)
    omega
  rintro acc σ5 ⟨rfl, he⟩
  intro ea σ6 b6 n6 e6 y6
  conv => whnf
  intro eb σ7 b7 n7 e7 y7
  conv => whnf
  refine ⟨[], [], ⟨e7 _ _ y6, y7⟩, ?_⟩
  conv => whnf
  refine ⟨fun q => absurd (of_decide_eq_true q) (fun z => z rfl), fun _ => ?_⟩
  have E7 : Ext σ4 σ7 := (he.trans e6).trans e7
  have S7 := S4.extE E7
  conv => whnf
  refine ⟨⟨by omega, ?_⟩, ?_⟩
  · have := bits64 (show 0 ≤ b by omega) b9
    have := Nat.mul_le_mul_right cnt' this
    rw [← Int.natCast_mul]
    omega
  conv => whnf
  refine CC.up (n := n + 1) (c_pr G ms g.ls (E7 _ _ y4) fun σ8 e8 => ?_) (by omega)
  have S8 := S7.extE e8
  conv => whnf
  refine ⟨.inr (.inl (bits64 (by have := ms.p0; omega) ms.p9)), ?_⟩
  refine ⟨⟨by omega, ?_⟩, ?_⟩
  · have := bits64 (show 0 ≤ t by omega) t9
    have := Nat.mul_le_mul_right cnt' this
    rw [← Int.natCast_mul]
    omega
  conv => whnf
  refine CC.up (n := n + 1) (c_pr G s0 l0 (S8.ext _ _ hf) fun σ9 e9 => ?_) (by omega)
  have S9 := S8.extE e9
  conv => whnf
  refine ⟨.inr (.inl (bits64 (by have := s0.p0; omega) s0.p9)), ?_⟩
  refine ⟨fun q => ?_, fun _ => ?_⟩
  · have q := of_decide_eq_true q
    rw [Int.toNat_natCast] at q
    omega
  refine wpE_id ?_
  refine wpE_call ?_
  refine wpE_glo ?_
  refine wpEs_id ?_
  refine wpEs_cons ?_
  refine wpE_loc (by rfl) ?_
  refine wpEs_id ?_
  refine wpEs_cons ?_
  refine plain_rows (n := n + 8) G (by rfl) S9.lat g.hb (by rw [g.lr]; omega) (fun i hi => by rw [g.lr] at hi; rw [g.lrk i hi]; omega) fun fa σ10 e10 hM => ?_
  have S10 := S9.extE e10
  conv => whnf
  refine CC.up (n := n + 4) (c_same G hm sm hW g (S10.rws.ext S10.ext) hM fun σ11 e11 => ?_) (by omega)
  conv => whnf
  refine ⟨fun q => absurd q (by decide), fun _ => ?_⟩
  exact ⟨_, _, _, _, _, _, M', A', L', cnt', rfl, S10.extE e11, D, hc, hp'⟩
end
end Mine
end
section
set_option maxRecDepth 100000
namespace Mine
open PySem PySem.W PyProof.Rows PySem.Calls

theorem wpE_cmp {B : Addr → Prop} {C : V → List V → AHeap → (V → AHeap → Prop) → Prop} {ρ : Loc} {σ : AHeap} {Q : V → AHeap → Prop} {o : CmpOp} {l r : Ex} {p : Pos} (h : wpE B C l ρ σ fun a σ => wpE B C r ρ σ fun b σ => cmpW o a b σ fun t => Q (.bool t) σ) : wpE B C (.cmp o l r p) ρ σ Q := h
theorem fits_bnd {x y : Int} (h : Bnd (2 * KB + 2) x) (h' : Bnd (2 * KB + 2) y) : mulFits x y := by
  have h1 := bits_bnd h; have h2 := bits_bnd h'
  have := KB_eq
  exact .inr (.inr (by omega))

section
variable {h0 : Heap} {prog : Program} {w : World} {mg mb : Str → Option Value} (G : Gd (KK w) h0 mg mb) {n : Nat}

def endB : Sts := bodyOf bd_law_2.tl.tl.tl.tl.tl.tl.tl.hd

set_option maxHeartbeats 2000000 in
include G in
theorem last_look {τ : AHeap} {sc hp dl : Addr} {ds : List Int} {ra gv x ef : Addr} {m : Nat} {t b W cnt : Int} {rows0 : List (List Int)} {L : LC} {k : Nat} {M : Addr → Prop} {A : LA} {σ : AHeap} {N : Loc → AHeap → Prop} {R : V → AHeap → Prop} {u5 u12 u13 u14 u15 u16 u17 u18 u20 : Option V} (hm : m = 2 ∨ m = 3) (B : TB t b) (g : Good m t b W rows0 L) (ms : Sml m L)
    (hk : 1 ≤ k) (hkm : k < m) (S : LS h0 τ hp dl ds ra gv rows0 x M σ A L) (he : σ ef = some (iL L.sizes))
    (h2 : 2 * ((gt (gl L.parts k) (k - 1)).natAbs : Int) ≤ gt L.sizes k) (h1 : t * gt L.sizes k * gt L.sizes k ≤ b * (gt L.sizes (k + 1) * gt L.sizes (k - 1) + gt (gl L.parts k) (k - 1) * gt (gl L.parts k) (k - 1)))
    (hN : ∀ σ' u, Ext σ σ' → N (slots sc hp ra gv x m t b W cnt u5 (some (.int (k : Nat))) u12 u13 u14 u15 u16 u17 u18 (some (.ref ef)) u) σ') :
    wpSs (Bs h0) (CC prog w h0 (n + 1)) endB (slots sc hp ra gv x m t b W cnt u5 (some (.int (k : Nat))) u12 u13 u14 u15 u16 u17 u18 (some (.ref ef)) u20) σ N R := by
  have b0 : 0 < b := by have := B.t0; have := B.tb; omega
  have t0 := B.t0
  have t9 : t ≤ 67108864 := by have := B.tb; have := B.b9; omega
  have b9 := B.b9
  have hKB := KB_eq
  have ls := g.ls
  have lp := S.lat.len_ps
  have glp := g.lp
  obtain ⟨_, vs, v1, v2⟩ := S.lat.partsL.at (i := k) (by omega)
  obtain ⟨vp, p1, p2⟩ := v2.at (i := k - 1) (by rw [g.lpk k hkm]; omega)
  have bz : ∀ i, Bnd (2 * KB + 2) (gt L.sizes i) := fun i => (g.hb.sizes i).mono (by omega)
  have bp : ∀ i j, Bnd (2 * KB + 2) (gt (gl L.parts i) j) := fun i j => (g.hb.parts i j).mono (by omega)
  conv => whnf
  refine S.lat.aPx ?_
  conv => whnf
  refine ixR S.lat.parts k rfl (by omega) ?_
  conv => whnf
  refine ixL v1 (k - 1) vp (by omega) p1 ?_
  conv => whnf
  refine c_plain G p2 ((g.hb.parts _ _).mono (by omega)) fun σ1 e1 => ?_
  have he1 := e1 _ _ he
  have ix : ∀ i, i < m + 1 → (L.sizes.map V.int)[i]? = some (.int (gt L.sizes i)) := fun i hi => by rw [List.getElem?_map, gt_some (by omega)]; rfl
  conv => whnf
  refine ixL he1 (k + 1) _ (by omega) (ix _ (by omega)) ?_
  conv => whnf
  refine ixL he1 (k - 1) _ (by omega) (ix _ (by omega)) ?_
  conv => whnf
  refine ⟨fits_bnd (bz _) (bz _), ?_⟩
  conv => whnf
  refine ⟨fits_bnd (bp _ _) (bp _ _), ?_⟩
  conv => whnf
  refine ⟨.inl (bits64 (by omega) b9), ?_⟩
  conv => whnf
  refine ixL he1 k _ rfl (ix _ (by omega)) ?_
  conv => whnf
  refine ⟨.inl (bits64 (by omega) t9), ?_⟩
  conv => whnf
  refine ixL he1 k _ rfl (ix _ (by omega)) ?_
  conv => whnf
  obtain ⟨q1, q2⟩ := ms.sz k hkm
  refine ⟨.inr (.inl (bits64 (by omega) q2)), ?_⟩
  refine ⟨fun q => ?_, fun _ => ?_⟩
  · have q := of_decide_eq_true q; omega
  conv => whnf
  refine ⟨.inl (bits64 (by decide) (by decide)), ?_⟩
  refine ixL he1 k _ rfl (ix _ (by omega)) ?_
  refine ⟨fun q => ?_, fun _ => ?_⟩
  · have q := of_decide_eq_true q; omega
  exact hN σ1 _ e1
end
end Mine
end
section
set_option maxRecDepth 100000
namespace Mine
open PySem PySem.W PyProof.Rows PySem.Calls

section
variable {h0 : Heap} {prog : Program} {w : World} {mg mb : Str → Option Value} (G : Gd (KK w) h0 mg mb) {n : Nat}

set_option maxHeartbeats 2000000 in
include G in
theorem law_end {τ : AHeap} {sc hp dl : Addr} {ds : List Int} {ra gv x f : Addr} {m : Nat} {t b P0 : Int} {r0 : R3} {k : Nat} {ρ : Loc} {σ : AHeap} {N : Loc → AHeap → Prop} (hm : m = 2 ∨ m = 3) (B : TB t b) (sm : r0.Sm) (fl : m = 2 → r0.flat) (hW : r0.det ≠ 0) (hk : k ≤ 12)
    (h : DInv h0 τ sc hp dl ds ra gv x f m t b r0 P0 k ρ σ) :
    wpSs (Bs h0) (CC prog w h0 (n + 9)) bd_law_2.tl.tl.tl ρ σ N (fun v _ => v = .bool true) := by
  obtain ⟨u5, u11, u13, u14, u15, u16, M, A, L, cnt, rfl, S, D, hc, hp'⟩ := h
  have g := D.good B (by omega) fl
  have ms := D.small hm
  have hKB := KB_eq
  obtain ⟨rl, rl'⟩ := rw_len hm r0
  conv => whnf
  refine CC.up (n := n + 2) (c_sizes (n := n) G S.lat g.hb (by rw [g.ls]; omega) fun af σ1 b1 n1 e1 y1 => ?_) (by omega)
  have S1 := S.extE e1
  have ap := S.apart n1
  obtain ⟨D1, D2, i0, q3, q2⟩ := run_start D hk
  conv => whnf
  refine ⟨S1.lat.self.inst, ?_⟩
  conv => whnf
  refine c_run (n := n) G (RJ m t b r0.det r0 D1 D2) S1.lat i0 (fun _ _ _ h hl => run_step B hm fl h hl) fun M' A' L' σ2 m1 m2 x2 l2 fin => ?_
  have gr : Grow M σ1 M' σ2 := ⟨m1, m2, x2⟩
  have S2 := S1.grow gr l2
  have y2 := (gr.out ap.1 y1).2
  obtain ⟨w', k', hJ, hkl⟩ := fin
  have ms' := hJ.small hm
  obtain ⟨g', pl, fin⟩ := run_end (L := L) B hm fl hJ hkl q3 q2
  conv => whnf
  refine ⟨rfl, ?_⟩
  refine wpEs_id ?_
  refine wpEs_cons ?_
  refine plain_rows (n := n + 8) G (by rfl) S2.lat g'.hb (by rw [g'.lr]; omega) (fun i hi => by rw [g'.lr] at hi; rw [g'.lrk i hi]; omega) fun fa σ3 e3 hM => ?_
  have S3 := S2.extE e3
  conv => whnf
  refine CC.up (n := n + 2) (c_sizes (n := n) G S3.lat g'.hb (by rw [g'.ls]; omega) fun ef σ4 b4 n4 e4 y4 => ?_) (by omega)
  have S4 := S3.extE e4
  conv => whnf
  refine CC.up (n := n + 1) (c_pr G ms' g'.ls y4 fun σ5 e5 => ?_) (by omega)
  conv => whnf
  refine CC.up (n := n + 1) (c_pr G ms g.ls (e5 _ _ (e4 _ _ (e3 _ _ y2))) fun σ6 e6 => ?_) (by omega)
  have S6 := (S4.extE e5).extE e6
  have y6 := e6 _ _ (e5 _ _ y4)
  conv => whnf
  refine ⟨fun q => ?_, fun _ => ?_⟩
  · have q := of_decide_eq_true q; omega
  conv => whnf
  refine CC.up (n := n + 4) (c_same G hm sm hW g' (S6.rws.ext S6.ext) (((hM.ext e4).ext e5).ext e6) fun σ7 e7 => ?_) (by omega)
  have S7 := S6.extE e7
  have y7 := e7 _ _ y6
  conv => whnf
  refine ⟨fun q => absurd q (by decide), fun _ => ?_⟩
  conv => whnf
  refine ⟨⟨⟨by decide, by decide⟩, by omega, by omega⟩, ?_⟩
  refine ⟨fun i ρ υ => ∃ u11 u20, ρ = slots sc hp ra gv x m t b r0.det (cnt : Int) u5 u11 (some (.ref f)) u13 u14 u15 u16 (some (.ref af)) (some (.ref fa)) (some (.ref ef)) u20 ∧ Ext σ7 υ, ⟨_, _, rfl, .refl⟩, fun _ _ _ _ => trivial, ?_, ?_⟩
  · rintro i _ υ it ⟨u11, u20, rfl, he⟩ hit
    obtain ⟨rfl, hlt⟩ := upTo_get hit
    obtain ⟨kk, hkk, k1, k2⟩ : ∃ kk : Nat, (1 : Int) + (i : Nat) = (kk : Int) ∧ 1 ≤ kk ∧ kk < m := ⟨i + 1, by omega, by omega, by omega⟩
    rw [hkk]
    obtain ⟨f1, f2⟩ := fin kk k1 k2
    exact (last_look (n := n + 8) G hm B g' ms' k1 k2 (S7.extE he) (he _ _ y7) f1 f2 fun σ' u e => ⟨_, _, rfl, he.trans e⟩)
  · rintro _ υ ⟨u11, u20, rfl, he⟩
    refine wpE_id ?_
    refine wpE_cmp ?_
    refine wpE_loc (by rfl) ?_
    refine wpE_id ?_
    have S8 := S7.extE he
    refine signed_rows (n := n + 8) G (by rfl) (S8.rws.ext S8.ext) (rw_bnd hm sm (by have := ML_eq; omega)) (by omega) (fun i hi => by rw [rl' i (by omega)]; omega) fun g2 σ9 e9 hG => ?_
    exact ⟨_, ⟨((S8.giv.ext S8.ext).ext e9).tree, hG.tree⟩, rfl⟩

set_option maxHeartbeats 2000000 in
include G in
theorem law_two {τ : AHeap} {sc hp dl : Addr} {ds : List Int} {ra gv x : Addr} {m : Nat} {t b : Int} {r0 : R3} {L : LC} {M : Addr → Prop} {A : LA} {σ : AHeap} {N : Loc → AHeap → Prop} {u5 u11 : Option V} (hm : m = 2 ∨ m = 3) (B : TB t b) (sm : r0.Sm) (fl : m = 2 → r0.flat) (hW : r0.det ≠ 0)
    (S : LS h0 τ hp dl ds ra gv (r0.rw m) x M σ A L) (D : DI m t b r0.det r0 0 L) (hl : gt L.sizes m = r0.det * r0.det) :
    wpSs (Bs h0) (CC prog w h0 (n + 9)) bd_law_2 (slots sc hp ra gv x m t b r0.det 0 u5 u11 none none none none none none none none none) σ N (fun v _ => v = .bool true) := by
  have g := D.good B (by omega) fl
  have ms := D.small hm
  have hKB := KB_eq
  conv => whnf
  refine CC.up (n := n + 2) (c_sizes (n := n) G S.lat g.hb (by rw [g.ls]; omega) fun f σ1 b1 n1 e1 y1 => ?_) (by omega)
  have S1 := S.extE e1
  have ap := S.apart n1
  obtain ⟨τ', S', hf⟩ := S1.freeze y1 ap.1 ap.2
  have dm := sm_det sm
  conv => whnf
  refine ⟨fun q => ?_, fun _ => ?_⟩
  · exact absurd (of_decide_eq_true q) hW
  conv => whnf
  refine ⟨_, m, .int (gt L.sizes m), ⟨.inl y1, .inr (by rw [List.length_map, g.ls]; omega), by rw [List.getElem?_map, gt_some (by rw [g.ls]; omega)]; rfl⟩, ?_⟩
  conv => whnf
  refine ⟨⟨by decide, ?_⟩, ?_⟩
  · have : bitsI r0.det ≤ 64 := bits_small (by omega) (by omega)
    omega
  refine ⟨fun q => ?_, fun _ => ?_⟩
  · have q := of_decide_eq_true q
    exfalso
    apply q
    rw [hl]
    show _ = r0.det ^ 2
    rw [Int.pow_succ, Int.pow_succ, Int.pow_zero, Int.one_mul]
  obtain ⟨c, c0, o⟩ := S'.odd
  conv => whnf
  refine c_raked (n := n + 8) G S'.hpB o (S'.ext _ _ S'.dls) S'.dlh c0 (show (0 : Int) < 13 by decide) fun v σ2 v0 v9 e2 o2 => ?_
  have S2 := S'.rake o e2 o2 (by omega)
  conv => whnf
  refine ⟨⟨by omega, by omega⟩, ?_⟩
  have ln : (upTo 0 v).length ≤ 12 := by rw [upTo_len]; omega
  refine ⟨fun k ρ υ => DInv h0 τ' sc hp dl ds ra gv x f m t b r0 (pr L) k ρ υ, ⟨u5, u11, none, none, none, none, M, A, L, 0, rfl, S2, D, Nat.le_refl _, by rw [Int.pow_zero, Int.pow_zero]; exact Int.le_refl _⟩, fun _ _ _ _ => trivial, ?_, ?_⟩
  · intro k ρ υ it hI hit
    obtain ⟨rfl, hlt⟩ := upTo_get hit
    have hlt : (k : Int) < v := by omega
    exact deed (n := n) G hm B sm fl hW (by omega) hf ms g.ls hI
  · intro ρ υ hI
    exact law_end (n := n) G hm B sm fl hW ln hI
end
end Mine
end
section
set_option maxRecDepth 100000
namespace Mine
open PySem PySem.W PyProof.Rows PySem.Calls

def lawTry : Stmt := .Try (trSs nm_law bd_law_try) [.ExceptHandler (some (.Name "OutOfRange" ⟨338, 11, 338, 21⟩)) none [.Return (some (.Compare (.Name "worth" ⟨339, 15, 339, 20⟩) [.Eq] [.Constant (.int 0) 0 ⟨339, 24, 339, 25⟩] ⟨339, 15, 339, 25⟩)) ⟨339, 8, 339, 25⟩] ⟨338, 4, 339, 25⟩] [] [] ⟨335, 4, 339, 25⟩
def lawBody : List Stmt := trSs nm_law bd_law_1 ++ (lawTry :: (trSs nm_law bd_law_2 ++ []))

theorem abst_tt {v : Value} (h : abst v = .bool true) : v = .bool true := by
  cases v <;> first | (cases h; rfl) | cases h

theorem room_caller {n : Nat} (h : n ≤ 40) : Room callerA n := ⟨by show 1 + claimMargin + n ≤ 900; have : claimMargin = 300 := rfl; omega, by show 4 + 100 * n ≤ 5000; omega, rfl⟩

theorem nought_at (P : Params) : (hd.heap_39 P).lookup 214 = some { cls := .type "tuple", data := .seq #[.bool false, .ref 213] } := rfl
theorem nought_l (P : Params) : (hd.heap_39 P).lookup 213 = some { cls := .type "list", data := .seq #[] } := rfl

section
variable {prog : Program} {w : World} {mg mb : Str → Option Value} {s : Shared} (G : Gd (KK w) s.heap mg mb) {bmB : List Value} {newId B initId : String}

include G in
set_option maxHeartbeats 1000000 in
theorem law_call (O : OwnCls "OutOfRange" 49 bmB newId mg s.heap) (FB : ExcBaseFacts B newId initId bmB) {fa sc : Addr} {o : Obj} {fd : FuncData} (ho : s.heap.get? fa = some o) (hd : o.data = .func fd) (hbody : fd.body = .stmts lawBody) (hcd : s.heap.CodeRec fd.code fd.qualname)
    (hclo : fd.closure = []) (hgl : fd.globals = mainGlobals) (hbi : fd.builtins = builtinsNs) (hk : fd.scope.kind = .function) (hsn : nodupS (fd.scope.names.map (·.1)) = true) (hco : fd.scope.isCoroutine = false) (hgen : fd.scope.isGenerator = false)
    (hbind : ∀ v, bindArgs fd ⟨[v], []⟩ = pure [((Str.ofString "script"), v)]) (hs : fd.scope.names.lookup (Str.ofString "script") = some NameKind.local)
    (k1 : okSs (fun x => fd.scope.names.lookup x) nm_law bd_law_1 = true) (k2 : okSs (fun x => fd.scope.names.lookup x) nm_law bd_law_try = true) (k3 : okSs (fun x => fd.scope.names.lookup x) nm_law bd_law_2 = true)
    (k4 : fd.scope.names.lookup (Str.ofString "OutOfRange") = some NameKind.globalImplicit) (k5 : fd.scope.names.lookup (Str.ofString "worth") = some NameKind.local)
    {vals : List Value} {script : List Int} (hL : s.heap.PlainList sc vals.toArray) (hI : vals.map abst = script.map .int) (h63 : script.length ≤ 63) :
    codeAny (model prog w) callerA (.call (.ref fa) ⟨[.ref sc], []⟩) (fun r s' => r = .ok (.ret (.bool true)) ∧ (∀ b o, s.heap.get? b = some o → s'.heap.get? b = some o) ∧ s'.os = s.os ∧ s'.gens = s.gens) s := by
  have n1 : s.heap.get? 214 = some { cls := .type "tuple", data := .seq #[.bool false, .ref 213] } := G.X _ _ (nought_at _)
  have n2 : s.heap.get? 213 = some { cls := .type "list", data := .seq #[] } := G.X _ _ (nought_l _)
  obtain ⟨nn, hL'⟩ := hL
  have d1 : sc ≠ 214 := fun q => by rw [q, n1] at hL'; simp at hL'
  let σ : AHeap := fun a => if a = sc then some (iL script) else if a = 214 then some (.tup [.bool false, .ref 213]) else if a = 213 then some (.list []) else none
  have kk : Ok s.heap σ s := by
    refine ⟨fun _ _ e => e, fun a ob e => ?_⟩
    have e : (if a = sc then some (iL script) else if a = 214 then some (.tup [.bool false, .ref 213]) else if a = 213 then some (.list []) else none) = some ob := e
    split at e
    · rename_i q; cases e; rw [q]
      exact ⟨_, ⟨nn, hL'⟩, hI, by rw [List.length_map]; show _ ≤ 16777216; omega⟩
    · split at e
      · rename_i q; cases e; rw [q]
        exact ⟨_, 0, n1, rfl, by show 2 ≤ 16777216; omega⟩
      · split at e
        · rename_i q; cases e; rw [q]
          exact ⟨_, ⟨0, n2⟩, rfl, by show 0 ≤ 16777216; omega⟩
        · cases e
  have hsc : σ sc = some (iL script) := if_pos rfl
  have hn : IsS (fun _ => False) σ (.ref 214) 0 := by
    refine ⟨214, 213, rfl, ?_, ⟨[], ?_, Nrm.nil, rfl⟩, fun q => q⟩
    · show (if (214 : Addr) = sc then _ else _) = _
      rw [if_neg (Ne.symm d1), if_pos rfl]; rfl
    · show (if (213 : Addr) = sc then some (iL script) else _) = _
      split
      · rename_i q
        rw [← q, n2] at hL'
        have : vals.toArray = #[] := by
          simp only [Option.some.injEq, Obj.mk.injEq, Data.seq.injEq] at hL'
          exact hL'.2.2.1.1.symm
        have : vals = [] := by simpa using this
        rw [this] at hI
        have : script = [] := by simpa using hI.symm
        rw [this]
      · rw [if_neg (by decide), if_pos rfl]; rfl
  refine fn_enter (n := 20) G (room_caller (by omega)) kk ho hd hbody hcd hclo hgl hbi hk hsn hco hgen (nm := nm_law) (k := 1) (vals := [.ref sc]) (by rfl) (hbind _) (by simp only [nm_law, List.take_succ_cons, List.take_zero, List.all_cons, List.all_nil]; rw [hs]; rfl) (by decide) rfl fun env s1 hkd eo ap hf hkind own P1 F R1 => ?_
  have fin : ∀ {s' : Shared}, (∀ b o, s.heap.get? b = some o → s'.heap.get? b = some o) → s'.os = s.os → s'.gens = s.gens → (fun (r : Result) (s' : Shared) => r = Except.ok (Flow.ret (.bool true)) ∧ (∀ b o, s.heap.get? b = some o → s'.heap.get? b = some o) ∧ s'.os = s.os ∧ s'.gens = s.gens) (Except.ok (ε := Value) (Flow.ret (match Flow.ret (.bool true) with | .ret v => v | _ => .none))) s' :=
    fun h1 h2 h3 => ⟨rfl, h1, h2, h3⟩
  have base : ∀ {σ' : AHeap} {s' : Shared}, Post s.heap (ownOfEnv env) σ s1 σ' s' → ∀ b o, s.heap.get? b = some o → s'.heap.get? b = some o := fun p b o e =>
    p.keep b o (P1.keep b o e (.inr (by rw [e]; simp)) fun q => q) (.inr (by rw [e]; simp)) fun q => by rw [own b q] at e; cases e
  have hfr : (callerA.deeper env).frames = some [env] := Around.frames_deeper rfl
  have kk1 := kk.post0 P1
  have one := law_one (prog := prog) (n := 16) (R := fun _ _ => False) G hsc h63 hn (N := fun ρ' σ' => ∃ hp dl ds, ∃ many : Nat, ∃ t b ra gv r0 x M τ A, (many = 2 ∨ many = 3) ∧ TB t b ∧ R3.Sm r0 ∧ (many = 2 → r0.flat) ∧ LS s.heap τ hp dl ds ra gv (r0.rw many) x M σ' A (lkm many r0 t b 0) ∧
    ρ' = slots sc hp ra gv x many t b r0.det 0 none none none none none none none none none none none)
    fun hp dl ds many t b ra gv r0 x M τ σ' A q1 q2 q3 q4 q5 => ⟨hp, dl, ds, many, t, b, ra, gv, r0, x, M, τ, A, q1, q2, q3, q4, q5, rfl⟩
  rw [CC_eq] at one
  refine run_app G (by rfl) eo ap R1 bd_law_1 (by rw [hkd]; exact k1) kk1 F one (fun ρ' σ' s' hN ok2 F2 P2 => ?_) fun _ _ _ q => q.elim
  obtain ⟨hp, dl, ds, many, t, b, ra, gv, r0, x, M, τ, A, hm, TB', sm, fl, S, rfl⟩ := hN
  refine wpAny_execs_cons ?_
  refine try_stmt (n := 13) G (many := many) (Lk := lkm many r0 t b) O FB (by omega) R1 ok2 hfr hf eo ap (by rw [hkd]; exact k4) (by rw [hkd]; exact k5) (by rw [hkd]; exact k2) F2 S.lat
    (fun k hk hz => lk_ok TB' hm fl sm k hk hz) (fun k hk hz => lk_st hm fl k hk hz) (fun k hk hz h0 => lk_zero hm fl k hk hz h0) (fun s3 q1 q2 q3 => ?_) fun u M' A' σ3 s3 hz gr lat ok3 F3 P3 => ?_
  · exact fin q1 (q2.trans (P2.os.trans P1.os)) (q3.trans (P2.gens.trans P1.gens))
  · obtain ⟨hW, D, hl⟩ := lk_end TB' hm fl sm hz
    have S3 := S.grow gr lat
    have two := law_two (prog := prog) (n := 11) (N := fun _ _ => False) (sc := sc) (u5 := none) (u11 := u) G hm TB' sm fl hW S3 D hl
    rw [CC_eq] at two
    refine run_app G (by rfl) eo ap R1 bd_law_2 (by rw [hkd]; exact k3) ok3 F3 two (fun _ _ _ q => q.elim) fun v σ4 s4 hv P4 => ?_
    obtain rfl := abst_tt hv
    exact fin (base ((P2.trans P3).trans P4)) (P4.os.trans (P3.os.trans (P2.os.trans P1.os))) (P4.gens.trans (P3.gens.trans (P2.gens.trans P1.gens)))
end
end Mine
end
section
set_option maxRecDepth 100000
open PySem PySem.W PyProof.Rows PySem.Calls
namespace Mine
theorem plain_of_well {P : Params} {h : Heap} {a : Addr} {vs : List Value} {ns : List Int} (W : Well P h (.ref a) (ofPy (.list (ns.map .int)))) (hl : h.IsList a vs.toArray) : h.PlainList a vs.toArray := by
  have W : Well P h (.ref a) (.list (ofPys (ns.map .int))) := W
  cases W with
  | list ha wa =>
    obtain ⟨o, ho, _, n, hd⟩ := hl
    rw [ha] at ho; cases ho
    obtain ⟨e, _⟩ := Data.seq.inj hd
    exact ⟨0, by rw [ha, e]⟩
theorem ints_abst : ∀ {vals : List Value} {ns : List Int}, IntsAre vals ns → vals.map abst = ns.map .int
  | _, _, .nil => rfl
  | _, _, .cons n t h => by rw [List.map_cons, List.map_cons, ints_abst h]; rfl
theorem oor_exc (P : Params) : excIn (hd.heap_39 P) 49 [.type "Exception", .type "BaseException", .type "object"] "Exception.__new__" = true := by kernel_rfl
end Mine
end
set_option maxRecDepth 100000
open PySem PySem.W PyProof.Rows PySem.Calls
set_option maxHeartbeats 8000000 in
theorem PySem.Challenge.cw_sj0090_01_holds : PySem.Challenge.rw_sj0090_01.Holds :=
  Mine.hd (by
  k_fill
  intro w s₀ s₁ mg mb G Y fa o pm cd doc dV kV ho hd hcd hD hmg hg args vals as hpre hlay hrd hwl hlo
  have KX := kIn_of Y
  have X := (Ground.X G).1
  have V := (Ground.X G).2
  try w_nolog (first | (have GL := glob_more (Ground.glob G (by first | k_qdec | decide +kernel) (by first | k_qdec | decide +kernel)) V) | (have GL := glob_more (Ground.glob G (by decide +kernel)) V))
  refine Ground.open G ?_
  intro T B D TE TW
  try (refine guard_noD D (by decide +kernel) ?_; clear D)
  obtain ⟨_, _, M⟩ := bmod_of_top T
  have TA := at_of_top T
  try (obtain ⟨_, _, he, B0⟩ := based_of_top T rfl hmg ho hd; have he' : cd = _ := he; subst he'; clear he)
  clear hmg
  wrow_args hpre hlay hrd hwl hlo
  all_goals (
    first | refine callC_kw (enter_call ?_) | refine enter_call ?_ | refine callC_kw (enter_callW ?_) | refine enter_callW ?_
    w_top on
    try refine codeAny_mono ?_ (fun _ _ g => GoodW.toG g)
    have hdV : dV = .none := by rcases hD.pos with ⟨_, e⟩ | ⟨e, _⟩; exact e; exact absurd rfl e
    have hkV : kV = .none := by rcases hD.kw with ⟨_, e⟩ | ⟨e, _⟩; exact e; exact absurd rfl e
    subst hdV hkV
    refine codeAny_mono (Mine.law_call (bmB := [.type "Exception", .type "BaseException", .type "object"]) (newId := "Exception.__new__") ⟨KX, T.g, T.b, T.nolimit, T.builtins, Mine.kf _⟩ (own_of_in KX (topRead_of T) (Mine.oor_at _) (Mine.oor_exc _)) PySem.F.excBase_Exception ho hd rfl hcd rfl rfl rfl rfl rfl rfl rfl (fun v => rfl) rfl rfl rfl rfl rfl rfl
      (Mine.plain_of_well (by assumption) (by assumption)) (Mine.ints_abst (by assumption)) (by omega)) (fun r s' q => ?_)
    obtain ⟨rfl, q2, q3, q4⟩ := q
    exact ⟨.inl ⟨.bool true, .bool true, [], rfl, fun _ => rfl, .bool true, (by first | kernel_rfl | (with_unfolding_all rfl) | decide +kernel), fun _ => ⟨.nil, fun _ h => nomatch h⟩⟩, q2, q3, q4.trans hg⟩))
