import PyProof.Rows.All
import Wide.All
import OpenK.AllK
import Wide.FinOn
import HandS.ForMost
import HandS.Wide
import HandS.Zip
import HandS.IsInst
import HandS.NoneIn
import KE.DataFind
import HandS.Deep
import HandS.Style
import HandS.More
import HandS.Defaults
import HandS.Head0
import HandS.Head1
import HandS.Head2
import HandS.HeadEnd
import HandS.HeadHook1
import HandS.HeadHook2
import PySem.Challenge.RW_steermill_k02_sums_and_products
set_option Elab.async false
set_option linter.all false
set_option maxRecDepth 100000
/-! VI1: data, own syntax, evaluator, translator. -/
namespace VI
open PySem PySem.Spec PyProof.Rows L2

abbrev D := PyData
def lim : Nat := 1000000

inductive Sta where
  | own | arg | shr
  deriving DecidableEq
abbrev Env := List (Option (Sta × D))

structure Sig where
  fr : Bool
  ls : Bool
  ar : Nat
  φ : List D → Option D
abbrev Tab := Str → Option Sig

inductive BI where
  | len | abs | int | max | list | tuple | sum | all | any | sorted
  deriving DecidableEq
inductive TY where
  | int | bool | tuple | list | str
  deriving DecidableEq
inductive XT where
  | nm (i : Nat)
  | tp (js : List Nat)
mutual
inductive XE where
  | var (i : Nat)
  | cst (c : D)
  | bin (op : Operator) (a b : XE)
  | neg (a : XE)
  | not (a : XE)
  | and (a b : XE)
  | or (a b : XE)
  | cmp (op : CmpOp) (a b : XE)
  | chn (op op' : CmpOp) (a b c : XE)
  | call (f : Str) (as : XEs)
  | bi (f : BI) (as : XEs)
  | isi (a : XE) (t : TY)
  | ix (a b : XE)
  | sl (a lo hi : XE)
  | lst (as : XEs)
  | tup (as : XEs)
  | lc (vs : List Nat) (tg : XT) (it : XI) (tt elt : XE)
inductive XEs where
  | nil
  | cons (a : XE) (as : XEs)
inductive XI where
  | seq (a : XE)
  | rng (as : XEs)
  | zip (a b : XE)
  | enu (a : XE)
end

/-! ### operations on data -/
def mulOk (i j : Int) : Bool := decide (i.natAbs.log2 + j.natAbs.log2 < 100000000)
def divOk (j : Int) : Bool := decide (j ≠ 0) && decide (j.natAbs.log2 < 9000)
def binD : Operator → D → D → Option D
  | .Add, .int i, .int j => some (.int (i + j))
  | .Add, .list xs, .list ys => if xs.length + ys.length ≤ lim then some (.list (xs ++ ys)) else none
  | .Sub, .int i, .int j => some (.int (i - j))
  | .Mult, .int i, .int j => if mulOk i j then some (.int (i * j)) else none
  | .FloorDiv, .int i, .int j => if divOk j then some (.int (i.fdiv j)) else none
  | .Mod, .int i, .int j => if j = 0 then none else some (.int (i.fmod j))
  | .Pow, .int i, .int j => if 0 ≤ j ∧ j ≤ 1000 ∧ i.natAbs < 2 ^ 64 then some (.int (i ^ j.toNat)) else none
  | .RShift, .int i, .int j => if 0 ≤ j then some (.int (i / 2 ^ j.toNat)) else none
  | _, _, _ => none
def intsOf : List D → Option (List Int)
  | [] => some []
  | .int i :: r => (intsOf r).map (i :: ·)
  | _ => none
def blsOf : List D → Option (List Bool)
  | [] => some []
  | .bool b :: r => (blsOf r).map (b :: ·)
  | _ => none
def cmpD : CmpOp → D → D → Option Bool
  | .Eq, x, y => if SeqAt.shaped x && SeqAt.shaped y then some (PyData.eqv x y) else none
  | .NotEq, x, y => if SeqAt.shaped x && SeqAt.shaped y then some (!PyData.eqv x y) else none
  | .Lt, .int i, .int j => some (decide (i < j))
  | .LtE, .int i, .int j => some (decide (i ≤ j))
  | .Gt, .int i, .int j => some (decide (j < i))
  | .GtE, .int i, .int j => some (decide (j ≤ i))
  | .In, .int i, .list ys => (intsOf ys).map fun ns => ns.any fun n => n == i
  | .NotIn, .int i, .list ys => (intsOf ys).map fun ns => !ns.any fun n => n == i
  | .Is, x, .none => some (match x with | .none => true | _ => false)
  | .IsNot, x, .none => some (match x with | .none => false | _ => true)
  | _, _, _ => none
def ixD : D → D → Option D
  | .list xs, .int i => atI xs i
  | .tuple xs, .int i => atI xs i
  | _, _ => none
def cutD {α : Type} (xs : List α) (lo hi : Option Int) : List α := (xs.drop (HT.sIx xs.length 0 lo)).take (HT.sIx xs.length xs.length hi - HT.sIx xs.length 0 lo)
def isNoneE : XE → Bool
  | .cst .none => true
  | _ => false
def partD : Bool → D → Option (Option Int)
  | true, .none => some none
  | false, .int i => some (some i)
  | _, _ => none
def slD : D → Option Int → Option Int → Option D
  | .list xs, lo, hi => some (.list (cutD xs lo hi))
  | _, _, _ => none
def insI (x : Int) : List Int → List Int
  | [] => [x]
  | y :: r => if x ≤ y then x :: y :: r else y :: insI x r
def sortI : List Int → List Int
  | [] => []
  | x :: r => insI x (sortI r)
def biD : BI → List D → Option D
  | .len, [.list xs] => some (.int xs.length)
  | .len, [.tuple xs] => some (.int xs.length)
  | .abs, [.int i] => some (.int (if i < 0 then -i else i))
  | .int, [.int i] => some (.int i)
  | .int, [.bool b] => some (.int (if b then 1 else 0))
  | .max, [.int i, .int j] => some (.int (if j > i then j else i))
  | .list, [.list xs] => some (.list xs)
  | .list, [.tuple xs] => some (.list xs)
  | .tuple, [.list xs] => some (.tuple xs)
  | .sum, [.list xs] => (intsOf xs).map fun ns => .int ns.sum
  | .all, [.list xs] => (blsOf xs).map fun ns => .bool (ns.all id)
  | .any, [.list xs] => (blsOf xs).map fun ns => .bool (ns.any id)
  | .sorted, [.list xs] => if xs.length < 64 then (intsOf xs).map fun ns => .list ((sortI ns).map .int) else none
  | _, _ => none
def isiD : D → TY → Option Bool
  | .none, _ => some false
  | .bool _, .int => some true
  | .bool _, .bool => some true
  | .bool _, _ => some false
  | .int _, .int => some true
  | .int _, _ => some false
  | .str _, .str => some true
  | .str _, _ => some false
  | .list _, .list => some true
  | .list _, _ => some false
  | .tuple _, .tuple => some true
  | .tuple _, _ => some false
  | _, _ => none

/-! ### slots -/
def isList : D → Bool
  | .list _ => true
  | _ => false
def setAll : Env → List Nat → List D → Option Env
  | ρ, [], [] => some ρ
  | ρ, i :: is, d :: ds => if i < ρ.length then setAll (ρ.set i (some (.shr, d))) is ds else none
  | _, _, _ => none
def setT (ρ : Env) : XT → D → Option Env
  | .nm i, d => if i < ρ.length then some (ρ.set i (some (.shr, d))) else none
  | .tp js, .tuple ds => setAll ρ js ds
  | .tp js, .list ds => setAll ρ js ds
  | _, _ => none
def wipeE (ρ : Env) : List Nat → Env
  | [] => ρ
  | v :: vs => (wipeE ρ vs).set v none
def toArg : Option (Sta × D) → Option (Sta × D)
  | some (.own, d) => some (.arg, d)
  | x => x
/-- the block of a comprehension at its start -/
def blkE (ρ : Env) (vs : List Nat) : Env := wipeE (ρ.map toArg) vs
/-- may be kept by another -/
def sfE (ρ : Env) : XE → Bool
  | .var i => match ρ[i]? with
    | some (some (s, d)) => s == .shr || !isList d
    | _ => true
  | _ => true
def ownL (ρ : Env) (i : Nat) : Option (List D) :=
  match ρ[i]? with
  | some (some (.own, .list ds)) => some ds
  | _ => none
def isOwn (ρ : Env) : XE → Bool
  | .var i => (ownL ρ i).isSome
  | _ => false
def sfEs (ρ : Env) : XEs → Bool
  | .nil => true
  | .cons a as => sfE ρ a && sfEs ρ as
def lenE : XEs → Nat
  | .nil => 0
  | .cons _ as => lenE as + 1
def frBi : BI → Bool
  | .list => true
  | .sorted => true
  | _ => false
/-- a list that it gives is a new one -/
def frE (Γ : Tab) : XE → Bool
  | .bin .Add _ _ => true
  | .lst _ => true
  | .lc _ _ _ _ _ => true
  | .sl _ _ _ => true
  | .bi f _ => frBi f
  | .call f _ => match Γ f with
    | some sg => sg.fr
    | none => false
  | _ => false

def lcGo (f : D → Option (Option D)) : List D → Option (List D)
  | [] => some []
  | d :: ds => match f d with
    | none => none
    | some none => lcGo f ds
    | some (some x) => match lcGo f ds with
      | none => none
      | some r => some (x :: r)
def rngD : List D → Option (List D)
  | [.int n] => if n ≤ 1000000 ∧ -1000000 ≤ n then some ((List.range n.toNat).map fun (k : Nat) => .int (k : Int)) else none
  | [.int a, .int b] => if a ≤ 1000000 ∧ -1000000 ≤ a ∧ b ≤ 1000000 ∧ -1000000 ≤ b then some ((List.range (b - a).toNat).map fun (k : Nat) => .int (a + (k : Int))) else none
  | [.int a, .int b, .int c] => if c = -1 ∧ a ≤ 1000000 ∧ -1000000 ≤ a ∧ b ≤ 1000000 ∧ -1000000 ≤ b then some ((List.range (a - b).toNat).map fun (k : Nat) => .int (a - (k : Int))) else none
  | _ => none
def enuD : Nat → List D → List D
  | _, [] => []
  | i, d :: ds => .tuple [.int (i : Int), d] :: enuD (i + 1) ds

/-! ### the evaluator -/
mutual
def ev (Γ : Tab) : XE → Env → Option D
  | .var i, ρ => match ρ[i]? with
    | some (some (_, d)) => some d
    | _ => none
  | .cst c, _ => some c
  | .bin op a b, ρ => match ev Γ a ρ, ev Γ b ρ with
    | some x, some y => binD op x y
    | _, _ => none
  | .neg a, ρ => match ev Γ a ρ with
    | some (.int i) => some (.int (-i))
    | _ => none
  | .not a, ρ => match ev Γ a ρ with
    | some (.bool b) => some (.bool (!b))
    | _ => none
  | .and a b, ρ => match ev Γ a ρ with
    | some (.bool true) => match ev Γ b ρ with
      | some (.bool t) => some (.bool t)
      | _ => none
    | some (.bool false) => some (.bool false)
    | _ => none
  | .or a b, ρ => match ev Γ a ρ with
    | some (.bool false) => match ev Γ b ρ with
      | some (.bool t) => some (.bool t)
      | _ => none
    | some (.bool true) => some (.bool true)
    | _ => none
  | .cmp op a b, ρ => match ev Γ a ρ, ev Γ b ρ with
    | some x, some y => (cmpD op x y).map .bool
    | _, _ => none
  | .chn op op' a b c, ρ => match ev Γ a ρ, ev Γ b ρ with
    | some x, some y => match cmpD op x y with
      | some true => match ev Γ c ρ with
        | some z => (cmpD op' y z).map .bool
        | none => none
      | some false => some (.bool false)
      | none => none
    | _, _ => none
  | .call f as, ρ => match Γ f, evs Γ as ρ with
    | some sg, some ds => if (sg.ls → sfEs ρ as) ∧ ds.length = sg.ar then sg.φ ds else none
    | _, _ => none
  | .bi f as, ρ => match evs Γ as ρ with
    | some ds => biD f ds
    | none => none
  | .isi a t, ρ => match ev Γ a ρ with
    | some d => (isiD d t).map .bool
    | none => none
  | .ix a b, ρ => match ev Γ a ρ, ev Γ b ρ with
    | some x, some y => ixD x y
    | _, _ => none
  | .sl a lo hi, ρ => match ev Γ a ρ, ev Γ lo ρ, ev Γ hi ρ with
    | some x, some l, some h => match partD (isNoneE lo) l, partD (isNoneE hi) h with
      | some l', some h' => slD x l' h'
      | _, _ => none
    | _, _, _ => none
  | .lst as, ρ => match evs Γ as ρ with
    | some ds => if sfEs ρ as ∧ ds.length ≤ lim then some (.list ds) else none
    | none => none
  | .tup as, ρ => match evs Γ as ρ with
    | some ds => if sfEs ρ as ∧ ds.length ≤ lim then some (.tuple ds) else none
    | none => none
  | .lc vs tg it tt elt, ρ => match evi Γ it (ρ.map toArg) with
    | some ds => if ds.length ≤ lim then (lcGo (fun d => match setT (blkE ρ vs) tg d with
        | some ρ1 => match ev Γ tt ρ1 with
          | some (.bool true) => if sfE ρ1 elt then (ev Γ elt ρ1).map some else none
          | some (.bool false) => some none
          | _ => none
        | none => none) ds).map .list else none
    | none => none
def evs (Γ : Tab) : XEs → Env → Option (List D)
  | .nil, _ => some []
  | .cons a as, ρ => match ev Γ a ρ, evs Γ as ρ with
    | some d, some ds => some (d :: ds)
    | _, _ => none
def evi (Γ : Tab) : XI → Env → Option (List D)
  | .seq a, ρ => if isOwn ρ a then none else match ev Γ a ρ with
    | some (.list ds) => some ds
    | some (.tuple ds) => some ds
    | _ => none
  | .rng as, ρ => match evs Γ as ρ with
    | some ds => rngD ds
    | none => none
  | .zip a b, ρ => if isOwn ρ a || isOwn ρ b then none else match ev Γ a ρ, ev Γ b ρ with
    | some (.list xs), some (.list ys) => some (List.zipWith (fun x y => .tuple [x, y]) xs ys)
    | _, _ => none
  | .enu a, ρ => if isOwn ρ a then none else match ev Γ a ρ with
    | some (.list xs) => some (enuD 0 xs)
    | _ => none
end

/-! ### statements -/
mutual
inductive XS where
  | asg (tg : XT) (e : XE)
  | par (js : List Nat) (as : XEs)
  | setx (i : Nat) (k e : XE)
  | swp (i : Nat) (k1 k2 e1 e2 : XE)
  | aug (i : Nat) (op : Operator) (e : XE)
  | app (i : Nat) (e : XE)
  | ins (i : Nat) (k e : XE)
  | pop (i j : Nat) (k : XE)
  | rem (i : Nat) (e : XE)
  | ret (e : XE)
  | ife (c : XE) (a b : XSs)
  | whl (c : XE) (b : XSs)
  | for (tg : XT) (it : XI) (b : XSs)
  | cont
  | brk
  | pass
inductive XSs where
  | nil
  | cons (s : XS) (ss : XSs)
end
inductive Out where
  | nx (ρ : Env)
  | rt (fr : Bool) (d : D)
  | bk (ρ : Env)
  | ct (ρ : Env)

def forGo (f : D → Env → Option Out) : List D → Env → Option Out
  | [], ρ => some (.nx ρ)
  | d :: ds, ρ => match f d ρ with
    | some (.nx ρ') => forGo f ds ρ'
    | some (.ct ρ') => forGo f ds ρ'
    | some (.bk ρ') => some (.nx ρ')
    | some (.rt fr x) => some (.rt fr x)
    | none => none
def whlGo (t : Env → Option D) (f : Env → Option Out) (ρ : Env) : Option Out :=
  match t ρ with
  | some (.bool true) => match f ρ with
    | some (.nx ρ') => whlGo t f ρ'
    | some (.ct ρ') => whlGo t f ρ'
    | some (.bk ρ') => some (.nx ρ')
    | some (.rt fr x) => some (.rt fr x)
    | none => none
  | some (.bool false) => some (.nx ρ)
  | _ => none
partial_fixpoint

/-- the variable that an expression is, given away -/
def dem (ρ : Env) : XE → Env
  | .var i => match ρ[i]? with
    | some (some (.own, d)) => ρ.set i (some (.shr, d))
    | _ => ρ
  | _ => ρ
def demI (ρ : Env) : XI → Env
  | .seq a => dem ρ a
  | .rng _ => ρ
  | .zip a b => dem (dem ρ a) b
  | .enu a => dem ρ a
/-- the status of what is stored -/
def staE (Γ : Tab) (ρ : Env) (d : D) (e : XE) : Sta :=
  match e with
  | .var i => match ρ[i]? with
    | some (some (.arg, _)) => .arg
    | _ => .shr
  | e => if isList d && frE Γ e then .own else .shr
/-- the place of the first that is equal -/
def plD (d : D) : List D → Option Nat
  | [] => none
  | x :: xs => if PyData.eqv x d then some 0 else (plD d xs).map (· + 1)
def remD (d : D) (ds : List D) : Option (List D) := if SeqAt.shaped (.list ds) && SeqAt.shaped d then (plD d ds).map fun j => ds.eraseIdx j else none

mutual
def ex (Γ : Tab) : XS → Env → Option Out
  | .asg (.nm i) e, ρ0 =>
    let ρ := dem ρ0 e
    match ev Γ e ρ with
    | some d => if i < ρ.length then some (.nx (ρ.set i (some (staE Γ ρ d e, d)))) else none
    | none => none
  | .asg (.tp js) e, ρ => match ev Γ e ρ with
    | some d => (setT ρ (.tp js) d).map .nx
    | none => none
  | .par js as, ρ => match evs Γ as ρ with
    | some ds => if sfEs ρ as ∧ ds.length ≤ lim then (setAll ρ js ds).map .nx else none
    | none => none
  | .setx i k e, ρ0 =>
    let ρ := dem ρ0 e
    match ev Γ e ρ, ownL ρ i, ev Γ k ρ with
    | some d, some ds, some (.int j) => match ixN ds.length j with
      | some m => if sfE ρ e then some (.nx (ρ.set i (some (.own, .list (ds.set m d))))) else none
      | none => none
    | _, _, _ => none
  | .swp i k1 k2 e1 e2, ρ => match ev Γ e1 ρ, ev Γ e2 ρ, ownL ρ i, ev Γ k1 ρ with
    | some d1, some d2, some ds, some (.int j1) => match ixN ds.length j1 with
      | some m1 => if sfE ρ e1 && sfE ρ e2 then match ev Γ k2 (ρ.set i (some (.own, .list (ds.set m1 d1)))) with
          | some (.int j2) => match ixN ds.length j2 with
            | some m2 => some (.nx (ρ.set i (some (.own, .list ((ds.set m1 d1).set m2 d2)))))
            | none => none
          | _ => none else none
      | none => none
    | _, _, _, _ => none
  | .aug i op e, ρ => match ρ[i]?, ev Γ e ρ with
    | some (some (_, .int a)), some (.int b) => match op with
      | .Add => some (.nx (ρ.set i (some (.shr, .int (a + b)))))
      | .Sub => some (.nx (ρ.set i (some (.shr, .int (a - b)))))
      | _ => none
    | _, _ => none
  | .app i e, ρ0 =>
    let ρ := dem ρ0 e
    match ownL ρ i, ev Γ e ρ with
    | some ds, some d => if sfE ρ e ∧ ds.length < lim then some (.nx (ρ.set i (some (.own, .list (ds ++ [d]))))) else none
    | _, _ => none
  | .ins i k e, ρ0 =>
    let ρ := dem ρ0 e
    match ownL ρ i, ev Γ k ρ, ev Γ e ρ with
    | some ds, some (.int j), some d => if sfE ρ e ∧ ds.length < lim ∧ 0 ≤ j ∧ j < 1000000 then some (.nx (ρ.set i (some (.own, .list (ds.take j.toNat ++ [d] ++ ds.drop j.toNat))))) else none
    | _, _, _ => none
  | .pop i j k, ρ => match ownL ρ j, ev Γ k ρ with
    | some ds, some (.int m) => if 0 ≤ m ∧ i ≠ j ∧ i < ρ.length then match ds[m.toNat]? with
        | some d => some (.nx ((ρ.set j (some (.own, .list (ds.eraseIdx m.toNat)))).set i (some (.shr, d))))
        | none => none else none
    | _, _ => none
  | .rem i e, ρ => match ownL ρ i, ev Γ e ρ with
    | some ds, some d => match remD d ds with
      | some r => some (.nx (ρ.set i (some (.own, .list r))))
      | none => none
    | _, _ => none
  | .ret e, ρ0 =>
    let ρ := dem ρ0 e
    match ev Γ e ρ with
    | some d => if sfE ρ e then some (.rt (frE Γ e || isOwn ρ0 e) d) else none
    | none => none
  | .ife c a b, ρ => match ev Γ c ρ with
    | some (.bool true) => exs Γ a ρ
    | some (.bool false) => exs Γ b ρ
    | _ => none
  | .whl c b, ρ => whlGo (ev Γ c) (exs Γ b) ρ
  | .for tg it b, ρ0 =>
    let ρ := demI ρ0 it
    match evi Γ it ρ with
    | some ds => forGo (fun d ρ => match setT ρ tg d with
        | some ρ1 => exs Γ b ρ1
        | none => none) ds ρ
    | none => none
  | .cont, ρ => some (.ct ρ)
  | .brk, ρ => some (.bk ρ)
  | .pass, ρ => some (.nx ρ)
def exs (Γ : Tab) : XSs → Env → Option Out
  | .nil, ρ => some (.nx ρ)
  | .cons s ss, ρ => match ex Γ s ρ with
    | some (.nx ρ') => exs Γ ss ρ'
    | o => o
end
/-- a def: names, parameters, body -/
structure XD where
  ns : List Str
  ar : Nat
  body : XSs
def startE (ls : Bool) (n : Nat) (ds : List D) : Env := ds.map (fun d => some (if ls || !isList d then .shr else .arg, d)) ++ List.replicate (n - ds.length) none
/-- what a def gives -/
def runD (Γ : Tab) (d : XD) (fr ls : Bool) (as : List D) : Option D :=
  if as.length = d.ar then
    match exs Γ d.body (startE ls d.ns.length as) with
    | some (.rt f x) => if fr → f then some x else none
    | _ => none
  else none

/-! ### from the model's syntax -/
structure Co where
  N : List Str
  sc : Scope
  fn : Str → Bool
def visB (sc : Scope) (x : Str) : Bool := match sc.names.lookup x with
  | some .local => true
  | some .cell => true
  | some .free => true
  | _ => false
def locB (c : Co) (x : Str) : Bool := match c.sc.names.lookup x with
  | some .local => true
  | some .cell => c.fn x
  | _ => false
def glB (sc : Scope) (x : Str) : Bool := match sc.names.lookup x with
  | some .globalImplicit => true
  | _ => false
def ixS (x : Str) : List Str → Option Nat
  | [] => none
  | y :: r => if x = y then some 0 else (ixS x r).map (· + 1)
def biOf (x : Str) : Option BI :=
  if x = "len" then some .len else if x = "abs" then some .abs else if x = "int" then some .int else if x = "max" then some .max
  else if x = "list" then some .list else if x = "tuple" then some .tuple else if x = "sum" then some .sum else if x = "all" then some .all
  else if x = "any" then some .any else if x = "sorted" then some .sorted else none
def tyOf (x : Str) : Option TY :=
  if x = "int" then some .int else if x = "bool" then some .bool else if x = "tuple" then some .tuple else if x = "list" then some .list else if x = "str" then some .str else none
def plainE : Expr → Bool
  | .BoolOp .. | .BinOp .. | .UnaryOp .. | .Compare .. | .Call .. | .Constant .. | .Subscript .. | .Name .. | .List .. | .Tuple .. | .ListComp .. => true
  | _ => false
def trNs (c : Co) : List Expr → Option (List Nat)
  | [] => some []
  | .Name x _ :: r => if locB c x then match ixS x c.N, trNs c r with
    | some i, some is => some (i :: is)
    | _, _ => none else none
  | _ => none
def trTg (c : Co) : Expr → Option XT
  | .Name x _ => if locB c x then (ixS x c.N).map .nm else none
  | .Tuple es _ _ => (trNs c es).map .tp
  | _ => none
def tgIn : XT → List Nat → Bool
  | .nm i, vs => vs.contains i
  | .tp js, vs => js.all fun i => vs.contains i
def relSc (scope sc : Scope) : Scope := relS scope sc
def ownOf (N : List Str) (scope : Scope) : List (Str × Nat) := scope.names.filterMap fun (n, k) => if k == .local || k == .cell then (ixS n N).map fun i => (n, i) else none
def sepOps (op : CmpOp) : Bool := op == .Eq || op == .NotEq || op == .Lt || op == .LtE || op == .Gt || op == .GtE || op == .In || op == .NotIn || op == .Is || op == .IsNot
mutual
def trE : Nat → Co → Expr → Option XE
  | 0, _, _ => none
  | n + 1, c, e => match e with
    | .Name x _ => if visB c.sc x ∧ (x == ("__debug__" : Str)) = false ∧ (x == ("__classdict__" : Str)) = false then (ixS x c.N).map .var else none
    | .Constant (.int i) _ _ => some (.cst (.int i))
    | .Constant (.bool b) _ _ => some (.cst (.bool b))
    | .Constant .none _ _ => some (.cst .none)
    | .Constant (.str x) _ _ => some (.cst (.str x))
    | .BinOp a op b _ => match trE n c a, trE n c b with
      | some a', some b' => some (.bin op a' b')
      | _, _ => none
    | .UnaryOp .USub a _ => (trE n c a).map .neg
    | .UnaryOp .Not a _ => (trE n c a).map .not
    | .BoolOp .And [a] _ => if plainE a then trE n c a else none
    | .BoolOp .Or [a] _ => if plainE a then trE n c a else none
    | .BoolOp .And (a :: b :: r) p => match trE n c a, trE n c (.BoolOp .And (b :: r) p) with
      | some a', some b' => some (.and a' b')
      | _, _ => none
    | .BoolOp .Or (a :: b :: r) p => match trE n c a, trE n c (.BoolOp .Or (b :: r) p) with
      | some a', some b' => some (.or a' b')
      | _, _ => none
    | .Compare a [op] [b] _ => if plainE b ∧ sepOps op then match trE n c a, trE n c b with
      | some a', some b' => some (.cmp op a' b')
      | _, _ => none else none
    | .Compare a [op, op'] [b, d] _ => if plainE b ∧ plainE d ∧ sepOps op ∧ sepOps op' then match trE n c a, trE n c b, trE n c d with
      | some a', some b', some d' => some (.chn op op' a' b' d')
      | _, _, _ => none else none
    | .Call (.Name f _) as [] _ =>
      if glB c.sc f ∧ (f == ("__debug__" : Str)) = false ∧ f ≠ "__name__" then
        if f = "isinstance" then match as with
          | [a, .Name t _] => if plainE a ∧ glB c.sc t then match trE n c a, tyOf t with
            | some a', some t' => some (.isi a' t')
            | _, _ => none else none
          | _ => none
        else match biOf f with
          | some b => match as with
            | [] => none
            | _ => (trEs n c as).map (.bi b)
          | none => match as with
            | [] => none
            | _ => (trEs n c as).map (.call f)
      else none
    | .Subscript a (.Slice lo hi none _) _ =>
      match trE n c a, (match lo with | none => some (XE.cst .none) | some l => (trE n c l).filter fun l' => !isNoneE l' : Option XE), (match hi with | none => some (XE.cst .none) | some h => (trE n c h).filter fun l' => !isNoneE l' : Option XE) with
      | some a', some l', some h' => some (.sl a' l' h')
      | _, _, _ => none
    | .Subscript a b _ => if plainE b then match trE n c a, trE n c b with
      | some a', some b' => some (.ix a' b')
      | _, _ => none else none
    | .List as _ => (trEs n c as).map .lst
    | .Tuple as _ _ => (trEs n c as).map .tup
    | .ListComp elt [⟨tg, iter, ifs, 0⟩] scope _ =>
      let own := ownOf c.N scope
      let c' : Co := ⟨c.N, relSc scope c.sc, fun x => scope.names.lookup x == some .cell⟩
      if blkC c.N c.sc scope own then
        match trI n c iter tg, trTg c' tg, (match ifs with | [] => some (XE.cst (.bool true)) | [t] => if plainE t then trE n c' t else none | _ => none : Option XE), trE n c' elt with
        | some it, some tg', some t', some e' => if tgIn tg' (own.map (·.2)) then some (.lc (own.map (·.2)) tg' it t' e') else none
        | _, _, _, _ => none
      else none
    | _ => none
def trEs : Nat → Co → List Expr → Option XEs
  | 0, _, _ => none
  | _ + 1, _, [] => some .nil
  | n + 1, c, a :: as => if plainE a then match trE n c a, trEs n c as with
    | some a', some as' => some (.cons a' as')
    | _, _ => none else none
/-- what is walked; tg the target -/
def trI : Nat → Co → Expr → Expr → Option XI
  | 0, _, _, _ => none
  | n + 1, c, e, tg => match e with
    | .Call (.Name f _) as [] _ =>
      if glB c.sc f ∧ f = "range" then (trEs n c as).map .rng
      else if glB c.sc f ∧ f = "zip" then
        match as, tg with
        | [a, b], .Tuple _ _ _ => if plainE a ∧ plainE b then match trE n c a, trE n c b with
          | some a', some b' => some (.zip a' b')
          | _, _ => none else none
        | _, _ => none
      else if glB c.sc f ∧ f = "enumerate" then
        match as, tg with
        | [a], .Tuple _ _ _ => if plainE a then (trE n c a).map .enu else none
        | _, _ => none
      else (trE n c e).map .seq
    | e => if plainE e then (trE n c e).map .seq else none
end
def nmIx (c : Co) : Expr → Option Nat
  | .Name x _ => if locB c x ∧ (x == ("__debug__" : Str)) = false ∧ (x == ("__classdict__" : Str)) = false then ixS x c.N else none
  | _ => none
/-- name = value and its like -/
def trA (n : Nat) (c : Co) : List Expr → Expr → Option XS
    | [.Name x _], .Call (.Attribute l m ap) [k] [] cp =>
      if m = "pop" ∧ (ap.endLine == cp.line) = true ∧ plainE k ∧ locB c x then match ixS x c.N, nmIx c l, trE n c k with
        | some i, some j, some k' => some (.pop i j k')
        | _, _, _ => none
      else none
    | [.Name x _], e => if plainE e ∧ locB c x then match ixS x c.N, trE n c e with
      | some i, some e' => some (.asg (.nm i) e')
      | _, _ => none else none
    | [.Tuple ts _ _], .Tuple es _ _ =>
      match trNs c ts with
      | some js => if (es.all (constantsAlone 8)) = false ∨ es.all (foldedForSure 8) then (trEs n c es).map (.par js) else none
      | none => match ts, es with
        | [.Subscript l k1 _, .Subscript l2 k2 _], [e1, e2] =>
          if plainE k1 ∧ plainE k2 ∧ plainE e1 ∧ plainE e2 ∧ nmIx c l = nmIx c l2 then match nmIx c l, trE n c k1, trE n c k2, trE n c e1, trE n c e2 with
            | some i, some k1', some k2', some e1', some e2' => some (.swp i k1' k2' e1' e2')
            | _, _, _, _, _ => none
          else none
        | _, _ => none
    | [.Tuple ts a b], e => if plainE e then match trNs c ts, trE n c e with
      | some js, some e' => some (.asg (.tp js) e')
      | _, _ => none else none
    | [.Subscript l k _], e => if plainE k ∧ plainE e then match nmIx c l, trE n c k, trE n c e with
      | some i, some k', some e' => some (.setx i k' e')
      | _, _, _ => none else none
    | _, _ => none
mutual
def trS : Nat → Co → Stmt → Option XS
  | 0, _, _ => none
  | n + 1, c, s => match s with
    | .Return (some e) _ => if plainE e then (trE n c e).map .ret else none
    | .If t a b _ => if plainE t then match trE n c t, trSs n c a, trSs n c b with
      | some t', some a', some b' => some (.ife t' a' b')
      | _, _, _ => none else none
    | .While t b [] _ => if plainE t then match trE n c t, trSs n c b with
      | some t', some b' => some (.whl t' b')
      | _, _ => none else none
    | .For tg it b [] _ => if plainE it then match trI n c it tg, trTg c tg, trSs n c b with
      | some it', some tg', some b' => some (.for tg' it' b')
      | _, _, _ => none else none
    | .Continue _ => some .cont
    | .Break _ => some .brk
    | .Pass _ => some .pass
    | .AugAssign (.Name x _) op e _ => if plainE e ∧ locB c x then match ixS x c.N, trE n c e with
      | some i, some e' => if op = .Add ∨ op = .Sub then some (.aug i op e') else none
      | _, _ => none else none
    | .Assign ts e _ => trA n c ts e
    | .Expr (.Call (.Attribute l m ap) as [] cp) _ =>
      if (ap.endLine == cp.line) = false then none else if m = "append" then match as with
        | [e] => if plainE e then match nmIx c l, trE n c e with
          | some i, some e' => some (.app i e')
          | _, _ => none else none
        | _ => none
      else if m = "insert" then match as with
        | [k, e] => if plainE k ∧ plainE e then match nmIx c l, trE n c k, trE n c e with
          | some i, some k', some e' => some (.ins i k' e')
          | _, _, _ => none else none
        | _ => none
      else if m = "remove" then match as with
        | [e] => if plainE e then match nmIx c l, trE n c e with
          | some i, some e' => some (.rem i e')
          | _, _ => none else none
        | _ => none
      else none
    | _ => none
def trSs : Nat → Co → List Stmt → Option XSs
  | 0, _, _ => none
  | _ + 1, _, [] => some .nil
  | n + 1, c, s :: ss => match trS n c s, trSs n c ss with
    | some s', some ss' => some (.cons s' ss')
    | _, _ => none
end
/-- a def of the text: N its names, ps parameters first -/
def trD (N : List Str) (ar : Nat) (s : Stmt) : Option XD := (trSs 200 ⟨N, defScope s, fun _ => true⟩ (defBody s)).map fun b => ⟨N, ar, b⟩
end VI
set_option Elab.async false
set_option linter.all false
set_option maxRecDepth 100000
set_option maxHeartbeats 1000000
/-! VI2: how data lies in the heap; the readings; expressions. -/
namespace VI
open PySem PySem.Spec PyProof.Rows L2

mutual
inductive Rp (B : Addr → Prop) (H : Hp) : V → D → Prop
  | non : Rp B H .non .none
  | bl (b : Bool) : Rp B H (.bl b) (.bool b)
  | int (i : Int) : Rp B H (.int i) (.int i)
  | str (x : Str) : Rp B H (.str x) (.str x)
  | lst {a : Addr} {vs : List V} {ds : List D} : H a = some (.lst vs) → ¬ B a → vs.length ≤ lim → RpAll B H vs ds → Rp B H (.ref a) (.list ds)
  | tup {a : Addr} {vs : List V} {ds : List D} : H a = some (.tup vs) → ¬ B a → vs.length ≤ lim → RpAll B H vs ds → Rp B H (.ref a) (.tuple ds)
inductive RpAll (B : Addr → Prop) (H : Hp) : List V → List D → Prop
  | nil : RpAll B H [] []
  | cons {v : V} {vs : List V} {d : D} {ds : List D} : Rp B H v d → RpAll B H vs ds → RpAll B H (v :: vs) (d :: ds)
end
section
variable {B B' : Addr → Prop} {H H' : Hp}
mutual
theorem Rp.tr (k : ∀ a o, H a = some o → ¬ B a → H' a = some o ∧ ¬ B' a) : ∀ {v : V} {d : D}, Rp B H v d → Rp B' H' v d
  | _, _, .non => .non
  | _, _, .bl b => .bl b
  | _, _, .int i => .int i
  | _, _, .str x => .str x
  | _, _, .lst h n l r => .lst (k _ _ h n).1 (k _ _ h n).2 l (RpAll.tr k r)
  | _, _, .tup h n l r => .tup (k _ _ h n).1 (k _ _ h n).2 l (RpAll.tr k r)
theorem RpAll.tr (k : ∀ a o, H a = some o → ¬ B a → H' a = some o ∧ ¬ B' a) : ∀ {vs : List V} {ds : List D}, RpAll B H vs ds → RpAll B' H' vs ds
  | _, _, .nil => .nil
  | _, _, .cons h r => .cons (Rp.tr k h) (RpAll.tr k r)
end
theorem Rp.mono (e : Same H H') {v : V} {d : D} (h : Rp B H v d) : Rp B H' v d := h.tr fun a o q n => ⟨e a o q, n⟩
theorem RpAll.mono (e : Same H H') {v : List V} {d : List D} (h : RpAll B H v d) : RpAll B H' v d := h.tr fun a o q n => ⟨e a o q, n⟩
theorem Rp.less (e : ∀ a, B' a → B a) {v : V} {d : D} (h : Rp B H v d) : Rp B' H v d := h.tr fun a o q n => ⟨q, fun z => n (e a z)⟩
theorem RpAll.less (e : ∀ a, B' a → B a) {v : List V} {d : List D} (h : RpAll B H v d) : RpAll B' H v d := h.tr fun a o q n => ⟨q, fun z => n (e a z)⟩
theorem RpAll.len : ∀ {vs : List V} {ds : List D}, RpAll B H vs ds → vs.length = ds.length
  | _, _, .nil => rfl
  | _, _, .cons _ r => by simp [RpAll.len r]
theorem RpAll.get : ∀ {vs : List V} {ds : List D} {i : Nat} {d : D}, RpAll B H vs ds → ds[i]? = some d → ∃ v, vs[i]? = some v ∧ Rp B H v d
  | _, _, 0, _, .cons h _, e => by simp at e; subst e; exact ⟨_, rfl, h⟩
  | _, _, i + 1, _, .cons _ r, e => by
    obtain ⟨v, h1, h2⟩ := RpAll.get (i := i) r (by simpa using e)
    exact ⟨v, by simpa using h1, h2⟩
theorem RpAll.getV : ∀ {vs : List V} {ds : List D} {i : Nat} {v : V}, RpAll B H vs ds → vs[i]? = some v → ∃ d, ds[i]? = some d ∧ Rp B H v d
  | _, _, 0, _, .cons h _, e => by simp at e; subst e; exact ⟨_, rfl, h⟩
  | _, _, i + 1, _, .cons _ r, e => by
    obtain ⟨v, h1, h2⟩ := RpAll.getV (i := i) r (by simpa using e)
    exact ⟨v, by simpa using h1, h2⟩
theorem RpAll.app : ∀ {vs ws : List V} {ds es : List D}, RpAll B H vs ds → RpAll B H ws es → RpAll B H (vs ++ ws) (ds ++ es)
  | _, _, _, _, .nil, s => s
  | _, _, _, _, .cons h r, s => .cons h (RpAll.app r s)
theorem RpAll.take : ∀ {vs : List V} {ds : List D} (n : Nat), RpAll B H vs ds → RpAll B H (vs.take n) (ds.take n)
  | _, _, 0, _ => by simp; exact .nil
  | _, _, _ + 1, .nil => .nil
  | _, _, n + 1, .cons h r => .cons h (RpAll.take n r)
theorem RpAll.drop : ∀ {vs : List V} {ds : List D} (n : Nat), RpAll B H vs ds → RpAll B H (vs.drop n) (ds.drop n)
  | _, _, 0, r => r
  | _, _, _ + 1, .nil => .nil
  | _, _, n + 1, .cons _ r => RpAll.drop n r
theorem RpAll.set : ∀ {vs : List V} {ds : List D} {v : V} {d : D} (n : Nat), RpAll B H vs ds → Rp B H v d → RpAll B H (vs.set n v) (ds.set n d)
  | _, _, _, _, 0, .nil, _ => .nil
  | _, _, _, _, 0, .cons _ r, h => .cons h r
  | _, _, _, _, _ + 1, .nil, _ => .nil
  | _, _, _, _, n + 1, .cons g r, h => .cons g (RpAll.set n r h)
theorem RpAll.erase : ∀ {vs : List V} {ds : List D} (n : Nat), RpAll B H vs ds → RpAll B H (vs.eraseIdx n) (ds.eraseIdx n)
  | _, _, _, .nil => by simp; exact .nil
  | _, _, 0, .cons _ r => r
  | _, _, n + 1, .cons h r => .cons h (RpAll.erase n r)
theorem RpAll.ints : ∀ {vs : List V} {ds : List D} {ns : List Int}, RpAll B H vs ds → intsOf ds = some ns → vs = ns.map V.int
  | _, _, _, .nil, e => by simp [intsOf] at e; subst e; rfl
  | _, _, _, .cons (.int i) r, e => by
    simp only [intsOf, Option.map_eq_some_iff] at e
    obtain ⟨ns, e1, rfl⟩ := e
    simp [RpAll.ints r e1]
  | _, _, _, .cons .non _, e => by simp [intsOf] at e
  | _, _, _, .cons (.bl _) _, e => by simp [intsOf] at e
  | _, _, _, .cons (.str _) _, e => by simp [intsOf] at e
  | _, _, _, .cons (.lst _ _ _ _) _, e => by simp [intsOf] at e
  | _, _, _, .cons (.tup _ _ _ _) _, e => by simp [intsOf] at e
theorem RpAll.bls : ∀ {vs : List V} {ds : List D} {ns : List Bool}, RpAll B H vs ds → blsOf ds = some ns → vs = ns.map V.bl
  | _, _, _, .nil, e => by simp [blsOf] at e; subst e; rfl
  | _, _, _, .cons (.bl i) r, e => by
    simp only [blsOf, Option.map_eq_some_iff] at e
    obtain ⟨ns, e1, rfl⟩ := e
    simp [RpAll.bls r e1]
  | _, _, _, .cons .non _, e => by simp [blsOf] at e
  | _, _, _, .cons (.int _) _, e => by simp [blsOf] at e
  | _, _, _, .cons (.str _) _, e => by simp [blsOf] at e
  | _, _, _, .cons (.lst _ _ _ _) _, e => by simp [blsOf] at e
  | _, _, _, .cons (.tup _ _ _ _) _, e => by simp [blsOf] at e
theorem rpAll_ints : ∀ {ns : List Int}, RpAll B H (ns.map V.int) (ns.map PyData.int)
  | [] => .nil
  | i :: r => .cons (.int i) rpAll_ints
mutual
theorem Rp.dp {K : PySem.W.Frag} : ∀ {v : V} {d : D}, Rp B H v d → Dp K H v d
  | _, _, .non => .non
  | _, _, .bl b => .bl b
  | _, _, .int i => .int i
  | _, _, .str x => .str x
  | _, _, .lst h _ _ r => .lst (SqL.of h) (RpAll.dp r)
  | _, _, .tup h _ _ r => .tup (SqT.of h) (RpAll.dp r)
theorem RpAll.dp {K : PySem.W.Frag} : ∀ {vs : List V} {ds : List D}, RpAll B H vs ds → DpAll K H vs ds
  | _, _, .nil => .nil
  | _, _, .cons h r => .cons (Rp.dp h) (RpAll.dp r)
end
/-- as a value that is only read: the list itself may be a bad one -/
def Rt (B : Addr → Prop) (H : Hp) (v : V) : D → Prop
  | .list ds => ∃ a vs, v = .ref a ∧ H a = some (.lst vs) ∧ vs.length ≤ lim ∧ RpAll B H vs ds
  | d => Rp B H v d
theorem Rp.rt {v : V} {d : D} (h : Rp B H v d) : Rt B H v d := by
  cases h with
  | lst h n l r => exact ⟨_, _, rfl, h, l, r⟩
  | non => exact .non
  | bl b => exact .bl b
  | int i => exact .int i
  | str x => exact .str x
  | tup h n l r => exact .tup h n l r
theorem Rt.rp {v : V} {d : D} (h : Rt B H v d) (n : isList d = false) : Rp B H v d := by
  cases d with
  | list ds => cases n
  | _ => exact h
theorem Rt.tr (k : ∀ a o, H a = some o → ¬ B a → H' a = some o ∧ ¬ B' a) (k2 : ∀ a vs, H a = some (.lst vs) → H' a = some (.lst vs)) {v : V} {d : D} (h : Rt B H v d) : Rt B' H' v d := by
  cases d with
  | list ds =>
    obtain ⟨a, vs, rfl, h1, h2, h3⟩ := h
    exact ⟨a, vs, rfl, k2 _ _ h1, h2, h3.tr k⟩
  | _ => exact Rp.tr k h
theorem Rt.mono (e : Same H H') {v : V} {d : D} (h : Rt B H v d) : Rt B H' v d := h.tr (fun a o q n => ⟨e a o q, n⟩) fun a vs q => e a _ q
theorem Rt.less (e : ∀ a, B' a → B a) {v : V} {d : D} (h : Rt B H v d) : Rt B' H v d := h.tr (fun a o q n => ⟨q, fun z => n (e a z)⟩) fun _ _ q => q
theorem Rt.dp {K : PySem.W.Frag} {v : V} {d : D} (h : Rt B H v d) : Dp K H v d := by
  cases d with
  | list ds =>
    obtain ⟨a, vs, rfl, h1, h2, h3⟩ := h
    exact .lst (SqL.of h1) h3.dp
  | _ => exact Rp.dp h
theorem Rt.int {v : V} {i : Int} (h : Rt B H v (.int i)) : v = .int i := by cases (show Rp B H v (.int i) from h); rfl
theorem Rt.bool {v : V} {i : Bool} (h : Rt B H v (.bool i)) : v = .bl i := by cases (show Rp B H v (.bool i) from h); rfl
theorem Rt.non {v : V} (h : Rt B H v .none) : v = .non := by cases (show Rp B H v .none from h); rfl
theorem Rt.str {v : V} {x : Str} (h : Rt B H v (.str x)) : v = .str x := by cases (show Rp B H v (.str x) from h); rfl
theorem Rt.tup {v : V} {ds : List D} (h : Rt B H v (.tuple ds)) : ∃ a vs, v = .ref a ∧ H a = some (.tup vs) ∧ vs.length ≤ lim ∧ RpAll B H vs ds := by
  cases (show Rp B H v (.tuple ds) from h) with
  | tup h1 n l r => exact ⟨_, _, rfl, h1, l, r⟩
def RtAll (B : Addr → Prop) (H : Hp) : List V → List D → Prop
  | [], [] => True
  | v :: vs, d :: ds => Rt B H v d ∧ RtAll B H vs ds
  | _, _ => False
theorem RtAll.mono (e : Same H H') : ∀ {vs : List V} {ds : List D}, RtAll B H vs ds → RtAll B H' vs ds
  | [], [], _ => trivial
  | _ :: _, _ :: _, ⟨h, r⟩ => ⟨h.mono e, RtAll.mono e r⟩
theorem RpAll.rt : ∀ {vs : List V} {ds : List D}, RpAll B H vs ds → RtAll B H vs ds
  | _, _, .nil => trivial
  | _, _, .cons h r => ⟨h.rt, RpAll.rt r⟩
theorem RtAll.len : ∀ {vs : List V} {ds : List D}, RtAll B H vs ds → vs.length = ds.length
  | [], [], _ => rfl
  | _ :: _, _ :: _, ⟨_, r⟩ => by simp [RtAll.len r]
/-- a new object's address is no one's -/
theorem RpAll.new {a : Addr} (n : H a = none) {vs : List V} {ds : List D} (h : RpAll B H vs ds) : RpAll (fun q => B q ∨ q = a) H vs ds :=
  h.tr fun b o q nb => ⟨q, fun z => z.elim nb fun e => by rw [e, n] at q; cases q⟩
end

theorem same_new {H : Hp} {p : Addr} {o : HO} (h : H p = none) : Same H (upd H p o) := fun a u e => by
  rw [upd_ne (ne_of_none e h)]
  exact e

/-! ### the frame -/
def Own (ρ : Env) (σ : L2.St) (p : Addr) : Prop := ∃ (i : Nat) (d : D), ρ[i]? = some (some (Sta.own, d)) ∧ σ[i]? = some (some (V.ref p))
def Bad (B : Addr → Prop) (ρ : Env) (σ : L2.St) (p : Addr) : Prop := B p ∨ Own ρ σ p
structure RE (H0 : Hp) (B0 : Addr → Prop) (ρ : Env) (σ : L2.St) (H : Hp) : Prop where
  ext : Same H0 H
  bad : ∀ p, B0 p → ∃ vs, H0 p = some (.lst vs)
  len : σ.length = ρ.length
  shr : ∀ (i : Nat) (d : D), ρ[i]? = some (some (Sta.shr, d)) → ∃ v, σ[i]? = some (some v) ∧ Rp (Bad B0 ρ σ) H v d
  arg : ∀ (i : Nat) (d : D), ρ[i]? = some (some (Sta.arg, d)) → ∃ v, σ[i]? = some (some v) ∧ Rt (Bad B0 ρ σ) H v d ∧ ∀ p, v = .ref p → ¬ Own ρ σ p
  own : ∀ (i : Nat) (d : D), ρ[i]? = some (some (Sta.own, d)) → ∃ p vs ds, d = .list ds ∧ σ[i]? = some (some (.ref p)) ∧ H p = some (.lst vs) ∧ vs.length ≤ lim ∧ H0 p = none ∧ RpAll (Bad B0 ρ σ) H vs ds
  dist : ∀ (i j : Nat) (d e : D) (p : Addr), ρ[i]? = some (some (Sta.own, d)) → ρ[j]? = some (some (Sta.own, e)) → σ[i]? = some (some (V.ref p)) → σ[j]? = some (some (V.ref p)) → i = j
section
variable {H0 H H' : Hp} {B0 : Addr → Prop} {ρ : Env} {σ : L2.St}
theorem RE.mono (re : RE H0 B0 ρ σ H) (e : Same H H') : RE H0 B0 ρ σ H' :=
  ⟨re.ext.trans e, re.bad, re.len, fun i d h => let ⟨v, a, b⟩ := re.shr i d h; ⟨v, a, b.mono e⟩, fun i d h => let ⟨v, a, b, n⟩ := re.arg i d h; ⟨v, a, b.mono e, n⟩,
    fun i d h => let ⟨p, vs, ds, a, b, c, l, n, r⟩ := re.own i d h; ⟨p, vs, ds, a, b, e _ _ c, l, n, r.mono e⟩, re.dist⟩
theorem RE.badL (re : RE H0 B0 ρ σ H) {p : Addr} (h : Bad B0 ρ σ p) : ∃ vs, H p = some (.lst vs) := by
  rcases h with h | ⟨i, d, h1, h2⟩
  · obtain ⟨vs, e⟩ := re.bad p h
    exact ⟨vs, re.ext _ _ e⟩
  · obtain ⟨q, vs, ds, _, e, c, _⟩ := re.own i d h1
    rw [h2] at e
    cases e
    exact ⟨vs, c⟩
theorem Rp.top {B : Addr → Prop} {H : Hp} {p : Addr} {d : D} (h : Rp B H (.ref p) d) : ¬ B p := by
  cases h with
  | lst _ n _ _ => exact n
  | tup _ n _ _ => exact n
theorem RE.get (re : RE H0 B0 ρ σ H) {i : Nat} {s : Sta} {d : D} (h : ρ[i]? = some (some (s, d))) :
    ∃ v, σ[i]? = some (some v) ∧ Rt (Bad B0 ρ σ) H v d ∧ ((s == .shr || !isList d) = true → Rp (Bad B0 ρ σ) H v d) ∧ (isOwn ρ (.var i) = false → ∀ p, v = .ref p → ¬ Own ρ σ p) := by
  cases s with
  | shr =>
    obtain ⟨v, a, b⟩ := re.shr i d h
    exact ⟨v, a, b.rt, fun _ => b, fun _ p e z => by subst e; exact b.top (.inr z)⟩
  | arg =>
    obtain ⟨v, a, b, n⟩ := re.arg i d h
    exact ⟨v, a, b, fun z => b.rp (by simpa using z), fun _ => n⟩
  | own =>
    obtain ⟨p, vs, ds, rfl, b, c, l, n, r⟩ := re.own i d h
    exact ⟨_, b, ⟨p, vs, rfl, c, l, r⟩, fun z => by simp [isList] at z, fun z => by simp [isOwn, ownL, h] at z⟩
end
/-- what an expression gives, from the heap H on -/
structure ResE (B O : Addr → Prop) (H H' : Hp) (fr sf ow : Bool) (v : V) (d : D) : Prop where
  rt : Rt B H' v d
  rp : sf = true → Rp B H' v d
  no : ow = false → ∀ p, v = .ref p → ¬ O p
  fr : fr = true → ∀ ds, d = .list ds → ∃ a vs, v = .ref a ∧ H a = none ∧ H' a = some (.lst vs) ∧ vs.length ≤ lim ∧ RpAll (fun q => B q ∨ q = a) H' vs ds
structure BO (B O : Addr → Prop) (H : Hp) : Prop where
  there : ∀ p, B p → H p ≠ none
  sub : ∀ p, O p → B p
theorem BO.mono {B O : Addr → Prop} {H H' : Hp} (b : BO B O H) (e : Same H H') : BO B O H' := ⟨fun p h z => b.there p h (e.free z), b.sub⟩
section
variable {B O : Addr → Prop} {H H1 H' : Hp} {v : V} {d : D} {f s w : Bool}
theorem ResE.back (e : Same H H1) (r : ResE B O H1 H' f s w v d) : ResE B O H H' f s w v d :=
  ⟨r.rt, r.rp, r.no, fun h ds q => let ⟨a, vs, x, n, y⟩ := r.fr h ds q; ⟨a, vs, x, e.free n, y⟩⟩
theorem ResE.of (b : BO B O H) (r : Rp B H' v d) (n : isList d = false) : ResE B O H H' f s w v d :=
  ⟨r.rt, fun _ => r, fun _ p e z => by subst e; exact r.top (b.sub p z), fun _ ds e => by rw [e] at n; cases n⟩
theorem ResE.sh (b : BO B O H) (r : Rp B H' v d) : ResE B O H H' false s w v d := ⟨r.rt, fun _ => r, fun _ p e z => by subst e; exact r.top (b.sub p z), fun e => by cases e⟩
/-- a new list just laid -/
theorem ResE.new {a : Addr} {vs : List V} {ds : List D} (b : BO B O H) (n : H a = none) (l : vs.length ≤ lim) (r : RpAll B H vs ds) : ResE B O H (upd H a (.lst vs)) f s w (.ref a) (.list ds) := by
  have e : Same H (upd H a (.lst vs)) := same_new n
  have r' : RpAll (fun q => B q ∨ q = a) (upd H a (.lst vs)) vs ds := (r.new n).mono e
  exact ⟨⟨a, vs, rfl, upd_same, l, r.mono e⟩, fun _ => .lst upd_same (fun z => b.there a z n) l (r.mono e), fun _ p e z => by cases e; exact b.there _ (b.sub _ z) n, fun _ ds' e' => by cases e'; exact ⟨a, vs, rfl, n, upd_same, l, r'⟩⟩
theorem ResE.newT {a : Addr} {vs : List V} {ds : List D} (b : BO B O H) (n : H a = none) (l : vs.length ≤ lim) (r : RpAll B H vs ds) : ResE B O H (upd H a (.tup vs)) f s w (.ref a) (.tuple ds) :=
  ResE.of b (.tup upd_same (fun z => b.there a z n) l (r.mono (same_new n))) rfl
end
theorem RE.hB {H0 H : Hp} {B0 : Addr → Prop} {ρ : Env} {σ : L2.St} (re : RE H0 B0 ρ σ H) : BO (Bad B0 ρ σ) (Own ρ σ) H := by
  refine ⟨fun p h => ?_, fun p h => .inr h⟩
  obtain ⟨vs, e⟩ := re.badL h
  rw [e]
  exact fun z => nomatch z

/-! ### readings -/
def tV (Γ : Tab) (e : XE) : TE := fun σ H Q => ∃ H0 B0 ρ d, RE H0 B0 ρ σ H ∧ ev Γ e ρ = some d ∧ ∀ v H', Same H H' → ResE (Bad B0 ρ σ) (Own ρ σ) H H' (frE Γ e) (sfE ρ e) (isOwn ρ e) v d → Q v H'
def tVT (Γ : Tab) (e : XE) : TT := fun σ H Q => ∃ H0 B0 ρ b, RE H0 B0 ρ σ H ∧ ev Γ e ρ = some (.bool b) ∧ ∀ H', Same H H' → Q b H'
def tVA (Γ : Tab) (as : XEs) : TA := fun σ H Q => ∃ H0 B0 ρ ds, RE H0 B0 ρ σ H ∧ evs Γ as ρ = some ds ∧ ∀ vs H', Same H H' → RtAll (Bad B0 ρ σ) H' vs ds → (sfEs ρ as = true → RpAll (Bad B0 ρ σ) H' vs ds) → Q vs H'
theorem _root_.L2.PE.imp {X : Cx} {e : Expr} {t t' : TE} (h : PE X e t) (k : ∀ σ H Q, t' σ H Q → t σ H Q) : PE X e t' := ⟨fun pins s σ H Q I q => h.run pins s σ H Q I (k σ H Q q)⟩
theorem _root_.L2.PT.imp {X : Cx} {e : Expr} {t t' : TT} (h : PT X e t) (k : ∀ σ H Q, t' σ H Q → t σ H Q) : PT X e t' := ⟨fun pins s σ H Q I q => h.run pins s σ H Q I (k σ H Q q)⟩
theorem _root_.L2.PA.imp {X : Cx} {e : List Expr} {t t' : TA} (h : PA X e t) (k : ∀ σ H Q, t' σ H Q → t σ H Q) : PA X e t' := ⟨fun pos pins s σ H Q I q => h.run pos pins s σ H Q I (k σ H Q q)⟩
theorem _root_.L2.PE.no {X : Cx} {e : Expr} {t' : TE} (k : ∀ σ H Q, t' σ H Q → False) : PE X e t' := ⟨fun pins s σ H Q I q => (k σ H Q q).elim⟩

section
variable {X : Cx} {Γ : Tab} {a b c : Expr} {a' b' c' : XE} {pos : Pos}
theorem s_var {i : Nat} {x : Str} (hN : X.N[i]? = some x) (hv : Vis X.env.scope x) (hd : (x == ("__debug__" : Str)) = false) (hcd : (x == ("__classdict__" : Str)) = false) : PE X (.Name x pos) (tV Γ (.var i)) := by
  refine (pe_var hN hv hd hcd).imp fun σ H Q ⟨H0, B0, ρ, d, re, e, k⟩ => ?_
  unfold ev at e
  cases h : ρ[i]? with
  | none => rw [h] at e; cases e
  | some o =>
    cases o with
    | none => rw [h] at e; cases e
    | some sd =>
      obtain ⟨s, d'⟩ := sd
      rw [h] at e
      cases e
      obtain ⟨v, e1, r1, r2, r3⟩ := re.get h
      exact ⟨v, e1, k v H (Same.refl H) ⟨r1, fun z => r2 (by simpa [sfE, h] using z), r3, fun z => by simp [frE] at z⟩⟩
theorem s_cst {v : V} {d : D} {e : Expr} (h : PE X e (tC v)) (r : ∀ B H, Rp B H v d) (n : isList d = false) : PE X e (tV Γ (.cst d)) := by
  refine h.imp fun σ H Q ⟨H0, B0, ρ, d', re, e, k⟩ => ?_
  unfold ev at e
  cases e
  exact k _ H (Same.refl H) (.of re.hB (r _ _) n)

/-- two operands, then an operation by its rule -/
theorem two {r : R2} {op2 : D → D → Option D} {e' : XE} (he : ∀ ρ, ev Γ e' ρ = match ev Γ a' ρ, ev Γ b' ρ with
    | some x, some y => op2 x y
    | _, _ => none)
    (hr : ∀ (B O : Addr → Prop) (H : Hp) (v w : V) (x y d : D) (s z : Bool) (Q : VK), BO B O H → Rt B H v x → Rt B H w y → op2 x y = some d → (∀ u H', Same H H' → ResE B O H H' (frE Γ e') s z u d → Q u H') → r v w H Q) :
    ∀ σ H Q, tV Γ e' σ H Q → tOp r (tV Γ a') (tV Γ b') σ H Q := by
  intro σ H Q ⟨H0, B0, ρ, d, re, e, k⟩
  rw [he] at e
  cases h1 : ev Γ a' ρ with
  | none => rw [h1] at e; cases e
  | some x =>
    cases h2 : ev Γ b' ρ with
    | none => rw [h1, h2] at e; cases e
    | some y =>
      rw [h1, h2] at e
      refine ⟨H0, B0, ρ, x, re, h1, fun v H1 e1 r1 => ⟨H0, B0, ρ, y, re.mono e1, h2, fun w H2 e2 r2 => ?_⟩⟩
      exact hr _ _ _ _ _ _ _ _ _ _ _ ((re.mono e1).mono e2).hB (r1.rt.mono e2) r2.rt e fun u H' e3 r3 => k u H' ((e1.trans e2).trans e3) (r3.back (e1.trans e2))
theorem mulOk_of {i j : Int} (h : mulOk i j = true) : IntMulOk i j := by
  have b : ∀ x : Int, Builtin.Int.intBits x ≤ x.natAbs.log2 + 1 := fun x => by
    unfold Builtin.Int.intBits
    split <;> omega
  have h1 := b i
  have h2 := b j
  have h3 : i.natAbs.log2 + j.natAbs.log2 < 100000000 := of_decide_eq_true h
  have e : bitsLine = 134217728 := by decide
  unfold IntMulOk
  intro z
  rw [Bool.and_eq_true] at z
  have z2 := z.2
  unfold Builtin.Int.intTooBig at z2
  have z3 := of_decide_eq_true z2
  rw [e] at z3
  omega
theorem op_mulG : OpR X (binaryOp .Mult) (rI (fun i j => mulOk i j = true) fun i j => .int (i * j)) := opI fun _ _ _ _ _ _ _ hc q => mul_int q (mulOk_of hc)
theorem op_fdivG : OpR X (binaryOp .FloorDiv) (rI (fun _ j => divOk j = true) fun i j => .int (i.fdiv j)) := opI fun _ _ _ _ _ _ _ hc q => by
  have h : divOk _ = true := hc
  unfold divOk at h
  rw [Bool.and_eq_true] at h
  exact floordiv_int (of_decide_eq_true h.1) q (.inl (PyProof.noPylong_of_log2 (of_decide_eq_true h.2)))
theorem limOk {n : Nat} (h : n ≤ lim) : n ≤ sizeLine := Nat.le_trans h (by decide)
theorem limLt {n : Nat} (h : n ≤ lim) : n < sizeLine := Nat.lt_of_le_of_lt h (by decide)
theorem sub_lit : ∀ {op : Operator} {x y d : D}, binD op x y = some d → isList d = false → ∃ i j k, x = .int i ∧ y = .int j ∧ d = .int k := by
  intro op x y d h n
  cases op <;> cases x <;> cases y <;> simp only [binD] at h <;> (try cases h) <;> (try (split at h <;> cases h)) <;> first | exact ⟨_, _, _, rfl, rfl, rfl⟩ | cases n

theorem s_bin {op : Operator} (ha : PE X a (tV Γ a')) (hb : PE X b (tV Γ b')) : PE X (.BinOp a op b pos) (tV Γ (.bin op a' b')) := by
  have he : ∀ ρ, ev Γ (.bin op a' b') ρ = match ev Γ a' ρ, ev Γ b' ρ with
    | some x, some y => binD op x y
    | _, _ => none := fun ρ => by rw [ev]; try rfl
  cases op with
  | Add =>
    refine (pe_op (op_add.or op_cat) ha hb).imp (two he fun B O H v w x y d s z Q hB r1 r2 e k => ?_)
    cases x <;> cases y <;> simp only [binD] at e <;> (try cases e)
    · exact .inl ⟨_, _, r1.int, r2.int, k _ H (Same.refl H) (.of hB (.int _) rfl)⟩
    · split at e <;> cases e
      rename_i xs ys hl
      obtain ⟨p, vs, rfl, h1, l1, q1⟩ := r1
      obtain ⟨q, ws, rfl, h2, l2, q2⟩ := r2
      have hl' : vs.length + ws.length ≤ lim := by rw [q1.len, q2.len]; exact hl
      refine .inr ⟨p, q, vs, ws, rfl, rfl, h1, h2, limOk hl', fun o no => k _ _ (same_new no) (.new hB no (by rw [List.length_append]; exact hl') (q1.app q2))⟩
  | Sub =>
    refine (pe_op op_sub ha hb).imp (two he fun B O H v w x y d s z Q hB r1 r2 e k => ?_)
    cases x <;> cases y <;> simp only [binD] at e <;> (try cases e)
    exact ⟨_, _, r1.int, r2.int, k _ H (Same.refl H) (.of hB (.int _) rfl)⟩
  | Mult =>
    refine (pe_op op_mulG ha hb).imp (two he fun B O H v w x y d s z Q hB r1 r2 e k => ?_)
    cases x <;> cases y <;> simp only [binD] at e <;> (try cases e)
    split at e <;> cases e
    rename_i hl
    exact ⟨_, _, r1.int, r2.int, hl, k _ H (Same.refl H) (.of hB (.int _) rfl)⟩
  | FloorDiv =>
    refine (pe_op op_fdivG ha hb).imp (two he fun B O H v w x y d s z Q hB r1 r2 e k => ?_)
    cases x <;> cases y <;> simp only [binD] at e <;> (try cases e)
    split at e <;> cases e
    rename_i hl
    exact ⟨_, _, r1.int, r2.int, hl, k _ H (Same.refl H) (.of hB (.int _) rfl)⟩
  | Mod =>
    refine (pe_op op_modN ha hb).imp (two he fun B O H v w x y d s z Q hB r1 r2 e k => ?_)
    cases x <;> cases y <;> simp only [binD] at e <;> (try cases e)
    split at e <;> cases e
    rename_i hl
    exact ⟨_, _, r1.int, r2.int, hl, k _ H (Same.refl H) (.of hB (.int _) rfl)⟩
  | Pow =>
    refine (pe_op op_pow ha hb).imp (two he fun B O H v w x y d s z Q hB r1 r2 e k => ?_)
    cases x <;> cases y <;> simp only [binD] at e <;> (try cases e)
    split at e <;> cases e
    rename_i hl
    exact ⟨_, _, r1.int, r2.int, ⟨hl.1, by have := hl.2.1; omega, hl.2.2⟩, k _ H (Same.refl H) (.of hB (.int _) rfl)⟩
  | RShift =>
    refine (pe_op op_shr ha hb).imp (two he fun B O H v w x y d s z Q hB r1 r2 e k => ?_)
    cases x <;> cases y <;> simp only [binD] at e <;> (try cases e)
    split at e <;> cases e
    rename_i hl
    exact ⟨_, _, r1.int, r2.int, hl, k _ H (Same.refl H) (.of hB (.int _) rfl)⟩
  | _ =>
    refine .no fun σ H Q ⟨H0, B0, ρ, d, re, e, k⟩ => ?_
    rw [he] at e
    split at e
    · simp [binD] at e
    · cases e
end
end VI
set_option Elab.async false
set_option linter.all false
set_option maxRecDepth 100000
set_option maxHeartbeats 1000000
/-! VI3: the other expressions. -/
namespace VI
open PySem PySem.Spec PyProof.Rows L2

/-! ### plain syntax -/
theorem star_plain {e : Expr} (h : plainE e = true) (es : List Expr) (env : PySem.Env) : starEach (e :: es) env = (false, eval e env) :: starEach es env := by
  cases e <;> first | rfl | cases h
theorem star_any {pos : Pos} {env : PySem.Env} : ∀ {es : List Expr}, (∀ e ∈ es, plainE e = true) → (backTo pos (starEach es env)).any (·.1) = false
  | [], _ => rfl
  | e :: es, h => by
    rw [star_plain (h e List.mem_cons_self)]
    have ih := star_any (pos := pos) (env := env) fun e' he => h e' (List.mem_cons_of_mem _ he)
    show (false || (backTo pos (starEach es env)).any (·.1)) = false
    rw [ih]
    rfl
theorem marks_plain {e : Expr} (h : plainE e = true) (op : CmpOp) : behindInMarks op e = false := by
  cases e <;> first | rfl | cases h
theorem folded_plain {e : Expr} (h : plainE e = true) (env : PySem.Env) : ∀ x, foldedSetIterable e env x = pure x := by
  intro x
  cases e <;> first | rfl | cases h
theorem ix_plain {e : Expr} (h : plainE e = true) : PlainIx e := by
  cases e <;> first | (intro _ _; rfl) | cases h
def isTestE : Expr → Bool
  | .BoolOp .. => true
  | .UnaryOp .Not _ _ => true
  | .Compare .. => true
  | _ => false
theorem true_plain {e : Expr} (h : plainE e = true) (n : isTestE e = false) (env : PySem.Env) : ∀ whole, isTrue e env whole = (do let v ← whole; standAt e.pos; holding [v] (truthy v)) := by
  intro whole
  cases e with
  | UnaryOp op a p => cases op <;> first | rfl | cases n
  | BoolOp => cases n
  | Compare => cases n
  | _ => first | rfl | cases h

section
variable {X : Cx} {Γ : Tab} {a b c : Expr} {a' b' c' : XE} {pos : Pos}
theorem one {r : V → Hp → VK → Prop} {op1 : D → Option D} {e' : XE} (he : ∀ ρ, ev Γ e' ρ = match ev Γ a' ρ with
    | some x => op1 x
    | none => none)
    (hr : ∀ (B O : Addr → Prop) (H : Hp) (v : V) (x d : D) (s z : Bool) (Q : VK), BO B O H → Rt B H v x → op1 x = some d → (∀ u H', Same H H' → ResE B O H H' (frE Γ e') s z u d → Q u H') → r v H Q) :
    ∀ σ H Q, tV Γ e' σ H Q → tV Γ a' σ H fun x H1 => r x H1 Q := by
  intro σ H Q ⟨H0, B0, ρ, d, re, e, k⟩
  rw [he] at e
  cases h1 : ev Γ a' ρ with
  | none => rw [h1] at e; cases e
  | some x =>
    rw [h1] at e
    refine ⟨H0, B0, ρ, x, re, h1, fun v H1 e1 r1 => ?_⟩
    exact hr _ _ _ _ _ _ _ _ _ (re.mono e1).hB r1.rt e fun u H' e3 r3 => k u H' (e1.trans e3) (r3.back e1)
theorem s_neg (ha : PE X a (tV Γ a')) : PE X (.UnaryOp .USub a pos) (tV Γ (.neg a')) := by
  refine (pe_un un_neg ha).imp (one (op1 := fun x => match x with | .int i => some (.int (-i)) | _ => none) (fun ρ => ?_) fun B O H v x d s z Q hB r1 e k => ?_)
  · rw [ev]
    cases ev Γ a' ρ with
    | none => rfl
    | some x => cases x <;> rfl
  · cases x <;> cases e
    exact ⟨_, r1.int, k _ H (Same.refl H) (.of hB (.int _) rfl)⟩
theorem s_not (ha : PE X a (tV Γ a')) : PE X (.UnaryOp .Not a pos) (tV Γ (.not a')) := by
  refine (pe_not ha).imp (one (op1 := fun x => match x with | .bool i => some (.bool (!i)) | _ => none) (fun ρ => ?_) fun B O H v x d s z Q hB r1 e k => ?_)
  · rw [ev]
    cases ev Γ a' ρ with
    | none => rfl
    | some x => cases x <;> rfl
  · cases x <;> cases e
    exact ⟨_, r1.bool, k _ H (Same.refl H) (.of hB (.bl _) rfl)⟩
/-- a value's reading gives a test's -/
theorem t_of (ha : PE X a (tV Γ a')) (h : plainE a = true) (n : isTestE a = false) : PT X a (tVT Γ a') := by
  refine (pt_val ha (true_plain h n X.env)).imp fun σ H Q ⟨H0, B0, ρ, d, re, e, k⟩ => ?_
  exact ⟨H0, B0, ρ, _, re, e, fun v H' e1 r => ⟨_, r.rt.bool, k H' e1⟩⟩
theorem s_notT (ha : PT X a (tVT Γ a')) : PT X (.UnaryOp .Not a pos) (tVT Γ (.not a')) := by
  refine (pt_not ha).imp fun σ H Q ⟨H0, B0, ρ, d, re, e, k⟩ => ?_
  rw [ev] at e
  cases h1 : ev Γ a' ρ with
  | none => rw [h1] at e; cases e
  | some x =>
    rw [h1] at e
    cases x <;> cases e
    exact ⟨H0, B0, ρ, _, re, h1, fun H' e1 => k H' e1⟩
theorem ev_and {ρ : Env} {d : D} (e : ev Γ (.and a' b') ρ = some d) : (ev Γ a' ρ = some (.bool true) ∧ ∃ t, ev Γ b' ρ = some (.bool t) ∧ d = .bool t) ∨ (ev Γ a' ρ = some (.bool false) ∧ d = .bool false) := by
  rw [ev] at e
  split at e
  · rename_i h1
    split at e
    · rename_i t h2
      cases e
      exact .inl ⟨h1, t, h2, rfl⟩
    · cases e
  · rename_i h1
    cases e
    exact .inr ⟨h1, rfl⟩
  · cases e
theorem ev_or {ρ : Env} {d : D} (e : ev Γ (.or a' b') ρ = some d) : (ev Γ a' ρ = some (.bool false) ∧ ∃ t, ev Γ b' ρ = some (.bool t) ∧ d = .bool t) ∨ (ev Γ a' ρ = some (.bool true) ∧ d = .bool true) := by
  rw [ev] at e
  split at e
  · rename_i h1
    split at e
    · rename_i t h2
      cases e
      exact .inl ⟨h1, t, h2, rfl⟩
    · cases e
  · rename_i h1
    cases e
    exact .inr ⟨h1, rfl⟩
  · cases e
theorem s_and {rest : List Expr} (ha : PE X a (tV Γ a')) (hb : PE X (.BoolOp .And (b :: rest) pos) (tV Γ b')) : PE X (.BoolOp .And (a :: b :: rest) pos) (tV Γ (.and a' b')) := by
  refine (pe_and ha hb).imp fun σ H Q ⟨H0, B0, ρ, d, re, e, k⟩ => ?_
  rcases ev_and e with ⟨h1, t, h2, rfl⟩ | ⟨h1, rfl⟩
  · refine ⟨H0, B0, ρ, _, re, h1, fun v H1 e1 r1 => ⟨true, r1.rt.bool, ?_⟩⟩
    rw [if_pos rfl]
    exact ⟨H0, B0, ρ, _, re.mono e1, h2, fun u H' e2 r2 => k u H' (e1.trans e2) (.of re.hB (r2.rt.rp rfl) rfl)⟩
  · refine ⟨H0, B0, ρ, _, re, h1, fun v H1 e1 r1 => ⟨false, r1.rt.bool, ?_⟩⟩
    rw [if_neg Bool.false_ne_true]
    exact k _ H1 e1 (.of re.hB (.bl _) rfl)
theorem s_or {rest : List Expr} (ha : PE X a (tV Γ a')) (hb : PE X (.BoolOp .Or (b :: rest) pos) (tV Γ b')) : PE X (.BoolOp .Or (a :: b :: rest) pos) (tV Γ (.or a' b')) := by
  refine (pe_or ha hb).imp fun σ H Q ⟨H0, B0, ρ, d, re, e, k⟩ => ?_
  rcases ev_or e with ⟨h1, t, h2, rfl⟩ | ⟨h1, rfl⟩
  · refine ⟨H0, B0, ρ, _, re, h1, fun v H1 e1 r1 => ⟨false, r1.rt.bool, ?_⟩⟩
    rw [if_neg Bool.false_ne_true]
    exact ⟨H0, B0, ρ, _, re.mono e1, h2, fun u H' e2 r2 => k u H' (e1.trans e2) (.of re.hB (r2.rt.rp rfl) rfl)⟩
  · refine ⟨H0, B0, ρ, _, re, h1, fun v H1 e1 r1 => ⟨true, r1.rt.bool, ?_⟩⟩
    rw [if_pos rfl]
    exact k _ H1 e1 (.of re.hB (.bl _) rfl)
theorem s_andW {rest : List Expr} (ha : PT X a (tVT Γ a')) (hb : PW X (.BoolOp .And (b :: rest) pos) (tVT Γ b')) : PW X (.BoolOp .And (a :: b :: rest) pos) (tVT Γ (.and a' b')) := by
  refine ⟨fun wh pins s σ H Q I h => (pw_and ha hb).run wh pins s σ H Q I ?_⟩
  obtain ⟨H0, B0, ρ, d, re, e, k⟩ := h
  rcases ev_and e with ⟨h1, t, h2, e3⟩ | ⟨h1, e3⟩
  · cases e3
    refine ⟨H0, B0, ρ, _, re, h1, fun H1 e1 => ?_⟩
    exact iteT (⟨H0, B0, ρ, _, re.mono e1, h2, fun H' e2 => k H' (e1.trans e2)⟩)
  · cases e3
    refine ⟨H0, B0, ρ, _, re, h1, fun H1 e1 => ?_⟩
    exact iteF (k H1 e1)
theorem s_orW {rest : List Expr} (ha : PT X a (tVT Γ a')) (hb : PW X (.BoolOp .Or (b :: rest) pos) (tVT Γ b')) : PW X (.BoolOp .Or (a :: b :: rest) pos) (tVT Γ (.or a' b')) := by
  refine ⟨fun wh pins s σ H Q I h => (pw_or ha hb).run wh pins s σ H Q I ?_⟩
  obtain ⟨H0, B0, ρ, d, re, e, k⟩ := h
  rcases ev_or e with ⟨h1, t, h2, e3⟩ | ⟨h1, e3⟩
  · cases e3
    refine ⟨H0, B0, ρ, _, re, h1, fun H1 e1 => ?_⟩
    exact iteF (⟨H0, B0, ρ, _, re.mono e1, h2, fun H' e2 => k H' (e1.trans e2)⟩)
  · cases e3
    refine ⟨H0, B0, ρ, _, re, h1, fun H1 e1 => ?_⟩
    exact iteT (k H1 e1)

/-! ### comparisons -/
theorem any_ints (i : Int) (ns : List Int) : inV (V.int i) (ns.map V.int) = ns.any fun n => n == i := by
  unfold inV
  rw [List.any_map]
  rfl
theorem all_flat (ns : List Int) : (ns.map V.int).all flatV = true := by
  rw [List.all_map]
  exact List.all_eq_true.mpr fun _ _ => rfl
theorem cmp_r (hu : X.A.units + 64 < cLine) (op : CmpOp) : ∃ r : R2, OpR X (compareOp op) r ∧ ∀ (B : Addr → Prop) (H : Hp) (v w : V) (x y : D) (k : Bool) (Q : VK), Rt B H v x → Rt B H w y → cmpD op x y = some k → Q (.bl k) H → r v w H Q := by
  cases op with
  | Eq =>
    refine ⟨_, op_eqD hu, fun B H v w x y k Q r1 r2 e q => ?_⟩
    simp only [cmpD] at e
    split at e <;> cases e
    rename_i h
    rw [Bool.and_eq_true] at h
    exact ⟨x, y, r1.dp, r2.dp, h.1, h.2, q⟩
  | NotEq =>
    refine ⟨_, op_neD hu, fun B H v w x y k Q r1 r2 e q => ?_⟩
    simp only [cmpD] at e
    split at e <;> cases e
    rename_i h
    rw [Bool.and_eq_true] at h
    exact ⟨x, y, r1.dp, r2.dp, h.1, h.2, q⟩
  | Lt =>
    refine ⟨_, op_lt, fun B H v w x y k Q r1 r2 e q => ?_⟩
    cases x <;> cases y <;> simp only [cmpD] at e <;> cases e
    exact ⟨_, _, r1.int, r2.int, q⟩
  | LtE =>
    refine ⟨_, op_le, fun B H v w x y k Q r1 r2 e q => ?_⟩
    cases x <;> cases y <;> simp only [cmpD] at e <;> cases e
    exact ⟨_, _, r1.int, r2.int, q⟩
  | Gt =>
    refine ⟨_, op_gt, fun B H v w x y k Q r1 r2 e q => ?_⟩
    cases x <;> cases y <;> simp only [cmpD] at e <;> cases e
    exact ⟨_, _, r1.int, r2.int, q⟩
  | GtE =>
    refine ⟨_, op_ge, fun B H v w x y k Q r1 r2 e q => ?_⟩
    cases x <;> cases y <;> simp only [cmpD] at e <;> cases e
    exact ⟨_, _, r1.int, r2.int, q⟩
  | In =>
    refine ⟨_, op_in_seq, fun B H v w x y k Q r1 r2 e q => ?_⟩
    cases x <;> cases y <;> simp only [cmpD] at e <;> try cases e
    rename_i i ys
    rw [Option.map_eq_some_iff] at e
    obtain ⟨ns, e1, rfl⟩ := e
    obtain ⟨p, vs, rfl, h1, l1, q1⟩ := r2
    have ev := q1.ints e1
    subst ev
    rw [r1.int]
    exact ⟨p, _, rfl, .inl (SqL.of h1), rfl, all_flat ns, by rw [if_neg Bool.false_ne_true, any_ints]; exact q⟩
  | NotIn =>
    refine ⟨_, op_notIn_seq, fun B H v w x y k Q r1 r2 e q => ?_⟩
    cases x <;> cases y <;> simp only [cmpD] at e <;> try cases e
    rename_i i ys
    rw [Option.map_eq_some_iff] at e
    obtain ⟨ns, e1, rfl⟩ := e
    obtain ⟨p, vs, rfl, h1, l1, q1⟩ := r2
    have ev := q1.ints e1
    subst ev
    rw [r1.int]
    exact ⟨p, _, rfl, .inl (SqL.of h1), rfl, all_flat ns, by rw [if_pos rfl, any_ints]; exact q⟩
  | Is =>
    refine ⟨_, op_isN, fun B H v w x y k Q r1 r2 e q => ?_⟩
    cases y <;> simp only [cmpD] at e <;> cases e
    refine ⟨r2.non, ?_⟩
    cases x with
    | none => rw [r1.non]; exact q
    | int i => rw [r1.int]; exact q
    | bool i => rw [r1.bool]; exact q
    | str i => rw [r1.str]; exact q
    | list ds => obtain ⟨p, vs, rfl, _⟩ := r1; exact q
    | tuple ds => obtain ⟨p, vs, rfl, _⟩ := r1.tup; exact q
    | dict ds => cases (show Rp B H v _ from r1)
  | IsNot =>
    refine ⟨_, op_notN, fun B H v w x y k Q r1 r2 e q => ?_⟩
    cases y <;> simp only [cmpD] at e <;> cases e
    refine ⟨r2.non, ?_⟩
    cases x with
    | none => rw [r1.non]; exact q
    | int i => rw [r1.int]; exact q
    | bool i => rw [r1.bool]; exact q
    | str i => rw [r1.str]; exact q
    | list ds => obtain ⟨p, vs, rfl, _⟩ := r1; exact q
    | tuple ds => obtain ⟨p, vs, rfl, _⟩ := r1.tup; exact q
    | dict ds => cases (show Rp B H v _ from r1)
theorem ev_cmp {ρ : Env} {op : CmpOp} {d : D} (e : ev Γ (.cmp op a' b') ρ = some d) : ∃ x y k, ev Γ a' ρ = some x ∧ ev Γ b' ρ = some y ∧ cmpD op x y = some k ∧ d = .bool k := by
  rw [ev] at e
  split at e
  · rename_i x y h1 h2
    rw [Option.map_eq_some_iff] at e
    obtain ⟨k, e1, rfl⟩ := e
    exact ⟨x, y, k, h1, h2, e1, rfl⟩
  · cases e
theorem s_cmp {op : CmpOp} (hu : X.A.units + 64 < cLine) (ha : PE X a (tV Γ a')) (hb : PE X b (tV Γ b')) (hp : plainE b = true) : PE X (.Compare a [op] [b] pos) (tV Γ (.cmp op a' b')) := by
  obtain ⟨r, ho, hr⟩ := cmp_r hu op
  refine (pe_cmpR ho ha hb (marks_plain hp op)).imp fun σ H Q ⟨H0, B0, ρ, d, re, e, k⟩ => ?_
  obtain ⟨x, y, t, h1, h2, h3, rfl⟩ := ev_cmp e
  refine ⟨H0, B0, ρ, x, re, h1, fun v H1 e1 r1 => ⟨H0, B0, ρ, y, re.mono e1, h2, fun w H2 e2 r2 => ?_⟩⟩
  exact hr _ _ _ _ _ _ _ _ (r1.rt.mono e2) r2.rt h3 (k _ H2 (e1.trans e2) (.of re.hB (.bl _) rfl))
theorem s_cmpT {op : CmpOp} (hu : X.A.units + 64 < cLine) (ha : PE X a (tV Γ a')) (hb : PE X b (tV Γ b')) (hp : plainE b = true) : PT X (.Compare a [op] [b] pos) (tVT Γ (.cmp op a' b')) := by
  obtain ⟨r, ho, hr⟩ := cmp_r hu op
  refine (pt_cmpR ho ha hb (marks_plain hp op)).imp fun σ H Q ⟨H0, B0, ρ, d, re, e, k⟩ => ?_
  obtain ⟨x, y, t, h1, h2, h3, e3⟩ := ev_cmp e
  cases e3
  refine ⟨H0, B0, ρ, x, re, h1, fun v H1 e1 r1 => ⟨H0, B0, ρ, y, re.mono e1, h2, fun w H2 e2 r2 => ?_⟩⟩
  exact hr _ _ _ _ _ _ _ (fun z H' => ∃ k, z = .bl k ∧ Q k H') (r1.rt.mono e2) r2.rt h3 ⟨_, rfl, k H2 (e1.trans e2)⟩
theorem ev_chn {ρ : Env} {op op' : CmpOp} {d : D} (e : ev Γ (.chn op op' a' b' c') ρ = some d) : ∃ x y k, ev Γ a' ρ = some x ∧ ev Γ b' ρ = some y ∧ cmpD op x y = some k ∧
    ((k = true ∧ ∃ z k', ev Γ c' ρ = some z ∧ cmpD op' y z = some k' ∧ d = .bool k') ∨ (k = false ∧ d = .bool false)) := by
  rw [ev] at e
  split at e
  · rename_i x y h1 h2
    split at e
    · rename_i h3
      split at e
      · rename_i z h4
        rw [Option.map_eq_some_iff] at e
        obtain ⟨k, e1, rfl⟩ := e
        exact ⟨x, y, true, h1, h2, h3, .inl ⟨rfl, z, k, h4, e1, rfl⟩⟩
      · cases e
    · rename_i h3
      cases e
      exact ⟨x, y, false, h1, h2, h3, .inr ⟨rfl, rfl⟩⟩
    · cases e
  · cases e
theorem chn_in {r r' : R2} {op op' : CmpOp} (hr : ∀ (B : Addr → Prop) (H : Hp) (v w : V) (x y : D) (k : Bool) (Q : VK), Rt B H v x → Rt B H w y → cmpD op x y = some k → Q (.bl k) H → r v w H Q)
    (hr' : ∀ (B : Addr → Prop) (H : Hp) (v w : V) (x y : D) (k : Bool) (Q : VK), Rt B H v x → Rt B H w y → cmpD op' x y = some k → Q (.bl k) H → r' v w H Q) :
    ∀ σ H Q, (∃ H0 B0 ρ k, RE H0 B0 ρ σ H ∧ ev Γ (.chn op op' a' b' c') ρ = some (.bool k) ∧ ∀ H', Same H H' → Q (.bl k) H') → tChain r r' (tV Γ a') (tV Γ b') (tV Γ c') σ H Q := by
  intro σ H Q ⟨H0, B0, ρ, d, re, e, k⟩
  obtain ⟨x, y, t, h1, h2, h3, h4⟩ := ev_chn e
  refine ⟨H0, B0, ρ, x, re, h1, fun v H1 e1 r1 => ⟨H0, B0, ρ, y, re.mono e1, h2, fun w H2 e2 r2 => ?_⟩⟩
  refine hr _ _ _ _ _ _ _ (fun z H3 => ∃ k, z = .bl k ∧ (if k = true then tV Γ c' σ H3 fun w' H4 => r' w w' H4 Q else Q (.bl false) H3)) (r1.rt.mono e2) r2.rt h3 ⟨t, rfl, ?_⟩
  rcases h4 with ⟨rfl, z, k', h5, h6, e7⟩ | ⟨rfl, e7⟩
  · cases e7
    rw [if_pos rfl]
    refine ⟨H0, B0, ρ, z, (re.mono e1).mono e2, h5, fun u H3 e3 r3 => ?_⟩
    exact hr' _ _ _ _ _ _ _ _ (r2.rt.mono e3) r3.rt h6 (k H3 ((e1.trans e2).trans e3))
  · cases e7
    rw [if_neg Bool.false_ne_true]
    exact k H2 (e1.trans e2)
theorem s_chn {op op' : CmpOp} (hu : X.A.units + 64 < cLine) (ha : PE X a (tV Γ a')) (hb : PE X b (tV Γ b')) (hc : PE X c (tV Γ c')) (hp : plainE c = true) : PE X (.Compare a [op, op'] [b, c] pos) (tV Γ (.chn op op' a' b' c')) := by
  obtain ⟨r, ho, hr⟩ := cmp_r hu op
  obtain ⟨r', ho', hr'⟩ := cmp_r hu op'
  refine (pe_chain ho ho' ha hb hc (marks_plain hp op')).imp fun σ H Q ⟨H0, B0, ρ, d, re, e, k⟩ => ?_
  obtain ⟨x, y, t, h1, h2, h3, h4⟩ := ev_chn e
  have hd : ∃ k, d = .bool k := by
    rcases h4 with ⟨_, _, k', _, _, rfl⟩ | ⟨_, rfl⟩
    · exact ⟨_, rfl⟩
    · exact ⟨_, rfl⟩
  obtain ⟨kk, rfl⟩ := hd
  exact chn_in hr hr' σ H Q ⟨H0, B0, ρ, kk, re, e, fun H' e1 => k _ H' e1 (.of re.hB (.bl _) rfl)⟩
theorem s_chnT {op op' : CmpOp} (hu : X.A.units + 64 < cLine) (ha : PE X a (tV Γ a')) (hb : PE X b (tV Γ b')) (hc : PE X c (tV Γ c')) (hp : plainE c = true) : PT X (.Compare a [op, op'] [b, c] pos) (tVT Γ (.chn op op' a' b' c')) := by
  obtain ⟨r, ho, hr⟩ := cmp_r hu op
  obtain ⟨r', ho', hr'⟩ := cmp_r hu op'
  refine (pt_chain ho ho' ha hb hc (marks_plain hp op')).imp fun σ H Q ⟨H0, B0, ρ, d, re, e, k⟩ => ?_
  exact chn_in hr hr' σ H _ ⟨H0, B0, ρ, d, re, e, fun H' e1 => ⟨_, rfl, k H' e1⟩⟩
end
end VI
set_option Elab.async false
set_option linter.all false
set_option maxRecDepth 100000
set_option maxHeartbeats 1000000
/-! VI4: subscripts, displays, calls. -/
namespace VI
open PySem PySem.Spec PyProof.Rows L2

/-- a def's promise -/
def spV (sg : Sig) : Sp := fun vs H Q _ => ∃ (B : Addr → Prop) (ds : List D) (d : D), (∀ p, B p → ∃ vs, H p = some (.lst vs)) ∧ RtAll B H vs ds ∧ (sg.ls = true → RpAll B H vs ds) ∧ ds.length = sg.ar ∧ sg.φ ds = some d ∧
  ∀ v H', Same H H' → Rp B H' v d → (sg.fr = true → ∀ es, d = .list es → ∃ a ws, v = .ref a ∧ H a = none ∧ H' a = some (.lst ws) ∧ ws.length ≤ lim ∧ RpAll (fun q => B q ∨ q = a) H' ws es) → Q v H'
structure FnV (P : Program) (w : World) (K : PySem.W.Frag) (mg : Str → Option Value) (base : Heap) (k : Nat) (f : Str) (sg : Sig) : Prop where
  ex : ∃ (a : Addr) (fd : FuncData) (ps : List Str), mg f = some (.ref a) ∧ PySem.W.keepIn K (.ref a) = true ∧ FnOk P w K mg base CX0 k a fd ps (spV sg) ∧ Binds K fd ps []
theorem FnV.mono {P : Program} {w : World} {K : PySem.W.Frag} {mg : Str → Option Value} {base : Heap} {j k : Nat} {f : Str} {sg : Sig} (F : FnV P w K mg base j f sg) (h : j ≤ k) : FnV P w K mg base k f sg :=
  let ⟨a, fd, ps, h1, h2, h3, h4⟩ := F.ex
  ⟨a, fd, ps, h1, h2, h3.mono h, h4⟩

section
variable {X : Cx} {Γ : Tab} {a b c : Expr} {a' b' c' : XE} {pos : Pos}
theorem RpAll.atI {B : Addr → Prop} {H : Hp} {vs : List V} {ds : List D} {i : Int} {d : D} (h : RpAll B H vs ds) (e : L2.atI ds i = some d) : ∃ v, L2.atI vs i = some v ∧ Rp B H v d := by
  unfold L2.atI at e ⊢
  rw [h.len]
  cases hj : L2.ixN ds.length i with
  | none => rw [hj] at e; cases e
  | some j =>
    rw [hj] at e
    exact h.get e
theorem s_ix (ha : PE X a (tV Γ a')) (hb : PE X b (tV Γ b')) (hp : plainE b = true) : PE X (.Subscript a b pos) (tV Γ (.ix a' b')) := by
  refine (pe_ix ix_seq ha hb (ix_plain hp)).imp (two (op2 := ixD) (fun ρ => by rw [ev]; try rfl) fun B O H v w x y d s z Q hB r1 r2 e k => ?_)
  cases x <;> cases y <;> simp only [ixD] at e <;> try cases e
  · obtain ⟨p, vs, rfl, h1, l1, q1⟩ := r1
    obtain ⟨u, h2, h3⟩ := q1.atI e
    exact .inl ⟨p, vs, _, u, rfl, r2.int, SqL.of h1, h2, k u H (Same.refl H) (.sh hB h3)⟩
  · obtain ⟨p, vs, rfl, h1, l1, q1⟩ := r1.tup
    obtain ⟨u, h2, h3⟩ := q1.atI e
    exact .inr (.inl ⟨p, vs, _, u, rfl, r2.int, SqT.of h1, h2, k u H (Same.refl H) (.sh hB h3)⟩)
/-! ### slices -/
def tPt (Γ : Tab) (l : XE) : TO := fun σ H Q => ∃ H0 B0 ρ d o, RE H0 B0 ρ σ H ∧ ev Γ l ρ = some d ∧ partD (isNoneE l) d = some o ∧ ∀ H', Same H H' → Q o H'
theorem po_imp {e : Option Expr} {t t' : TO} (h : PO X e t) (k : ∀ σ H Q, t' σ H Q → t σ H Q) : PO X e t' := ⟨fun pins s σ H Q I q => h.run pins s σ H Q I (k σ H Q q)⟩
theorem s_po0 : PO X none (tPt Γ (.cst .none)) := po_imp po_none fun σ H Q ⟨H0, B0, ρ, d, o, re, e, e2, k⟩ => by
  rw [ev] at e
  cases e
  cases e2
  exact k H (Same.refl H)
theorem s_po {e : Expr} {l : XE} (h : PE X e (tV Γ l)) (hn : isNoneE l = false) : PO X (some e) (tPt Γ l) := po_imp (po_some h) fun σ H Q ⟨H0, B0, ρ, d, o, re, e, e2, k⟩ => by
  rw [hn] at e2
  refine ⟨H0, B0, ρ, d, re, e, fun v H1 e1 r1 => ?_⟩
  cases d with
  | int i =>
    cases e2
    exact ⟨i, r1.rt.int, k H1 e1⟩
  | _ => cases e2
theorem cut_rp {B : Addr → Prop} {H : Hp} {vs : List V} {ds : List D} (h : RpAll B H vs ds) (lo hi : Option Int) : RpAll B H (cutV vs lo hi) (cutD ds lo hi) := by
  unfold cutV cutD
  rw [h.len]
  exact (h.drop _).take _
theorem s_sl {lo hi : Option Expr} {l' h' : XE} {p2 : Pos} (ha : PE X a (tV Γ a')) (hl : PO X lo (tPt Γ l')) (hh : PO X hi (tPt Γ h')) : PE X (.Subscript a (.Slice lo hi none p2) pos) (tV Γ (.sl a' l' h')) := by
  refine (pe_slice sl_list ha hl hh).imp fun σ H Q ⟨H0, B0, ρ, d, re, e, k⟩ => ?_
  rw [ev] at e
  split at e
  · rename_i x l h h1 h2 h3
    split at e
    · rename_i l2 h2' h4 h5
      refine ⟨H0, B0, ρ, x, re, h1, fun v H1 e1 r1 => ⟨H0, B0, ρ, l, l2, re.mono e1, h2, h4, fun H2 e2 => ⟨H0, B0, ρ, h, h2', (re.mono e1).mono e2, h3, h5, fun H3 e3 => ?_⟩⟩⟩
      have r := (r1.rt.mono e2).mono e3
      have re3 := ((re.mono e1).mono e2).mono e3
      cases x <;> simp only [slD] at e <;> cases e
      obtain ⟨p, vs, rfl, g1, g2, g3⟩ := r
      refine ⟨p, vs, rfl, SqL.of g1, fun q nq => k _ _ (((e1.trans e2).trans e3).trans (same_new nq)) ?_⟩
      exact (ResE.new re3.hB nq (Nat.le_trans (cutV_length vs l2 h2') g2) (cut_rp g3 l2 h2')).back ((e1.trans e2).trans e3)
    · cases e
  · cases e

/-! ### argument lists, displays -/
theorem s_nil : PA X [] (tVA Γ .nil) := pa_nil.imp fun σ H Q ⟨H0, B0, ρ, ds, re, e, k⟩ => by
  rw [evs] at e
  cases e
  exact k [] H (Same.refl H) trivial fun _ => .nil
theorem s_cons {as : List Expr} {as' : XEs} (ha : PE X a (tV Γ a')) (hr : PA X as (tVA Γ as')) (hp : plainE a = true) : PA X (a :: as) (tVA Γ (.cons a' as')) := by
  refine (pa_cons ha hr (star_plain hp as X.env)).imp fun σ H Q ⟨H0, B0, ρ, ds, re, e, k⟩ => ?_
  rw [evs] at e
  split at e
  · rename_i d ds' h1 h2
    cases e
    refine ⟨H0, B0, ρ, d, re, h1, fun v H1 e1 r1 => ⟨H0, B0, ρ, ds', re.mono e1, h2, fun vs H2 e2 r2 r3 => ?_⟩⟩
    refine k (v :: vs) H2 (e1.trans e2) ⟨r1.rt.mono e2, r2⟩ fun z => ?_
    rw [sfEs, Bool.and_eq_true] at z
    exact .cons ((r1.rp z.1).mono e2) (r3 z.2)
  · cases e
theorem s_lst {as : List Expr} {as' : XEs} (h : PA X as (tVA Γ as')) : PE X (.List as pos) (tV Γ (.lst as')) := by
  refine (pe_lst h).imp fun σ H Q ⟨H0, B0, ρ, d, re, e, k⟩ => ?_
  rw [ev] at e
  split at e
  · rename_i ds h1
    split at e
    · rename_i hh
      cases e
      refine ⟨H0, B0, ρ, ds, re, h1, fun vs H1 e1 r1 r2 => ?_⟩
      have q := r2 hh.1
      have hl : vs.length ≤ lim := by rw [q.len]; exact hh.2
      exact ⟨limOk hl, fun p np => k _ _ (e1.trans (same_new np)) ((ResE.new (re.mono e1).hB np hl q).back e1)⟩
    · cases e
  · cases e
theorem s_tup {as : List Expr} {as' : XEs} {kk : Nat} (h : PA X as (tVA Γ as')) : PE X (.Tuple as kk pos) (tV Γ (.tup as')) := by
  refine (pe_tup h).imp fun σ H Q ⟨H0, B0, ρ, d, re, e, k⟩ => ?_
  rw [ev] at e
  split at e
  · rename_i ds h1
    split at e
    · rename_i hh
      cases e
      refine ⟨H0, B0, ρ, ds, re, h1, fun vs H1 e1 r1 r2 => ?_⟩
      have q := r2 hh.1
      have hl : vs.length ≤ lim := by rw [q.len]; exact hh.2
      exact ⟨limOk hl, fun p np => k _ _ (e1.trans (same_new np)) ((ResE.newT (re.mono e1).hB np hl q).back e1)⟩
    · cases e
  · cases e

/-! ### calls -/
theorem s_call {x : Str} {p : Pos} {k : Nat} {sg : Sig} {e : Expr} {es : List Expr} {as' : XEs} (F : FnV X.prog X.w X.K X.mg X.base k x sg) (hΓ : Γ x = some sg) (hr : Room k X.A) (hg : Gl X x) (hdb : (x == ("__debug__" : Str)) = false)
    (ha : PA X (e :: es) (tVA Γ as')) (hp : ∀ e' ∈ e :: es, plainE e' = true) : PE X (.Call (.Name x p) (e :: es) [] pos) (tV Γ (.call x as')) := by
  obtain ⟨ad, fd, ps, h1, h2, h3, h4⟩ := F.ex
  refine (pe_call h3 hr hg h1 h2 h4 .nil pass0 ha hdb (star_plain (hp e List.mem_cons_self) es X.env) (star_any fun e' he => hp e' (List.mem_cons_of_mem _ he))).imp fun σ H Q ⟨H0, B0, ρ, d, re, e, kk⟩ => ?_
  rw [ev] at e
  split at e
  · rename_i sg' ds e1 e2
    rw [hΓ] at e1
    cases e1
    split at e
    · rename_i hh
      refine ⟨H0, B0, ρ, ds, re, e2, fun vs H1 e1 r1 r2 => ?_⟩
      have re1 := re.mono e1
      refine ⟨Bad B0 ρ σ, ds, d, fun p hb => re1.badL hb, by simpa using r1, fun z => by simpa using r2 (hh.1 z), hh.2, e, fun v H' s1 r fr => kk v H' (e1.trans s1) ?_⟩
      refine ⟨r.rt, fun _ => r, fun _ q eq z => by subst eq; exact r.top (.inr z), fun z es ee => ?_⟩
      have hz : sg.fr = true := by simpa [frE, hΓ] using z
      obtain ⟨b, ws, y1, y2, y3⟩ := fr hz es ee
      exact ⟨b, ws, y1, e1.free y2, y3⟩
    · cases e
  · cases e

/-- built-in calls by values -/
theorem RtAll.one {B : Addr → Prop} {H : Hp} {vs : List V} {d : D} (h : RtAll B H vs [d]) : ∃ v, vs = [v] ∧ Rt B H v d := by
  match vs, h with
  | [v], ⟨h, _⟩ => exact ⟨v, rfl, h⟩
theorem RtAll.two {B : Addr → Prop} {H : Hp} {vs : List V} {d e : D} (h : RtAll B H vs [d, e]) : ∃ v w, vs = [v, w] ∧ Rt B H v d ∧ Rt B H w e := by
  match vs, h with
  | [v, w], ⟨h, h2, _⟩ => exact ⟨v, w, rfl, h, h2⟩
theorem bi_in {f : BI} {as' : XEs} {r : List V → Hp → VK → Prop}
    (hr : ∀ (B O : Addr → Prop) (H : Hp) (vs : List V) (ds : List D) (d : D) (s z : Bool) (Q : VK), BO B O H → RtAll B H vs ds → biD f ds = some d → (∀ u H', Same H H' → ResE B O H H' (frBi f) s z u d → Q u H') → r vs H Q) :
    ∀ σ H Q, tV Γ (.bi f as') σ H Q → tCB r (tVA Γ as') σ H Q := by
  intro σ H Q ⟨H0, B0, ρ, d, re, e, k⟩
  rw [ev] at e
  split at e
  · rename_i ds h1
    refine ⟨H0, B0, ρ, ds, re, h1, fun vs H1 e1 r1 _ => ?_⟩
    exact hr _ _ _ _ _ _ _ _ _ (re.mono e1).hB r1 e fun u H' e2 r2 => k u H' (e1.trans e2) (r2.back e1)
  · cases e
theorem sortI_perm : ∀ ns : List Int, (sortI ns).Perm ns
  | [] => .nil
  | x :: r => by
    have ins : ∀ (x : Int) (l : List Int), (insI x l).Perm (x :: l) := by
      intro x l
      induction l with
      | nil => exact .refl _
      | cons y l ih =>
        unfold insI
        split
        · exact .refl _
        · exact (ih.cons y).trans (.swap x y l)
    exact (ins x (sortI r)).trans ((sortI_perm r).cons x)
theorem insI_mem {x y : Int} : ∀ {l : List Int}, y ∈ insI x l → y = x ∨ y ∈ l
  | [], h => by simp [insI] at h; exact .inl h
  | z :: l, h => by
    unfold insI at h
    split at h
    · simpa using h
    · rcases List.mem_cons.mp h with h | h
      · exact .inr (by simp [h])
      · rcases insI_mem h with h | h
        · exact .inl h
        · exact .inr (by simp [h])
theorem insI_sorted {x : Int} : ∀ {l : List Int}, l.Pairwise (· ≤ ·) → (insI x l).Pairwise (· ≤ ·)
  | [], _ => by simp [insI]
  | y :: l, h => by
    unfold insI
    have h' := List.pairwise_cons.mp h
    split
    · rename_i hxy
      refine List.pairwise_cons.mpr ⟨fun z hz => ?_, h⟩
      rcases List.mem_cons.mp hz with rfl | hz
      · exact hxy
      · exact Int.le_trans hxy (h'.1 z hz)
    · rename_i hxy
      refine List.pairwise_cons.mpr ⟨fun z hz => ?_, insI_sorted h'.2⟩
      rcases insI_mem hz with rfl | hz
      · omega
      · exact h'.1 z hz
theorem sortI_sorted : ∀ ns : List Int, (sortI ns).Pairwise (· ≤ ·)
  | [] => .nil
  | x :: r => insI_sorted (sortI_sorted r)
theorem sorted_one {a b : List Int} (p : a.Perm b) (ha : a.Pairwise (· ≤ ·)) (hb : b.Pairwise (· ≤ ·)) : a = b :=
  p.eq_of_pairwise (fun x y _ _ h1 h2 => Int.le_antisymm h1 h2) ha hb
theorem lenV_rt {K : PySem.W.Frag} {B : Addr → Prop} {H : Hp} {v : V} {ds : List D} (h : Rt B H v (.list ds)) : LenV K v H ds.length := by
  obtain ⟨p, vs, rfl, h1, h2, h3⟩ := h
  exact .inl ⟨vs, SqL.of h1, h3.len.symm⟩
theorem lenV_tup {K : PySem.W.Frag} {B : Addr → Prop} {H : Hp} {v : V} {ds : List D} (h : Rt B H v (.tuple ds)) : LenV K v H ds.length := by
  obtain ⟨p, vs, rfl, h1, h2, h3⟩ := h.tup
  exact .inr ⟨vs, SqT.of h1, h3.len.symm⟩
theorem s_biF {f : BI} {id : String} {x : Str} {p : Pos} {r : List V → Hp → VK → Prop} {e : Expr} {es : List Expr} {as' : XEs} (hc : CallR X (.builtin id) r) (hg : Gl X x) (hm : X.mg x = none) (hv : bootBuiltins x = some (.builtin id)) (hn : x ≠ "__name__") (hdb : (x == ("__debug__" : Str)) = false)
    (ha : PA X (e :: es) (tVA Γ as')) (hp : ∀ e' ∈ e :: es, plainE e' = true)
    (hr : ∀ (B O : Addr → Prop) (H : Hp) (vs : List V) (ds : List D) (d : D) (s z : Bool) (Q : VK), BO B O H → RtAll B H vs ds → biD f ds = some d → (∀ u H', Same H H' → ResE B O H H' (frBi f) s z u d → Q u H') → r vs H Q) :
    PE X (.Call (.Name x p) (e :: es) [] pos) (tV Γ (.bi f as')) :=
  (pe_callB hc hg hm hv ha hn hdb (star_plain (hp e List.mem_cons_self) es X.env) (star_any fun e' he => hp e' (List.mem_cons_of_mem _ he))).imp (bi_in hr)
theorem s_biT {f : BI} {id : String} {x : Str} {p : Pos} {r : List V → Hp → VK → Prop} {e : Expr} {es : List Expr} {as' : XEs} (hc : CallR X (.type id) r) (hg : Gl X x) (hm : X.mg x = none) (hv : bootBuiltins x = some (.type id)) (hn : x ≠ "__name__") (hdb : (x == ("__debug__" : Str)) = false)
    (ha : PA X (e :: es) (tVA Γ as')) (hp : ∀ e' ∈ e :: es, plainE e' = true)
    (hr : ∀ (B O : Addr → Prop) (H : Hp) (vs : List V) (ds : List D) (d : D) (s z : Bool) (Q : VK), BO B O H → RtAll B H vs ds → biD f ds = some d → (∀ u H', Same H H' → ResE B O H H' (frBi f) s z u d → Q u H') → r vs H Q) :
    PE X (.Call (.Name x p) (e :: es) [] pos) (tV Γ (.bi f as')) :=
  (pe_callTy hc hg hm hv ha hn hdb (star_plain (hp e List.mem_cons_self) es X.env) (star_any fun e' he => hp e' (List.mem_cons_of_mem _ he))).imp (bi_in hr)
theorem bt_len : bootBuiltins "len" = some (.builtin "len") := by decide +kernel
theorem bt_abs : bootBuiltins "abs" = some (.builtin "abs") := by decide +kernel
theorem bt_max : bootBuiltins "max" = some (.builtin "max") := by decide +kernel
theorem bt_sum : bootBuiltins "sum" = some (.builtin "sum") := by decide +kernel
theorem bt_all : bootBuiltins "all" = some (.builtin "all") := by decide +kernel
theorem bt_any : bootBuiltins "any" = some (.builtin "any") := by decide +kernel
theorem bt_sorted : bootBuiltins "sorted" = some (.builtin "sorted") := by decide +kernel
theorem bt_isi : bootBuiltins "isinstance" = some (.builtin "isinstance") := by decide +kernel
theorem bt_int : bootBuiltins "int" = some (.type "int") := by decide +kernel
theorem bt_list : bootBuiltins "list" = some (.type "list") := by decide +kernel
theorem bt_tuple : bootBuiltins "tuple" = some (.type "tuple") := by decide +kernel
theorem bt_bool : bootBuiltins "bool" = some (.type "bool") := by decide +kernel
theorem bt_str : bootBuiltins "str" = some (.type "str") := by decide +kernel
theorem s_bi {f : BI} {x : Str} {p : Pos} {e : Expr} {es : List Expr} {as' : XEs} (hb : biOf x = some f) (hc : X.calm = true) (hg : Gl X x) (hm : X.mg x = none) (hn : x ≠ "__name__") (hdb : (x == ("__debug__" : Str)) = false)
    (ha : PA X (e :: es) (tVA Γ as')) (hp : ∀ e' ∈ e :: es, plainE e' = true) : PE X (.Call (.Name x p) (e :: es) [] pos) (tV Γ (.bi f as')) := by
  unfold biOf at hb
  split at hb
  · rename_i hx
    cases hb
    subst hx
    refine s_biF call_len hg hm bt_len hn hdb ha hp fun B O H vs ds d s z Q hB r e k => ?_
    unfold biD at e
    split at e <;> (try contradiction) <;> (try cases e)
    · obtain ⟨v, rfl, r1⟩ := r.one
      exact ⟨v, _, rfl, lenV_rt r1, k _ H (Same.refl H) (.of hB (.int _) rfl)⟩
    · obtain ⟨v, rfl, r1⟩ := r.one
      exact ⟨v, _, rfl, lenV_tup r1, k _ H (Same.refl H) (.of hB (.int _) rfl)⟩
  split at hb
  · rename_i hx
    cases hb
    subst hx
    refine s_biF call_abs hg hm bt_abs hn hdb ha hp fun B O H vs ds d s z Q hB r e k => ?_
    unfold biD at e
    split at e <;> (try contradiction) <;> (try cases e)
    obtain ⟨v, rfl, r1⟩ := r.one
    exact ⟨_, by rw [r1.int], k _ H (Same.refl H) (.of hB (.int _) rfl)⟩
  split at hb
  · rename_i hx
    cases hb
    subst hx
    refine s_biT call_int1 hg hm bt_int hn hdb ha hp fun B O H vs ds d s z Q hB r e k => ?_
    unfold biD at e
    split at e <;> (try contradiction) <;> (try cases e)
    · obtain ⟨v, rfl, r1⟩ := r.one
      exact .inl ⟨_, by rw [r1.int], k _ H (Same.refl H) (.of hB (.int _) rfl)⟩
    · obtain ⟨v, rfl, r1⟩ := r.one
      exact .inr ⟨_, by rw [r1.bool], k _ H (Same.refl H) (.of hB (.int _) rfl)⟩
  split at hb
  · rename_i hx
    cases hb
    subst hx
    refine s_biF (call_max2 hc) hg hm bt_max hn hdb ha hp fun B O H vs ds d s z Q hB r e k => ?_
    unfold biD at e
    split at e <;> (try contradiction) <;> (try cases e)
    obtain ⟨v, w, rfl, r1, r2⟩ := r.two
    exact ⟨_, _, by rw [r1.int, r2.int], k _ H (Same.refl H) (.of hB (.int _) rfl)⟩
  split at hb
  · rename_i hx
    cases hb
    subst hx
    refine s_biT call_list_of hg hm bt_list hn hdb ha hp fun B O H vs ds d s z Q hB r e k => ?_
    unfold biD at e
    split at e <;> (try contradiction) <;> (try cases e)
    · obtain ⟨v, rfl, p, ws, rfl, h1, h2, h3⟩ := r.one
      exact ⟨p, ws, rfl, .inl (SqL.of h1), fun l nl => k _ _ (same_new nl) (.new hB nl h2 h3)⟩
    · obtain ⟨v, rfl, r1⟩ := r.one
      obtain ⟨p, ws, rfl, h1, h2, h3⟩ := r1.tup
      exact ⟨p, ws, rfl, .inr (SqT.of h1), fun l nl => k _ _ (same_new nl) (.new hB nl h2 h3)⟩
  split at hb
  · rename_i hx
    cases hb
    subst hx
    refine s_biT call_tuple_of hg hm bt_tuple hn hdb ha hp fun B O H vs ds d s z Q hB r e k => ?_
    unfold biD at e
    split at e <;> (try contradiction) <;> (try cases e)
    obtain ⟨v, rfl, p, ws, rfl, h1, h2, h3⟩ := r.one
    exact ⟨p, ws, rfl, .inl ⟨SqL.of h1, fun l nl => k _ _ (same_new nl) (.newT hB nl h2 h3)⟩⟩
  split at hb
  · rename_i hx
    cases hb
    subst hx
    refine s_biF (cr_sum hc) hg hm bt_sum hn hdb ha hp fun B O H vs ds d s z Q hB r e k => ?_
    unfold biD at e
    split at e <;> (try contradiction) <;> (try cases e)
    rw [Option.map_eq_some_iff] at e
    obtain ⟨ns, e1, rfl⟩ := e
    obtain ⟨v, rfl, p, ws, rfl, h1, h2, h3⟩ := r.one
    rw [h3.ints e1] at h1
    exact ⟨p, ns, rfl, SqL.of h1, k _ H (Same.refl H) (.of hB (.int _) rfl)⟩
  split at hb
  · rename_i hx
    cases hb
    subst hx
    refine s_biF (cr_all hc) hg hm bt_all hn hdb ha hp fun B O H vs ds d s z Q hB r e k => ?_
    unfold biD at e
    split at e <;> (try contradiction) <;> (try cases e)
    rw [Option.map_eq_some_iff] at e
    obtain ⟨ns, e1, rfl⟩ := e
    obtain ⟨v, rfl, p, ws, rfl, h1, h2, h3⟩ := r.one
    rw [h3.bls e1] at h1
    exact ⟨p, ns, rfl, SqL.of h1, k _ H (Same.refl H) (.of hB (.bl _) rfl)⟩
  split at hb
  · rename_i hx
    cases hb
    subst hx
    refine s_biF (cr_any hc) hg hm bt_any hn hdb ha hp fun B O H vs ds d s z Q hB r e k => ?_
    unfold biD at e
    split at e <;> (try contradiction) <;> (try cases e)
    rw [Option.map_eq_some_iff] at e
    obtain ⟨ns, e1, rfl⟩ := e
    obtain ⟨v, rfl, p, ws, rfl, h1, h2, h3⟩ := r.one
    rw [h3.bls e1] at h1
    exact ⟨p, ns, rfl, SqL.of h1, k _ H (Same.refl H) (.of hB (.bl _) rfl)⟩
  split at hb
  · rename_i hx
    cases hb
    subst hx
    refine s_biF cr_sorted hg hm bt_sorted hn hdb ha hp fun B O H vs ds d s z Q hB r e k => ?_
    unfold biD at e
    split at e <;> (try contradiction) <;> (try cases e)
    split at e <;> try cases e
    rename_i h64
    rw [Option.map_eq_some_iff] at e
    obtain ⟨ns, e1, rfl⟩ := e
    obtain ⟨v, rfl, p, ws, rfl, h1, h2, h3⟩ := r.one
    have e2 := h3.ints e1
    have hl : ns.length < 64 := by
      have := h3.len
      rw [e2, List.length_map] at this
      omega
    rw [e2] at h1
    refine ⟨p, ns, rfl, SqL.of h1, hl, fun ns' q pm pw nq => ?_⟩
    have e3 : ns' = sortI ns := sorted_one (pm.trans (sortI_perm ns).symm) pw (sortI_sorted ns)
    subst e3
    exact k _ _ (same_new nq) (.new hB nq (by rw [List.length_map, (sortI_perm ns).length_eq]; exact Nat.le_trans (Nat.le_of_lt hl) (by decide)) rpAll_ints)
  cases hb

/-! ### isinstance -/
def tyS : TY → String
  | .int => "int"
  | .bool => "bool"
  | .tuple => "tuple"
  | .list => "list"
  | .str => "str"
theorem kit_int {K : PySem.W.Frag} : ∀ t : TY, PySem.W.kitOne K (.type "int") (.type (tyS t)) = some (match t with | .int => true | _ => false)
  | .int => kit_ty (by decide +kernel)
  | .bool => kit_ty (by decide +kernel)
  | .tuple => kit_ty (by decide +kernel)
  | .list => kit_ty (by decide +kernel)
  | .str => kit_ty (by decide +kernel)
theorem kit_bool {K : PySem.W.Frag} : ∀ t : TY, PySem.W.kitOne K (.type "bool") (.type (tyS t)) = some (match t with | .int => true | .bool => true | _ => false)
  | .int => kit_ty (by decide +kernel)
  | .bool => kit_ty (by decide +kernel)
  | .tuple => kit_ty (by decide +kernel)
  | .list => kit_ty (by decide +kernel)
  | .str => kit_ty (by decide +kernel)
theorem kit_non {K : PySem.W.Frag} : ∀ t : TY, PySem.W.kitOne K (.type "NoneType") (.type (tyS t)) = some false
  | .int => kit_ty (by decide +kernel)
  | .bool => kit_ty (by decide +kernel)
  | .tuple => kit_ty (by decide +kernel)
  | .list => kit_ty (by decide +kernel)
  | .str => kit_ty (by decide +kernel)
theorem kit_str {K : PySem.W.Frag} : ∀ t : TY, PySem.W.kitOne K (.type "str") (.type (tyS t)) = some (match t with | .str => true | _ => false)
  | .int => kit_ty (by decide +kernel)
  | .bool => kit_ty (by decide +kernel)
  | .tuple => kit_ty (by decide +kernel)
  | .list => kit_ty (by decide +kernel)
  | .str => kit_ty (by decide +kernel)
theorem kit_list {K : PySem.W.Frag} : ∀ t : TY, PySem.W.kitOne K (.type "list") (.type (tyS t)) = some (match t with | .list => true | _ => false)
  | .int => kit_ty (by decide +kernel)
  | .bool => kit_ty (by decide +kernel)
  | .tuple => kit_ty (by decide +kernel)
  | .list => kit_ty (by decide +kernel)
  | .str => kit_ty (by decide +kernel)
theorem kit_tuple {K : PySem.W.Frag} : ∀ t : TY, PySem.W.kitOne K (.type "tuple") (.type (tyS t)) = some (match t with | .tuple => true | _ => false)
  | .int => kit_ty (by decide +kernel)
  | .bool => kit_ty (by decide +kernel)
  | .tuple => kit_ty (by decide +kernel)
  | .list => kit_ty (by decide +kernel)
  | .str => kit_ty (by decide +kernel)
theorem isi_kit {K : PySem.W.Frag} {B : Addr → Prop} {H : Hp} {v : V} {d : D} {t : TY} {k : Bool} (r : Rt B H v d) (e : isiD d t = some k) : ∃ u, TyX K H v u ∧ PySem.W.kitOne K u (.type (tyS t)) = some k := by
  cases d with
  | none => rw [r.non]; cases t <;> cases e <;> exact ⟨_, .base .non, kit_non _⟩
  | bool b => rw [r.bool]; cases t <;> cases e <;> exact ⟨_, .base (.bl b), kit_bool _⟩
  | int i => rw [r.int]; cases t <;> cases e <;> exact ⟨_, .base (.int i), kit_int _⟩
  | str x => rw [r.str]; cases t <;> cases e <;> exact ⟨_, .base (.str x), kit_str _⟩
  | list ds =>
    obtain ⟨p, vs, rfl, h1, _, _⟩ := r
    cases t <;> cases e <;> exact ⟨_, .base (.lst h1), kit_list _⟩
  | tuple ds =>
    obtain ⟨p, vs, rfl, h1, _, _⟩ := r.tup
    cases t <;> cases e <;> exact ⟨_, .base (.tup h1), kit_tuple _⟩
  | dict ds => cases (show Rp B H v _ from r)
theorem ty_name {t : Str} {T : TY} (h : tyOf t = some T) : bootBuiltins t = some (.type (tyS T)) := by
  unfold tyOf at h
  split at h
  · rename_i e; cases h; subst e; exact bt_int
  split at h
  · rename_i e; cases h; subst e; exact bt_bool
  split at h
  · rename_i e; cases h; subst e; exact bt_tuple
  split at h
  · rename_i e; cases h; subst e; exact bt_list
  split at h
  · rename_i e; cases h; subst e; exact bt_str
  cases h
theorem ty_not {t : Str} {T : TY} (h : tyOf t = some T) : t ≠ "__name__" ∧ (t == ("__debug__" : Str)) = false := by
  unfold tyOf at h
  split at h
  · rename_i e; cases h; subst e; decide +kernel
  split at h
  · rename_i e; cases h; subst e; decide +kernel
  split at h
  · rename_i e; cases h; subst e; decide +kernel
  split at h
  · rename_i e; cases h; subst e; decide +kernel
  split at h
  · rename_i e; cases h; subst e; decide +kernel
  cases h
theorem s_isi {t : Str} {T : TY} {p p2 : Pos} (hT : tyOf t = some T) (hg : Gl X "isinstance") (hm : X.mg "isinstance" = none) (hgt : Gl X t) (hmt : X.mg t = none) (ha : PE X a (tV Γ a')) (hp : plainE a = true) :
    PE X (.Call (.Name "isinstance" p) [a, .Name t p2] [] pos) (tV Γ (.isi a' T)) := by
  have hn := ty_not hT
  refine (pe_callB call_isi hg hm bt_isi (pa_cons ha (pa_cons (pe_bltn (v := .ty (tyS T)) hgt hmt (ty_name hT) rfl hn.1 hn.2) pa_nil) (star_plain hp _ _)) (by decide +kernel) (by decide +kernel) (star_plain hp _ _) (by rfl)).imp fun σ H Q ⟨H0, B0, ρ, d, re, e, k⟩ => ?_
  rw [ev] at e
  split at e
  · rename_i x h1
    rw [Option.map_eq_some_iff] at e
    obtain ⟨b, e1, rfl⟩ := e
    refine ⟨H0, B0, ρ, x, re, h1, fun v H1 s1 r1 => ?_⟩
    obtain ⟨u, h2, h3⟩ := isi_kit (K := X.K) r1.rt e1
    exact ⟨v, _, u, _, b, rfl, .ty _, h2, h3, k _ H1 s1 (.of re.hB (.bl _) rfl)⟩
  · cases e
end
end VI
set_option Elab.async false
set_option linter.all false
set_option maxRecDepth 100000
set_option maxHeartbeats 1000000
/-! VI5: what is stored in slots; what is walked. -/
namespace VI
open PySem PySem.Spec PyProof.Rows L2

section
variable {H0 H H1 H' : Hp} {B0 : Addr → Prop} {ρ : Env} {σ : L2.St} {i : Nat} {v : V} {d : D}
theorem getset {α : Type} {l : List α} {i j : Nat} {x y : α} (h : (l.set i x)[j]? = some y) : (j = i ∧ x = y ∧ i < l.length) ∨ (j ≠ i ∧ l[j]? = some y) := by
  by_cases e : j = i
  · subst e
    have hl : j < l.length := by
      have := (List.getElem?_eq_some_iff.mp h).1
      simpa using this
    rw [List.getElem?_set_self hl] at h
    exact .inl ⟨rfl, Option.some.inj h, hl⟩
  · rw [List.getElem?_set_ne (Ne.symm e)] at h
    exact .inr ⟨e, h⟩
theorem set_at {α : Type} {l : List α} {i : Nat} {x : α} (h : i < l.length) : (l.set i x)[i]? = some x := List.getElem?_set_self h
theorem set_ne {α : Type} {l : List α} {i j : Nat} {x : α} (h : j ≠ i) : (l.set i x)[j]? = l[j]? := List.getElem?_set_ne (Ne.symm h)
theorem own_set {s : Sta} (hs : s ≠ .own) {p : Addr} (h : Own (ρ.set i (some (s, d))) (σ.set i (some v)) p) : Own ρ σ p := by
  obtain ⟨j, e, h1, h2⟩ := h
  rcases getset h1 with ⟨_, e1, _⟩ | ⟨ne, h1⟩
  · exact absurd (congrArg Prod.fst (Option.some.inj e1)) hs
  · rw [set_ne ne] at h2
    exact ⟨j, e, h1, h2⟩
theorem Rt.there {B : Addr → Prop} {H : Hp} {a : Addr} {d : D} (h : Rt B H (.ref a) d) : H a ≠ none := by
  cases d with
  | list ds => obtain ⟨q, vs, e, g, _⟩ := h; cases e; rw [g]; exact fun z => nomatch z
  | tuple ds => obtain ⟨q, vs, e, g, _⟩ := h.tup; cases e; rw [g]; exact fun z => nomatch z
  | _ => cases (show Rp _ _ _ _ from h)
/-- a slot is given a shared value, or one that is an argument's -/
theorem RE.put {s : Sta} (re : RE H0 B0 ρ σ H) (hi : i < ρ.length) (hs : s ≠ .own) (h1 : s = .shr → Rp (Bad B0 ρ σ) H v d) (h2 : s = .arg → Rt (Bad B0 ρ σ) H v d ∧ ∀ p, v = .ref p → ¬ Own ρ σ p) :
    RE H0 B0 (ρ.set i (some (s, d))) (σ.set i (some v)) H := by
  have hb : ∀ p, Bad B0 (ρ.set i (some (s, d))) (σ.set i (some v)) p → Bad B0 ρ σ p := fun p h => h.elim .inl fun h => .inr (own_set hs h)
  have hl : i < σ.length := by rw [re.len]; exact hi
  refine ⟨re.ext, re.bad, by simp [re.len], fun j e h => ?_, fun j e h => ?_, fun j e h => ?_, fun j k e f p a b c q => ?_⟩
  · rcases getset h with ⟨rfl, e1, _⟩ | ⟨ne, h⟩
    · cases e1
      exact ⟨v, set_at hl, (h1 rfl).less hb⟩
    · obtain ⟨u, a, b⟩ := re.shr j e h
      exact ⟨u, by rw [set_ne ne]; exact a, b.less hb⟩
  · rcases getset h with ⟨rfl, e1, _⟩ | ⟨ne, h⟩
    · cases e1
      exact ⟨v, set_at hl, (h2 rfl).1.less hb, fun p e z => (h2 rfl).2 p e (own_set hs z)⟩
    · obtain ⟨u, a, b, n⟩ := re.arg j e h
      exact ⟨u, by rw [set_ne ne]; exact a, b.less hb, fun p e z => n p e (own_set hs z)⟩
  · rcases getset h with ⟨rfl, e1, _⟩ | ⟨ne, h⟩
    · exact absurd (congrArg Prod.fst (Option.some.inj e1)) hs
    · obtain ⟨q, vs, ds, a, b, c, l, n, r⟩ := re.own j e h
      exact ⟨q, vs, ds, a, by rw [set_ne ne]; exact b, c, l, n, r.less hb⟩
  · rcases getset a with ⟨_, e1, _⟩ | ⟨na, a⟩
    · exact absurd (congrArg Prod.fst (Option.some.inj e1)) hs
    · rcases getset b with ⟨_, e1, _⟩ | ⟨nb, b⟩
      · exact absurd (congrArg Prod.fst (Option.some.inj e1)) hs
      · rw [set_ne na] at c
        rw [set_ne nb] at q
        exact re.dist j k e f p a b c q
/-- a slot is given a new list -/
theorem RE.putN {a : Addr} {vs : List V} {ds : List D} (re : RE H0 B0 ρ σ H) (hi : i < ρ.length) (e : Same H H') (n : H a = none) (h1 : H' a = some (.lst vs)) (hl : vs.length ≤ lim) (r : RpAll (fun q => Bad B0 ρ σ q ∨ q = a) H' vs ds) :
    RE H0 B0 (ρ.set i (some (.own, .list ds))) (σ.set i (some (.ref a))) H' := by
  have hb : ∀ p, Bad B0 (ρ.set i (some (.own, .list ds))) (σ.set i (some (.ref a))) p → Bad B0 ρ σ p ∨ p = a := fun p h => by
    rcases h with h | ⟨j, x, h2, h3⟩
    · exact .inl (.inl h)
    · rcases getset h2 with ⟨rfl, _, hlt⟩ | ⟨ne, h2⟩
      · rw [set_at (by rw [re.len]; exact hlt)] at h3
        cases h3
        exact .inr rfl
      · rw [set_ne ne] at h3
        exact .inl (.inr ⟨j, x, h2, h3⟩)
  have hls : i < σ.length := by rw [re.len]; exact hi
  have k : ∀ b o, H b = some o → ¬ Bad B0 ρ σ b → H' b = some o ∧ ¬ Bad B0 (ρ.set i (some (.own, .list ds))) (σ.set i (some (.ref a))) b := fun b o q nb =>
    ⟨e b o q, fun z => (hb b z).elim nb fun z => by rw [z, n] at q; cases q⟩
  refine ⟨re.ext.trans e, re.bad, by simp [re.len], fun j x h => ?_, fun j x h => ?_, fun j x h => ?_, fun j m x y p h2 h3 h4 h5 => ?_⟩
  · rcases getset h with ⟨rfl, e1, _⟩ | ⟨ne, h⟩
    · cases e1
    · obtain ⟨u, y, b⟩ := re.shr j x h
      exact ⟨u, by rw [set_ne ne]; exact y, b.tr k⟩
  · rcases getset h with ⟨rfl, e1, _⟩ | ⟨ne, h⟩
    · cases e1
    · obtain ⟨u, y, b, nn⟩ := re.arg j x h
      refine ⟨u, by rw [set_ne ne]; exact y, b.tr k fun c ws q => e _ _ q, fun p ep ⟨m, x', h2, h3⟩ => ?_⟩
      rcases getset h2 with ⟨rfl, _, _⟩ | ⟨nm, h2⟩
      · rw [set_at hls] at h3
        cases h3
        subst ep
        exact b.there n
      · rw [set_ne nm] at h3
        exact nn p ep ⟨m, x', h2, h3⟩
  · rcases getset h with ⟨rfl, e1, _⟩ | ⟨ne, h⟩
    · cases e1
      exact ⟨a, vs, ds, rfl, set_at hls, h1, hl, re.ext.free n, r.less hb⟩
    · obtain ⟨q, ws, es, y, b, c, l, nn, rr⟩ := re.own j x h
      exact ⟨q, ws, es, y, by rw [set_ne ne]; exact b, e _ _ c, l, nn, rr.tr k⟩
  · have old : ∀ (j : Nat) (x : D), j ≠ i → ρ[j]? = some (some (Sta.own, x)) → σ[j]? = some (some (V.ref a)) → False := fun j x _ q1 q2 => by
      obtain ⟨q, ws, es, _, b, c, _⟩ := re.own j x q1
      rw [q2] at b
      cases b
      rw [n] at c
      cases c
    rcases getset h2 with ⟨rfl, _, _⟩ | ⟨na, h2⟩
    · rw [set_at hls] at h4
      cases h4
      rcases getset h3 with ⟨rfl, _, _⟩ | ⟨nb, h3⟩
      · rfl
      · rw [set_ne nb] at h5
        exact (old m y nb h3 h5).elim
    · rw [set_ne na] at h4
      rcases getset h3 with ⟨e3, _, _⟩ | ⟨nb, h3⟩
      · rw [e3, set_at hls] at h5
        cases h5
        exact (old j x na h2 h4).elim
      · rw [set_ne nb] at h5
        exact re.dist j m x y p h2 h3 h4 h5
/-- an own list's object is changed -/
theorem RE.mut {a : Addr} {ws : List V} {ds es : List D} (re : RE H0 B0 ρ σ H) (h : ρ[i]? = some (some (.own, .list ds))) (hσ : σ[i]? = some (some (.ref a))) (hl : ws.length ≤ lim) (r : RpAll (Bad B0 ρ σ) H ws es) :
    RE H0 B0 (ρ.set i (some (.own, .list es))) σ (upd H a (.lst ws)) := by
  have hi : i < ρ.length := (List.getElem?_eq_some_iff.mp h).1
  have ha : Own ρ σ a := ⟨i, _, h, hσ⟩
  have hn : H0 a = none := by
    obtain ⟨q, _, _, _, b, _, _, n, _⟩ := re.own i _ h
    rw [hσ] at b
    cases b
    exact n
  have ho : ∀ p, Own (ρ.set i (some (.own, .list es))) σ p → Own ρ σ p := fun p ⟨j, x, h1, h2⟩ => by
    rcases getset h1 with ⟨rfl, _, _⟩ | ⟨_, h1⟩
    · rw [hσ] at h2
      cases h2
      exact ha
    · exact ⟨j, x, h1, h2⟩
  have hb : ∀ p, Bad B0 (ρ.set i (some (.own, .list es))) σ p → Bad B0 ρ σ p := fun p h => h.elim .inl fun h => .inr (ho p h)
  have k : ∀ b o, H b = some o → ¬ Bad B0 ρ σ b → upd H a (.lst ws) b = some o ∧ ¬ Bad B0 (ρ.set i (some (.own, .list es))) σ b := fun b o q nb =>
    ⟨by rw [upd_ne (fun z => nb (by rw [z]; exact .inr ha))]; exact q, fun z => nb (hb b z)⟩
  refine ⟨fun b o q => ?_, re.bad, by simp [re.len], fun j x q => ?_, fun j x q => ?_, fun j x q => ?_, fun j m x y p h2 h3 h4 h5 => ?_⟩
  · rw [upd_ne (fun z => by rw [z, hn] at q; cases q)]
    exact re.ext b o q
  · rcases getset q with ⟨rfl, e1, _⟩ | ⟨ne, q⟩
    · cases e1
    · obtain ⟨u, y, b⟩ := re.shr j x q
      exact ⟨u, y, b.tr k⟩
  · rcases getset q with ⟨rfl, e1, _⟩ | ⟨ne, q⟩
    · cases e1
    · obtain ⟨u, y, b, nn⟩ := re.arg j x q
      refine ⟨u, y, ?_, fun p ep z => nn p ep (ho p z)⟩
      cases x with
      | list xs =>
        obtain ⟨c, us, rfl, g1, g2, g3⟩ := b
        exact ⟨c, us, rfl, by rw [upd_ne (fun z => nn c rfl (by rw [z]; exact ha))]; exact g1, g2, g3.tr k⟩
      | _ => exact Rp.tr k b
  · rcases getset q with ⟨rfl, e1, _⟩ | ⟨ne, q⟩
    · cases e1
      exact ⟨a, ws, es, rfl, hσ, upd_same, hl, hn, r.tr k⟩
    · obtain ⟨p, us, xs, y, b, c, l, nn, rr⟩ := re.own j x q
      refine ⟨p, us, xs, y, b, ?_, l, nn, rr.tr k⟩
      rw [upd_ne (fun z => by
        subst z
        exact ne (re.dist j i _ _ _ q h b hσ))]
      exact c
  · have h2' : ∃ x', ρ[j]? = some (some (Sta.own, x')) := by
      rcases getset h2 with ⟨rfl, _, _⟩ | ⟨_, h2⟩
      · exact ⟨_, h⟩
      · exact ⟨_, h2⟩
    have h3' : ∃ x', ρ[m]? = some (some (Sta.own, x')) := by
      rcases getset h3 with ⟨rfl, _, _⟩ | ⟨_, h3⟩
      · exact ⟨_, h⟩
      · exact ⟨_, h3⟩
    obtain ⟨x', h2'⟩ := h2'
    obtain ⟨y', h3'⟩ := h3'
    exact re.dist j m x' y' p h2' h3' h4 h5
/-- an own list is given away -/
theorem RE.give (re : RE H0 B0 ρ σ H) (h : ρ[i]? = some (some (.own, d))) : RE H0 B0 (ρ.set i (some (.shr, d))) σ H := by
  obtain ⟨p, vs, ds, rfl, b, c, l, n, r⟩ := re.own i d h
  have hi : i < ρ.length := (List.getElem?_eq_some_iff.mp h).1
  have ho : ∀ q, Own (ρ.set i (some (.shr, .list ds))) σ q → Own ρ σ q ∧ q ≠ p := fun q ⟨j, x, h1, h2⟩ => by
    rcases getset h1 with ⟨_, e1, _⟩ | ⟨ne, h1⟩
    · cases e1
    · exact ⟨⟨j, x, h1, h2⟩, fun z => ne (re.dist j i _ _ p h1 h (by rw [← z]; exact h2) b)⟩
  have hb : ∀ q, Bad B0 (ρ.set i (some (.shr, .list ds))) σ q → Bad B0 ρ σ q := fun q h => h.elim .inl fun h => .inr (ho q h).1
  refine ⟨re.ext, re.bad, by simp [re.len], fun j x q => ?_, fun j x q => ?_, fun j x q => ?_, fun j m x y q h2 h3 h4 h5 => ?_⟩
  · rcases getset q with ⟨rfl, e1, _⟩ | ⟨ne, q⟩
    · cases e1
      refine ⟨_, b, .lst c (fun z => ?_) l (r.less hb)⟩
      rcases z with z | z
      · obtain ⟨us, e⟩ := re.bad p z
        rw [n] at e
        cases e
      · exact (ho p z).2 rfl
    · obtain ⟨u, y, b⟩ := re.shr j x q
      exact ⟨u, y, b.less hb⟩
  · rcases getset q with ⟨rfl, e1, _⟩ | ⟨ne, q⟩
    · cases e1
    · obtain ⟨u, y, b, nn⟩ := re.arg j x q
      exact ⟨u, y, b.less hb, fun p ep z => nn p ep (ho p z).1⟩
  · rcases getset q with ⟨rfl, e1, _⟩ | ⟨ne, q⟩
    · cases e1
    · obtain ⟨p, us, xs, y, b, c, l, nn, rr⟩ := re.own j x q
      exact ⟨p, us, xs, y, b, c, l, nn, rr.less hb⟩
  · rcases getset h2 with ⟨_, e1, _⟩ | ⟨_, h2⟩
    · cases e1
    · rcases getset h3 with ⟨_, e1, _⟩ | ⟨_, h3⟩
      · cases e1
      · exact re.dist j m x y q h2 h3 h4 h5
theorem RE.dem (re : RE H0 B0 ρ σ H) (e : XE) : RE H0 B0 (VI.dem ρ e) σ H := by
  unfold VI.dem
  split
  · split
    · rename_i h
      exact re.give h
    · exact re
  · exact re
theorem RE.demI (re : RE H0 B0 ρ σ H) (it : XI) : RE H0 B0 (VI.demI ρ it) σ H := by
  unfold VI.demI
  split
  · exact re.dem _
  · exact re
  · exact (re.dem _).dem _
  · exact re.dem _
end

/-! ### targets -/
def gNs : List Nat → TGs
  | [] => gNil
  | i :: is => gCons (gName i) (gNs is)
def tgV (K : PySem.W.Frag) : XT → TG
  | .nm i => gName i
  | .tp js => fun v σ H Q => gTup K js.length (gNs js) v σ H Q ∨ gUnl K js.length (gNs js) v σ H Q
theorem wipe_at (σ : L2.St) : ∀ (us : List Nat) (j : Nat), (wipe σ us)[j]? = if j ∈ us ∧ j < σ.length then some none else σ[j]?
  | [], j => by simp [wipe]
  | u :: us, j => by
    unfold wipe
    by_cases e : u = j
    · subst e
      by_cases hl : u < σ.length
      · rw [List.getElem?_set_self (by rw [wipe_length]; exact hl), if_pos ⟨List.mem_cons_self, hl⟩]
      · rw [List.getElem?_eq_none (by rw [List.length_set, wipe_length]; omega), if_neg fun z => hl z.2, List.getElem?_eq_none (by omega)]
    · rw [List.getElem?_set_ne e, wipe_at σ us j]
      have : j ∈ u :: us ↔ j ∈ us := by simp [Ne.symm e]
      simp only [this]
theorem wipe_set {σ : L2.St} {us : List Nat} {i : Nat} {x : Option V} (h : i ∈ us) : wipe (σ.set i x) us = wipe σ us := by
  apply List.ext_getElem?
  intro j
  rw [wipe_at, wipe_at, List.length_set]
  by_cases e : j ∈ us ∧ j < σ.length
  · rw [if_pos e, if_pos e]
  · rw [if_neg e, if_neg e]
    by_cases ej : i = j
    · subst ej
      have hl : ¬ i < σ.length := fun z => e ⟨h, z⟩
      rw [List.getElem?_eq_none (by rw [List.length_set]; omega), List.getElem?_eq_none (by omega)]
    · rw [List.getElem?_set_ne ej]
theorem gNs_ok {H0 H : Hp} {B0 : Addr → Prop} : ∀ {js : List Nat} {ds : List D} {vs : List V} {ρ ρ' : Env} {σ : L2.St} {Q : L2.St → Hp → Prop}, RE H0 B0 ρ σ H → setAll ρ js ds = some ρ' → RpAll (Bad B0 ρ σ) H vs ds →
    (∀ σ', RE H0 B0 ρ' σ' H → (∀ us : List Nat, (∀ j ∈ js, j ∈ us) → wipe σ' us = wipe σ us) → Q σ' H) → gNs js vs σ H Q
  | [], [], _, ρ, ρ', σ, Q, re, e, .nil, k => by
    cases e
    exact ⟨rfl, k σ re fun _ _ => rfl⟩
  | i :: is, d :: ds, _, ρ, ρ', σ, Q, re, e, .cons h r, k => by
    simp only [setAll] at e
    split at e
    · rename_i hi
      refine ⟨_, _, rfl, ?_⟩
      refine gNs_ok (re.put hi (by decide) (fun _ => h) (fun z => by cases z)) e (r.less fun p z => z.elim .inl fun z => .inr (own_set (by decide) z)) fun σ' re' hw => k σ' re' fun us hu => ?_
      rw [hw us fun j hj => hu j (List.mem_cons_of_mem _ hj)]
      exact wipe_set (hu i List.mem_cons_self)
    · cases e
  | [], _ :: _, _, _, _, _, _, _, e, _, _ => by cases e
  | _ :: _, [], _, _, _, _, _, _, e, _, _ => by cases e
theorem setAll_len : ∀ (js : List Nat) (ds : List D) (ρ ρ' : Env), setAll ρ js ds = some ρ' → js.length = ds.length := by
  intro js
  induction js with
  | nil => intro ds ρ ρ' e; cases ds <;> first | rfl | cases e
  | cons j js ih =>
    intro ds ρ ρ' e
    cases ds with
    | nil => cases e
    | cons d ds =>
      simp only [setAll] at e
      split at e
      · simp [ih _ _ _ e]
      · cases e
theorem tgV_ok {K : PySem.W.Frag} {H0 H : Hp} {B0 : Addr → Prop} {t : XT} {d : D} {v : V} {ρ ρ' : Env} {σ : L2.St} {Q : L2.St → Hp → Prop} (re : RE H0 B0 ρ σ H) (e : setT ρ t d = some ρ') (r : Rt (Bad B0 ρ σ) H v d) (rp : (∃ i, t = .nm i) → Rp (Bad B0 ρ σ) H v d)
    (k : ∀ σ', RE H0 B0 ρ' σ' H → (∀ us : List Nat, tgIn t us = true → wipe σ' us = wipe σ us) → Q σ' H) : tgV K t v σ H Q := by
  cases t with
  | nm i =>
    simp only [setT] at e
    split at e
    · rename_i hi
      cases e
      refine k _ (re.put hi (by decide) (fun _ => rp ⟨i, rfl⟩) (fun z => by cases z)) fun us hu => wipe_set (by simpa [tgIn] using hu)
    · cases e
  | tp js =>
    have hw : ∀ {us : List Nat} {σ' : L2.St}, (∀ us : List Nat, (∀ j ∈ js, j ∈ us) → wipe σ' us = wipe σ us) → tgIn (.tp js) us = true → wipe σ' us = wipe σ us := fun {us σ'} hw hu => hw us fun j hj => by
      have := List.all_eq_true.mp (show js.all (fun i => us.contains i) = true from hu) j hj
      simpa using this
    cases d <;> simp only [setT] at e <;> try cases e
    · rename_i ds
      obtain ⟨a, vs, rfl, h, l, r⟩ := r
      exact .inr ⟨_, _, rfl, SqL.of h, by rw [r.len]; exact (setAll_len _ _ _ _ e).symm, gNs_ok re e r fun σ' re' h1 => k σ' re' fun us hu => hw h1 hu⟩
    · rename_i ds
      obtain ⟨a, vs, rfl, h, l, r⟩ := r.tup
      exact .inl ⟨_, _, rfl, SqT.of h, by rw [r.len]; exact (setAll_len _ _ _ _ e).symm, gNs_ok re e r fun σ' re' h1 => k σ' re' fun us hu => hw h1 hu⟩

/-! ### what is walked -/
open Classical in
noncomputable def gd (ρ : Env) (σ : L2.St) (H : Hp) : Hp := fun a => if Own ρ σ a then none else H a
theorem gd_some {ρ : Env} {σ : L2.St} {H : Hp} {a : Addr} {o : HO} : gd ρ σ H a = some o ↔ ¬ Own ρ σ a ∧ H a = some o := by
  unfold gd
  split <;> simp_all
theorem gd_none {ρ : Env} {σ : L2.St} {H : Hp} {a : Addr} (h : Own ρ σ a) : gd ρ σ H a = none := by
  unfold gd
  rw [if_pos h]
theorem gd_same {ρ : Env} {σ : L2.St} {H : Hp} : Same (gd ρ σ H) H := fun a o h => (gd_some.mp h).2
theorem RpAll.gd {B0 : Addr → Prop} {ρ : Env} {σ : L2.St} {H : Hp} {vs : List V} {ds : List D} (h : RpAll (Bad B0 ρ σ) H vs ds) : RpAll B0 (VI.gd ρ σ H) vs ds :=
  h.tr fun a o q n => ⟨gd_some.mpr ⟨fun z => n (.inr z), q⟩, fun z => n (.inl z)⟩
def Wk (B0 : Addr → Prop) (G : Hp) (J : It) (ds : List D) : Prop := ∀ (i : Nat) (Hi : Hp), Same G Hi → (i < ds.length → J.go i Hi) ∧ (ds.length ≤ i → J.stop i Hi) ∧
  ∀ x H', J.yld i Hi x H' → ∀ d, ds[i]? = some d → Same Hi H' ∧ ∀ B' : Addr → Prop, (∀ p, B' p → (B0 p ∨ G p = none) ∧ Hi p ≠ none) → Rp B' H' x d
def tVI (Γ : Tab) (it : XI) : TI := fun σ H R => ∃ H0 B0 ρ ds, RE H0 B0 ρ σ H ∧ evi Γ it ρ = some ds ∧ ∀ J H', Same H H' → Wk B0 (gd ρ σ H') J ds → R J H'
section
variable {B0 : Addr → Prop} {G : Hp} {K : PySem.W.Frag}
theorem rp_at {B' : Addr → Prop} {Hi : Hp} {v : V} {d : D} (e : Same G Hi) (hB : ∀ p, B' p → (B0 p ∨ G p = none) ∧ Hi p ≠ none) (h : Rp B0 G v d) : Rp B' Hi v d :=
  h.tr fun a o q n => ⟨e a o q, fun z => (hB a z).1.elim n fun z => by rw [z] at q; cases q⟩
theorem wk_list {p : Addr} {vs : List V} {ds : List D} (h : G p = some (.lst vs)) (r : RpAll B0 G vs ds) : Wk B0 G (Itl K p) ds := fun i Hi e => by
  have hp := e _ _ h
  refine ⟨fun hi => ?_, fun hi => ⟨vs, SqL.of hp, by rw [r.len]; exact hi⟩, fun x H' ⟨e1, e2⟩ d hd => ?_⟩
  · have hi' : i < vs.length := by rw [r.len]; exact hi
    exact ⟨vs, vs[i], SqL.of hp, List.getElem?_eq_getElem hi'⟩
  · subst e1
    refine ⟨Same.refl _, fun B' hB => ?_⟩
    obtain ⟨v, h1, h2⟩ := r.get hd
    have := e2 vs (SqL.of hp)
    rw [h1] at this
    cases this
    exact rp_at e hB h2
theorem wk_tup {p : Addr} {vs : List V} {ds : List D} (h : G p = some (.tup vs)) (r : RpAll B0 G vs ds) : Wk B0 G (Itt K p) ds := fun i Hi e => by
  have hp := e _ _ h
  refine ⟨fun hi => ?_, fun hi => ⟨vs, SqT.of hp, by rw [r.len]; exact hi⟩, fun x H' ⟨e1, e2⟩ d hd => ?_⟩
  · have hi' : i < vs.length := by rw [r.len]; exact hi
    exact ⟨vs, vs[i], SqT.of hp, List.getElem?_eq_getElem hi'⟩
  · subst e1
    refine ⟨Same.refl _, fun B' hB => ?_⟩
    obtain ⟨v, h1, h2⟩ := r.get hd
    have := e2 vs (SqT.of hp)
    rw [h1] at this
    cases this
    exact rp_at e hB h2
theorem wk_rng {lo : Int} {n : Nat} : Wk B0 G (Itr lo n) ((List.range n).map fun (k : Nat) => .int (lo + (k : Int))) := fun i Hi e => by
  refine ⟨fun hi => (by show i < n; simpa using hi), fun hi => (by show n ≤ i; simpa using hi), fun x H' ⟨e1, e2⟩ d hd => ?_⟩
  subst e1 e2
  refine ⟨Same.refl _, fun B' hB => ?_⟩
  rw [List.getElem?_map, Option.map_eq_some_iff] at hd
  obtain ⟨k, h1, rfl⟩ := hd
  obtain ⟨h2, h3⟩ := List.getElem?_eq_some_iff.mp h1
  simp at h3
  subst h3
  exact .int _
theorem wk_rngC {lo : Int} {n : Nat} : Wk B0 G (Itc lo (-1) n) ((List.range n).map fun (k : Nat) => .int (lo - (k : Int))) := fun i Hi e => by
  refine ⟨fun hi => (by show i < n; simpa using hi), fun hi => (by show n ≤ i; simpa using hi), fun x H' ⟨e1, e2⟩ d hd => ?_⟩
  subst e1 e2
  refine ⟨Same.refl _, fun B' hB => ?_⟩
  rw [List.getElem?_map, Option.map_eq_some_iff] at hd
  obtain ⟨k, h1, rfl⟩ := hd
  obtain ⟨h2, h3⟩ := List.getElem?_eq_some_iff.mp h1
  simp at h3
  subst h3
  have : lo + ((i : Nat) : Int) * (-1) = lo - (i : Int) := by omega
  rw [this]
  exact .int _
theorem wk_zip {p q : Addr} {vs ws : List V} {ds es : List D} (h : G p = some (.lst vs)) (r : RpAll B0 G vs ds) (h' : G q = some (.lst ws)) (r' : RpAll B0 G ws es) : Wk B0 G (Itz K p q) (List.zipWith (fun x y => .tuple [x, y]) ds es) := fun i Hi e => by
  have hp := e _ _ h
  have hq := e _ _ h'
  refine ⟨fun hi => ?_, fun hi => ⟨vs, ws, SqL.of hp, SqL.of hq, ?_⟩, fun x H' ⟨T, x1, x2, e1, e2, e3, f1, f2⟩ d hd => ?_⟩
  · have hi1 : i < vs.length := by rw [r.len]; simp at hi; omega
    have hi2 : i < ws.length := by rw [r'.len]; simp at hi; omega
    exact ⟨vs, ws, vs[i], ws[i], SqL.of hp, SqL.of hq, List.getElem?_eq_getElem hi1, List.getElem?_eq_getElem hi2⟩
  · simp at hi
    rw [r.len, r'.len]
    omega
  · subst e1 e3
    refine ⟨same_new e2, fun B' hB => ?_⟩
    rw [List.getElem?_zipWith] at hd
    cases hd1 : ds[i]? with
    | none => rw [hd1] at hd; cases hd
    | some d1 =>
      cases hd2 : es[i]? with
      | none => rw [hd1, hd2] at hd; cases hd
      | some d2 =>
        rw [hd1, hd2] at hd
        cases hd
        obtain ⟨v1, g1, g2⟩ := r.get hd1
        obtain ⟨v2, g3, g4⟩ := r'.get hd2
        have a1 := f1 vs (SqL.of hp)
        have a2 := f2 ws (SqL.of hq)
        rw [g1] at a1
        rw [g3] at a2
        cases a1
        cases a2
        exact .tup upd_same (fun z => (hB T z).2 e2) (by show 2 ≤ lim; decide) (.cons ((rp_at e hB g2).mono (same_new e2)) (.cons ((rp_at e hB g4).mono (same_new e2)) .nil))
theorem enuD_get : ∀ {ds : List D} {k i : Nat} {d : D}, (enuD k ds)[i]? = some d → ∃ x, ds[i]? = some x ∧ d = .tuple [.int ((k + i : Nat) : Int), x]
  | _ :: _, k, 0, d, h => by simp [enuD] at h; exact ⟨_, rfl, h.symm⟩
  | _ :: ds, k, i + 1, d, h => by
    simp only [enuD, List.getElem?_cons_succ] at h
    obtain ⟨x, h1, h2⟩ := enuD_get h
    refine ⟨x, by simpa using h1, ?_⟩
    rw [h2, show k + 1 + i = k + (i + 1) by omega]
  | [], k, i, d, h => by simp [enuD] at h
theorem enuD_len : ∀ (ds : List D) (k : Nat), (enuD k ds).length = ds.length
  | [], _ => rfl
  | _ :: ds, k => by simp [enuD, enuD_len ds]
theorem wk_enu {p : Addr} {vs : List V} {ds : List D} (h : G p = some (.lst vs)) (r : RpAll B0 G vs ds) : Wk B0 G (Ite K p) (enuD 0 ds) := fun i Hi e => by
  have hp := e _ _ h
  refine ⟨fun hi => ?_, fun hi => ⟨vs, SqL.of hp, ?_⟩, fun x H' ⟨T, x1, e1, e2, e3, f1⟩ d hd => ?_⟩
  · have hi1 : i < vs.length := by rw [r.len]; rw [enuD_len] at hi; exact hi
    exact ⟨vs, vs[i], SqL.of hp, List.getElem?_eq_getElem hi1⟩
  · rw [enuD_len] at hi
    rw [r.len]
    exact hi
  · subst e1 e3
    refine ⟨same_new e2, fun B' hB => ?_⟩
    obtain ⟨d1, hd1, rfl⟩ := enuD_get hd
    obtain ⟨v1, g1, g2⟩ := r.get hd1
    have a1 := f1 vs (SqL.of hp)
    rw [g1] at a1
    cases a1
    rw [Nat.zero_add]
    exact .tup upd_same (fun z => (hB T z).2 e2) (by show 2 ≤ lim; decide) (.cons (.int _) (.cons ((rp_at e hB g2).mono (same_new e2)) .nil))
end
end VI
set_option Elab.async false
set_option linter.all false
set_option maxRecDepth 100000
set_option maxHeartbeats 1000000
/-! VI6: walks and comprehensions. -/
namespace VI
open PySem PySem.Spec PyProof.Rows L2
theorem _root_.L2.PTs.imp {X : Cx} {e : List Expr} {t t' : TT} (h : PTs X e t) (k : ∀ σ H Q, t' σ H Q → t σ H Q) : PTs X e t' := ⟨fun pins s σ H Q I q => h.run pins s σ H Q I (k σ H Q q)⟩
theorem bt_range : bootBuiltins "range" = some (.type "range") := by decide +kernel
section
variable {X : Cx} {Γ : Tab} {a b c : Expr} {a' b' c' : XE} {pos p : Pos} {tg : Expr}
theorem pi_run {it : XI} {w : TI} (h : PI X tg a w) (k : ∀ σ H R, tVI Γ it σ H R → w σ H R) : PI X tg a (tVI Γ it) := ⟨fun pins s σ H R I q => h.run pins s σ H R I (k σ H R q)⟩
theorem s_seq (ha : PE X a (tV Γ a')) : PI X tg a (tVI Γ (.seq a')) := by
  refine ⟨fun pins s σ H R I ⟨H0, B0, ρ, ds, re, e, k⟩ => ?_⟩
  rw [evi] at e
  split at e
  · cases e
  rename_i hn
  have hn : isOwn ρ a' = false := by simpa using hn
  split at e
  · rename_i es h1
    cases e
    refine (pi_list ha).run pins s σ H R I ⟨H0, B0, ρ, _, re, h1, fun v H1 e1 r1 => ?_⟩
    obtain ⟨q, vs, rfl, g1, g2, g3⟩ := r1.rt
    have ng := r1.no hn q rfl
    exact ⟨q, rfl, ⟨vs, SqL.of g1⟩, k _ H1 e1 (wk_list (gd_some.mpr ⟨ng, g1⟩) g3.gd)⟩
  · rename_i es h1
    cases e
    refine (pi_tup ha).run pins s σ H R I ⟨H0, B0, ρ, _, re, h1, fun v H1 e1 r1 => ?_⟩
    obtain ⟨q, vs, rfl, g1, g2, g3⟩ := r1.rt.tup
    have ng := r1.no hn q rfl
    exact ⟨q, rfl, ⟨vs, SqT.of g1⟩, k _ H1 e1 (wk_tup (gd_some.mpr ⟨ng, g1⟩) g3.gd)⟩
  · cases e
theorem RtAll.three {B : Addr → Prop} {H : Hp} {vs : List V} {d e f : D} (h : RtAll B H vs [d, e, f]) : ∃ v w u, vs = [v, w, u] ∧ Rt B H v d ∧ Rt B H w e ∧ Rt B H u f := by
  match vs, h with
  | [v, w, u], ⟨h, h2, h3, _⟩ => exact ⟨v, w, u, rfl, h, h2, h3⟩
theorem evs_len {as : XEs} : ∀ {ρ : Env} {ds : List D}, evs Γ as ρ = some ds → ds.length = lenE as := by
  induction as using XEs.rec (motive_1 := fun _ => True) (motive_3 := fun _ => True) with
  | nil => intro ρ ds e; rw [evs] at e; cases e; rfl
  | cons a as _ ih =>
    intro ρ ds e
    rw [evs] at e
    split at e
    · rename_i d ds' _ h
      cases e
      simp [lenE, ih h]
    · cases e
  | _ => trivial
theorem rng1 {ds out : List D} {n : D} (e : rngD [n] = some out) : ∃ i : Int, n = .int i ∧ i ≤ 1000000 ∧ -1000000 ≤ i ∧ out = (List.range i.toNat).map fun (k : Nat) => .int (0 + (k : Int)) := by
  cases n <;> simp only [rngD] at e <;> try cases e
  split at e
  · rename_i h
    cases e
    exact ⟨_, rfl, h.1, h.2, by simp⟩
  · cases e
theorem rng2 {out : List D} {n m : D} (e : rngD [n, m] = some out) : ∃ i j : Int, n = .int i ∧ m = .int j ∧ i ≤ 1000000 ∧ -1000000 ≤ i ∧ j ≤ 1000000 ∧ -1000000 ≤ j ∧ out = (List.range (j - i).toNat).map fun (k : Nat) => .int (i + (k : Int)) := by
  cases n <;> cases m <;> simp only [rngD] at e <;> try cases e
  split at e
  · rename_i h
    cases e
    exact ⟨_, _, rfl, rfl, h.1, h.2.1, h.2.2.1, h.2.2.2, rfl⟩
  · cases e
theorem rng3 {out : List D} {n m l : D} (e : rngD [n, m, l] = some out) : ∃ i j : Int, n = .int i ∧ m = .int j ∧ l = .int (-1) ∧ i ≤ 1000000 ∧ -1000000 ≤ i ∧ j ≤ 1000000 ∧ -1000000 ≤ j ∧ out = (List.range (i - j).toNat).map fun (k : Nat) => .int (i - (k : Int)) := by
  cases n <;> cases m <;> cases l <;> simp only [rngD] at e <;> try cases e
  split at e
  · rename_i h
    cases e
    obtain ⟨h0, h1⟩ := h
    subst h0
    exact ⟨_, _, rfl, rfl, rfl, h1.1, h1.2.1, h1.2.2.1, h1.2.2.2, rfl⟩
  · cases e
theorem s_rng1 (hg : Gl X "range") (hm : X.mg "range" = none) (ha : PE X a (tV Γ a')) (hp : plainE a = true) : PI X tg (.Call (.Name "range" p) [a] [] pos) (tVI Γ (.rng (.cons a' .nil))) := by
  refine pi_run (pi_range1 hg hm (s_cons ha s_nil hp) (star_plain hp [] X.env)) fun σ H R ⟨H0, B0, ρ, ds, re, e, k⟩ => ?_
  rw [evi] at e
  split at e
  · rename_i es h1
    refine ⟨H0, B0, ρ, es, re, h1, fun vs H1 e1 r1 _ => ?_⟩
    have hl := evs_len h1
    match es, hl with
    | [x], _ =>
      obtain ⟨i, rfl, g1, g2, rfl⟩ := rng1 (ds := ds) e
      obtain ⟨v, rfl, r2⟩ := r1.one
      exact ⟨i, by rw [r2.int], by omega, by omega, k _ H1 e1 wk_rng⟩
  · cases e
theorem s_rng2 (hg : Gl X "range") (hm : X.mg "range" = none) (ha : PE X a (tV Γ a')) (hp : plainE a = true) (hb : PE X b (tV Γ b')) (hp2 : plainE b = true) : PI X tg (.Call (.Name "range" p) [a, b] [] pos) (tVI Γ (.rng (.cons a' (.cons b' .nil)))) := by
  refine pi_run (pi_range2 hg hm (s_cons ha (s_cons hb s_nil hp2) hp) (by rw [star_plain hp, star_plain hp2]; rfl) (star_plain hp2 [] X.env)) fun σ H R ⟨H0, B0, ρ, ds, re, e, k⟩ => ?_
  rw [evi] at e
  split at e
  · rename_i es h1
    refine ⟨H0, B0, ρ, es, re, h1, fun vs H1 e1 r1 _ => ?_⟩
    have hl := evs_len h1
    match es, hl with
    | [x, y], _ =>
      obtain ⟨i, j, rfl, rfl, g1, g2, g3, g4, rfl⟩ := rng2 e
      obtain ⟨v, w, rfl, r2, r3⟩ := r1.two
      exact ⟨i, j, by rw [r2.int, r3.int], ⟨by omega, by omega, by omega, by omega⟩, k _ H1 e1 wk_rng⟩
  · cases e
theorem s_rng3 (hg : Gl X "range") (hm : X.mg "range" = none) (ha : PE X a (tV Γ a')) (hp : plainE a = true) (hb : PE X b (tV Γ b')) (hp2 : plainE b = true) (hc : PE X c (tV Γ c')) (hp3 : plainE c = true) :
    PI X tg (.Call (.Name "range" p) [a, b, c] [] pos) (tVI Γ (.rng (.cons a' (.cons b' (.cons c' .nil))))) := by
  refine pi_run (pi_range3 hg hm (s_cons ha (s_cons hb (s_cons hc s_nil hp3) hp2) hp) (star_plain hp [b, c] X.env) (star_any fun e he => by simp at he; rcases he with rfl | rfl <;> assumption)) fun σ H R ⟨H0, B0, ρ, ds, re, e, k⟩ => ?_
  rw [evi] at e
  split at e
  · rename_i es h1
    refine ⟨H0, B0, ρ, es, re, h1, fun vs H1 e1 r1 _ => ?_⟩
    have hl := evs_len h1
    match es, hl with
    | [x, y, z], _ =>
      obtain ⟨i, j, rfl, rfl, rfl, g1, g2, g3, g4, rfl⟩ := rng3 e
      obtain ⟨v, w, u, rfl, r2, r3, r4⟩ := r1.three
      exact ⟨i, j, -1, _, by rw [r2.int, r3.int, r4.int], RgC.neg (by omega) (by omega) (by omega) (by omega), k _ H1 e1 wk_rngC⟩
  · cases e
theorem s_zip {es : List Expr} {kk : Nat} {tp : Pos} (hg : Gl X "zip") (hm : X.mg "zip" = none) (ha : PE X a (tV Γ a')) (hp : plainE a = true) (hb : PE X b (tV Γ b')) (hp2 : plainE b = true) : PI X (.Tuple es kk tp) (.Call (.Name "zip" p) [a, b] [] pos) (tVI Γ (.zip a' b')) := by
  refine pi_run (pi_zip hg hm (pa_cons ha (pa_cons hb pa_nil (star_plain hp2 [] X.env)) (star_plain hp [b] X.env)) (star_plain hp [b] X.env) (star_any fun e he => by simp at he; subst he; assumption)) fun σ H R ⟨H0, B0, ρ, ds, re, e, k⟩ => ?_
  rw [evi] at e
  split at e
  · cases e
  rename_i hn
  have hn : isOwn ρ a' = false ∧ isOwn ρ b' = false := by simpa using hn
  split at e
  · rename_i xs ys h1 h2
    cases e
    refine ⟨H0, B0, ρ, _, re, h1, fun v H1 e1 r1 => ⟨H0, B0, ρ, _, re.mono e1, h2, fun w H2 e2 r2 => ?_⟩⟩
    obtain ⟨q, vs, rfl, g1, g2, g3⟩ := r1.rt.mono e2
    obtain ⟨q', ws, rfl, g4, g5, g6⟩ := r2.rt
    have n1 := r1.no hn.1 q rfl
    have n2 := r2.no hn.2 q' rfl
    exact ⟨q, q', vs, ws, rfl, SqL.of g1, SqL.of g4, k _ H2 (e1.trans e2) (wk_zip (gd_some.mpr ⟨n1, g1⟩) g3.gd (gd_some.mpr ⟨n2, g4⟩) g6.gd)⟩
  · cases e
theorem s_enu {es : List Expr} {kk : Nat} {tp : Pos} (hg : Gl X "enumerate") (hm : X.mg "enumerate" = none) (ha : PE X a (tV Γ a')) (hp : plainE a = true) : PI X (.Tuple es kk tp) (.Call (.Name "enumerate" p) [a] [] pos) (tVI Γ (.enu a')) := by
  refine pi_run (pi_enum hg hm (pa_cons ha pa_nil (star_plain hp [] X.env)) (star_plain hp [] X.env)) fun σ H R ⟨H0, B0, ρ, ds, re, e, k⟩ => ?_
  rw [evi] at e
  split at e
  · cases e
  rename_i hn
  have hn : isOwn ρ a' = false := by simpa using hn
  split at e
  · rename_i xs h1
    cases e
    refine ⟨H0, B0, ρ, _, re, h1, fun v H1 e1 r1 => ?_⟩
    obtain ⟨q, vs, rfl, g1, g2, g3⟩ := r1.rt
    have n1 := r1.no hn q rfl
    exact ⟨q, vs, rfl, SqL.of g1, k _ H1 e1 (wk_enu (gd_some.mpr ⟨n1, g1⟩) g3.gd)⟩
  · cases e
end

/-! ### the block of a comprehension -/
section
variable {H0 H H1 H' : Hp} {B0 : Addr → Prop} {ρ : Env} {σ : L2.St}
theorem toArg_get {i : Nat} {s : Sta} {d : D} (h : (ρ.map toArg)[i]? = some (some (s, d))) : ∃ s', ρ[i]? = some (some (s', d)) ∧ s ≠ .own ∧ (s = .shr → s' = .shr) := by
  rw [List.getElem?_map, Option.map_eq_some_iff] at h
  obtain ⟨o, h1, h2⟩ := h
  cases o with
  | none => cases h2
  | some p =>
    obtain ⟨s', d'⟩ := p
    cases s' <;> cases h2 <;> exact ⟨_, h1, by decide, by decide⟩
theorem wipeE_len : ∀ vs : List Nat, (wipeE ρ vs).length = ρ.length
  | [] => rfl
  | v :: vs => by unfold wipeE; rw [List.length_set, wipeE_len vs]
theorem wipeE_get {i : Nat} {x : Sta × D} : ∀ {vs : List Nat}, (wipeE ρ vs)[i]? = some (some x) → ρ[i]? = some (some x) ∧ i ∉ vs
  | [], h => ⟨h, by simp⟩
  | v :: vs, h => by
    unfold wipeE at h
    rcases getset h with ⟨_, e, _⟩ | ⟨ne, h⟩
    · cases e
    · obtain ⟨h1, h2⟩ := wipeE_get h
      exact ⟨h1, by simp only [List.mem_cons, not_or]; exact ⟨ne, h2⟩⟩
/-- all that is held is held apart: nothing is own any more -/
theorem RE.lock (re : RE H0 B0 ρ σ H) : RE H (Bad B0 ρ σ) (ρ.map toArg) σ H := by
  have ho : ∀ p, ¬ Own (ρ.map toArg) σ p := fun p ⟨i, d, h1, h2⟩ => by
    obtain ⟨s', _, n, _⟩ := toArg_get h1
    exact n rfl
  have hb : ∀ p, Bad (Bad B0 ρ σ) (ρ.map toArg) σ p → Bad B0 ρ σ p := fun p h => h.elim id fun h => (ho p h).elim
  refine ⟨Same.refl H, fun p h => re.badL h, by simp [re.len], fun i d h => ?_, fun i d h => ?_, fun i d h => ?_, fun i j d e p h _ _ _ => ?_⟩
  · obtain ⟨s', h1, _, h2⟩ := toArg_get h
    have h2 := h2 rfl
    subst h2
    obtain ⟨v, a, b⟩ := re.shr i d h1
    exact ⟨v, a, b.less hb⟩
  · obtain ⟨s', h1, _, _⟩ := toArg_get h
    obtain ⟨v, a, b, _⟩ := re.get h1
    exact ⟨v, a, b.less hb, fun p _ => ho p⟩
  · obtain ⟨s', _, n, _⟩ := toArg_get h
    exact absurd rfl n
  · obtain ⟨s', _, n, _⟩ := toArg_get h
    exact absurd rfl n
theorem RE.blk {vs : List Nat} {Dl : Addr} {acc : List V} (re : RE H0 B0 ρ σ H) (e : Same H H') (n : H Dl = none) (hD : H' Dl = some (.lst acc)) : RE H' (fun q => Bad B0 ρ σ q ∨ q = Dl) (blkE ρ vs) (wipe σ vs) H' := by
  have no : ∀ {i : Nat} {s : Sta} {d : D}, (blkE ρ vs)[i]? = some (some (s, d)) → (ρ.map toArg)[i]? = some (some (s, d)) ∧ i ∉ vs := fun h => wipeE_get h
  have gσ : ∀ {i : Nat} {v : V}, i ∉ vs → σ[i]? = some (some v) → (wipe σ vs)[i]? = some (some v) := fun {i v} h1 h2 => by
    rw [wipe_at, if_neg fun z => h1 z.1]
    exact h2
  have ho : ∀ p, ¬ Own (blkE ρ vs) (wipe σ vs) p := fun p ⟨i, d, h1, h2⟩ => by
    obtain ⟨s', _, n, _⟩ := toArg_get (no h1).1
    exact n rfl
  have k : ∀ a o, H a = some o → ¬ Bad B0 ρ σ a → H' a = some o ∧ ¬ Bad (fun q => Bad B0 ρ σ q ∨ q = Dl) (blkE ρ vs) (wipe σ vs) a := fun a o q nb =>
    ⟨e a o q, fun z => z.elim (fun z => z.elim nb fun z => by rw [z, n] at q; cases q) fun z => ho a z⟩
  refine ⟨Same.refl H', fun p h => ?_, by rw [wipe_length, re.len]; unfold blkE; rw [wipeE_len, List.length_map], fun i d h => ?_, fun i d h => ?_, fun i d h => ?_, fun i j d e p h _ _ _ => ?_⟩
  · rcases h with h | h
    · obtain ⟨us, g⟩ := re.badL h
      exact ⟨us, e _ _ g⟩
    · rw [h]
      exact ⟨acc, hD⟩
  · obtain ⟨h1, h2⟩ := no h
    obtain ⟨s', h3, _, h4⟩ := toArg_get h1
    have h4 := h4 rfl
    subst h4
    obtain ⟨v, a, b⟩ := re.shr i d h3
    exact ⟨v, gσ h2 a, b.tr k⟩
  · obtain ⟨h1, h2⟩ := no h
    obtain ⟨s', h3, _, _⟩ := toArg_get h1
    obtain ⟨v, a, b, _⟩ := re.get h3
    exact ⟨v, gσ h2 a, b.tr k fun c us g => e _ _ g, fun p _ => ho p⟩
  · obtain ⟨s', _, n, _⟩ := toArg_get (no h).1
    exact absurd rfl n
  · obtain ⟨s', _, n, _⟩ := toArg_get (no h).1
    exact absurd rfl n
end
def lcF (Γ : Tab) (ρ : Env) (vs : List Nat) (tg : XT) (tt elt : XE) : D → Option (Option D) := fun d => match setT (blkE ρ vs) tg d with
  | some ρ1 => match ev Γ tt ρ1 with
    | some (.bool true) => if sfE ρ1 elt then (ev Γ elt ρ1).map some else none
    | some (.bool false) => some none
    | _ => none
  | none => none
section
variable {X : Cx} {Γ : Tab}
theorem ev_lc {vs : List Nat} {tg : XT} {it : XI} {tt elt : XE} {ρ : Env} : ev Γ (.lc vs tg it tt elt) ρ = match evi Γ it (ρ.map toArg) with
    | some ds => if ds.length ≤ lim then (lcGo (lcF Γ ρ vs tg tt elt) ds).map .list else none
    | none => none := by
  rw [ev]
  rfl
theorem lc_in {K : PySem.W.Frag} {vs : List Nat} {tg : XT} {it : XI} {tt elt : XE} (hv : tgIn tg vs = true) : ∀ σ H Q, tV Γ (.lc vs tg it tt elt) σ H Q → tLc (tVI Γ it) (tgV K tg) (tVT Γ tt) (tV Γ elt) vs σ H Q := by
  intro σ H Q ⟨H0, B0, ρ, d, re, e, k⟩
  rw [ev_lc] at e
  split at e
  rotate_left
  · cases e
  rename_i ds h1
  split at e
  rotate_left
  · cases e
  rename_i hl
  rw [Option.map_eq_some_iff] at e
  obtain ⟨out, ho, rfl⟩ := e
  refine ⟨H, Bad B0 ρ σ, _, ds, re.lock, h1, fun J H1 s1 wk Dl nD => ?_⟩
  have hG : gd (ρ.map toArg) σ H1 = H1 := by
    funext a
    unfold gd
    rw [if_neg]
    rintro ⟨i, x, q1, q2⟩
    obtain ⟨s', _, n, _⟩ := toArg_get q1
    exact n rfl
  rw [hG] at wk
  have re1 := re.mono s1
  refine ⟨fun i m Hh => m = ds.length - i ∧ i ≤ ds.length ∧ Same H1 Hh ∧ ∃ acc pre post, Hh Dl = some (.lst acc) ∧ acc.length ≤ i ∧ RpAll (fun q => Bad B0 ρ σ q ∨ q = Dl) Hh acc pre ∧ lcGo (lcF Γ ρ vs tg tt elt) (ds.drop i) = some post ∧ out = pre ++ post,
    ⟨ds.length, by simp, Nat.zero_le _, same_new nD, [], [], out, upd_same, Nat.le_refl _, .nil, by simpa using ho, rfl⟩, ?_⟩
  rintro i m Hh ⟨rfl, hi, sm, acc, pre, post, hD, ha, hr, hgo, rfl⟩
  obtain ⟨w1, w2, w3⟩ := wk i Hh sm
  by_cases hlt : i < ds.length
  · refine .inr ⟨w1 hlt, fun H' => Same H1 H' ∧ ∃ acc pre' post', H' Dl = some (.lst acc) ∧ acc.length ≤ i + 1 ∧ RpAll (fun q => Bad B0 ρ σ q ∨ q = Dl) H' acc pre' ∧ lcGo (lcF Γ ρ vs tg tt elt) (ds.drop (i + 1)) = some post' ∧ pre ++ post = pre' ++ post',
      fun H' ⟨q1, q2⟩ => ⟨ds.length - (i + 1), by omega, rfl, hlt, q1, q2⟩, fun x H' hy => ?_⟩
    have hd : ds[i]? = some ds[i] := List.getElem?_eq_getElem hlt
    obtain ⟨s2, rx⟩ := w3 x H' hy _ hd
    have rx := rx (fun q => Bad B0 ρ σ q ∨ q = Dl) fun p hp => by
      rcases hp with hp | hp
      · refine ⟨.inl hp, ?_⟩
        obtain ⟨us, g⟩ := re1.badL hp
        rw [sm _ _ g]
        exact fun z => nomatch z
      · rw [hp]
        exact ⟨.inr nD, by rw [hD]; exact fun z => nomatch z⟩
    have hD' := s2 _ _ hD
    have reb : RE H' (fun q => Bad B0 ρ σ q ∨ q = Dl) (blkE ρ vs) (wipe σ vs) H' := re1.blk (sm.trans s2) nD hD'
    have nb : ∀ p, ¬ Own (blkE ρ vs) (wipe σ vs) p := fun p ⟨j, x, q1, q2⟩ => by
      obtain ⟨s', _, n, _⟩ := toArg_get (wipeE_get q1).1
      exact n rfl
    rw [List.drop_eq_getElem_cons hlt] at hgo
    unfold lcGo at hgo
    have hf : lcF Γ ρ vs tg tt elt ds[i] = lcF Γ ρ vs tg tt elt ds[i] := rfl
    generalize hfx : lcF Γ ρ vs tg tt elt ds[i] = fx at hgo
    unfold lcF at hfx
    cases hs : setT (blkE ρ vs) tg ds[i] with
    | none => rw [hs] at hfx; subst hfx; cases hgo
    | some ρ1 =>
      rw [hs] at hfx
      dsimp only at hfx
      have rx' := rx.less (B' := Bad (fun q => Bad B0 ρ σ q ∨ q = Dl) (blkE ρ vs) (wipe σ vs)) fun p hp => hp.elim id fun z => (nb p z).elim
      refine tgV_ok reb hs rx'.rt (fun _ => rx') fun σ2 re2 hw => ⟨?_, ?_⟩
      · rw [hw vs hv]
        apply List.ext_getElem?
        intro j
        rw [wipe_at, wipe_at]
        by_cases ej : j ∈ vs ∧ j < (wipe σ vs).length
        · rw [if_pos ej, if_pos ⟨ej.1, by rw [← wipe_length σ vs]; exact ej.2⟩]
        · rw [if_neg ej, if_neg fun z => ej ⟨z.1, by rw [wipe_length]; exact z.2⟩]
      · cases ht : ev Γ tt ρ1 with
        | none => rw [ht] at hfx; subst hfx; cases hgo
        | some tb =>
          rw [ht] at hfx
          cases tb with
          | bool tb =>
            refine ⟨H', _, ρ1, tb, re2, ht, fun H3 s3 => ?_⟩
            cases tb with
            | false =>
              rw [if_neg Bool.false_ne_true]
              subst hfx
              exact ⟨(sm.trans s2).trans s3, acc, pre, post, s3 _ _ hD', by omega, hr.mono (s2.trans s3), hgo, rfl⟩
            | true =>
              rw [if_pos rfl]
              dsimp only at hfx
              split at hfx
              rotate_left
              · subst hfx; cases hgo
              rename_i hsf
              cases he : ev Γ elt ρ1 with
              | none => rw [he] at hfx; subst hfx; cases hgo
              | some y =>
                rw [he] at hfx
                subst hfx
                simp only [Option.map_some] at hgo
                split at hgo
                · cases hgo
                rename_i post' hpost
                cases hgo
                refine ⟨H', _, ρ1, y, re2.mono s3, he, fun v H4 s4 r4 => ?_⟩
                have ry : Rp (fun q => Bad B0 ρ σ q ∨ q = Dl) H4 v y := (r4.rp hsf).less fun p hp => .inl hp
                refine ⟨acc, s4 _ _ (s3 _ _ hD'), limLt (by omega), fun b o q => ?_, acc ++ [v], pre ++ [y], post', upd_same, by simp; omega, ?_, hpost, by simp⟩
                · rw [upd_ne (fun z => by rw [z, nD] at q; cases q)]
                  exact s4 _ _ (s3 _ _ (s2 _ _ (sm _ _ q)))
                · have kk : ∀ a o, H4 a = some o → ¬ (Bad B0 ρ σ a ∨ a = Dl) → upd H4 Dl (.lst (acc ++ [v])) a = some o ∧ ¬ (Bad B0 ρ σ a ∨ a = Dl) := fun a o q nb => ⟨by rw [upd_ne fun z => nb (.inr z)]; exact q, nb⟩
                  exact ((hr.mono ((s2.trans s3).trans s4)).tr kk).app (.cons (ry.tr kk) .nil)
          | _ => subst hfx; cases hgo
  · have hi : i = ds.length := by omega
    subst hi
    refine .inl ⟨w2 (Nat.le_refl _), ?_⟩
    rw [List.drop_length] at hgo
    cases hgo
    rw [List.append_nil] at k
    have s := s1.trans sm
    refine k _ Hh s ?_
    have hne : ¬ Bad B0 ρ σ Dl := fun z => by
      obtain ⟨us, g⟩ := re1.badL z
      rw [nD] at g
      cases g
    have hal : acc.length ≤ lim := by omega
    have hr' := hr.less (B' := Bad B0 ρ σ) fun p hp => .inl hp
    exact ⟨⟨Dl, acc, rfl, hD, hal, hr'⟩, fun _ => .lst hD hne hal hr', fun _ p e z => by cases e; exact hne (.inr z), fun _ es e => by cases e; exact ⟨Dl, acc, rfl, s1.free nD, hD, hal, hr⟩⟩
end
end VI
set_option Elab.async false
set_option linter.all false
set_option maxRecDepth 100000
set_option maxHeartbeats 4000000
/-! VI7: every translated expression keeps its reading. -/
namespace VI
open PySem PySem.Spec PyProof.Rows L2
def bnames : List Str := ["len", "abs", "int", "max", "list", "tuple", "sum", "all", "any", "sorted", "isinstance", "bool", "str", "range", "zip", "enumerate"]
structure Cok (Γ : Tab) (c : Co) (k : Nat) (X : Cx) : Prop where
  hN : X.N = c.N
  hsc : X.env.scope = c.sc
  hfn : X.fn = c.fn
  calm : X.calm = true
  nd : X.N.Nodup
  kind : c.sc.kind = .function
  room : Room k X.A
  tab : ∀ f sg, Γ f = some sg → FnV X.prog X.w X.K X.mg X.base k f sg
  blt : ∀ x ∈ bnames, X.mg x = none
  xe : X.xe = fun _ _ => False
theorem ixS_get {x : Str} : ∀ {l : List Str} {i : Nat}, ixS x l = some i → l[i]? = some x
  | [], _, h => by cases h
  | y :: r, i, h => by
    unfold ixS at h
    split at h
    · rename_i e
      cases h
      subst e
      rfl
    · rw [Option.map_eq_some_iff] at h
      obtain ⟨j, h1, rfl⟩ := h
      simpa using ixS_get h1
theorem visB_ok {sc : Scope} {x : Str} (h : visB sc x = true) : Vis sc x := by
  unfold visB at h
  split at h
  · exact .inl (by assumption)
  · exact .inr (.inl (by assumption))
  · exact .inr (.inr (by assumption))
  · cases h
theorem glB_ok {sc : Scope} {x : Str} (h : glB sc x = true) : sc.names.lookup x = some .globalImplicit := by
  unfold glB at h
  split at h
  · assumption
  · cases h
section
variable {Γ : Tab} {c : Co} {k : Nat} {X : Cx}
theorem Cok.gl (ok : Cok Γ c k X) {x : Str} (h : glB c.sc x = true) : Gl X x := by
  have := glB_ok h
  unfold Gl Env.kindOf
  rw [ok.hsc]
  exact this
theorem Cok.hu (ok : Cok Γ c k X) : X.A.units + 64 < cLine := ok.room.units
theorem Cok.blk (ok : Cok Γ c k X) {scope : Scope} {own : List (Str × Nat)} (hb : blkC c.N c.sc scope own = true) (s : Shared) (H : Hp) (C : Addr) (cl : List (Str × Addr)) (fp : List Addr) :
    Cok Γ ⟨c.N, relSc scope c.sc, fun x => scope.names.lookup x == some .cell⟩ k (X.blk s H scope (compEnvC scope cl C X.env) fp) := by
  refine ⟨ok.hN, ?_, rfl, ok.calm, ok.nd, (blkOk_by hb).kind, ok.room, ok.tab, ok.blt, rfl⟩
  show relS scope X.env.scope = relSc scope c.sc
  rw [ok.hsc]
  rfl
theorem locB_ok {x : Str} (ok : Cok Γ c k X) (h : locB c x = true) : Loc X.env.scope x ∧ (X.fn x = true ∨ X.env.scope.names.lookup x = some .local) := by
  unfold locB at h
  rw [ok.hsc, ok.hfn]
  split at h
  · rename_i e
    exact ⟨.inl e, .inr e⟩
  · rename_i e
    exact ⟨.inr e, .inl h⟩
  · cases h
theorem s_ns (ok : Cok Γ c k X) : ∀ {es : List Expr} {js : List Nat}, trNs c es = some js → PGs X es (gNs js) ∧ (assignEach es X.env).length = js.length ∧ (assignEach es X.env).findIdx? (·.1) = none
  | [], js, h => by
    cases h
    exact ⟨pgs_nil, rfl, rfl⟩
  | e :: es, js, h => by
    cases e with
    | Name x p =>
      unfold trNs at h
      split at h
      · rename_i hl
        split at h
        · rename_i i is h1 h2
          cases h
          obtain ⟨a, b, d⟩ := s_ns ok h2
          obtain ⟨l1, l2⟩ := locB_ok ok hl
          refine ⟨pgs_cons (pg_name ok.nd (by rw [ok.hN]; exact ixS_get h1) l1 l2) a rfl, ?_, ?_⟩
          · show (assignEach es X.env).length + 1 = is.length + 1
            rw [b]
          · show List.findIdx? (·.1) ((false, assign (.Name x p) X.env) :: assignEach es X.env) = none
            rw [List.findIdx?_cons, d]
            rfl
        · cases h
      · cases h
    | _ => cases h
theorem s_tg (ok : Cok Γ c k X) {e : Expr} {t : XT} (h : trTg c e = some t) : PG X e (tgV X.K t) := by
  cases e with
  | Name x p =>
    simp only [trTg] at h
    split at h
    · rename_i hl
      rw [Option.map_eq_some_iff] at h
      obtain ⟨i, h1, rfl⟩ := h
      obtain ⟨l1, l2⟩ := locB_ok ok hl
      exact pg_name ok.nd (by rw [ok.hN]; exact ixS_get h1) l1 l2
    · cases h
  | Tuple es kk p =>
    simp only [trTg] at h
    rw [Option.map_eq_some_iff] at h
    obtain ⟨js, h1, rfl⟩ := h
    obtain ⟨a, b, d⟩ := s_ns ok h1
    have h1 := pg_tup (k := kk) (pos := p) ok.calm a b d
    have h2 := pg_unl (k := kk) (pos := p) ok.calm a b d
    exact ⟨fun pins s σ H v u Q I r hw => hw.elim (h1.run pins s σ H v u Q I r) (h2.run pins s σ H v u Q I r)⟩
  | _ => cases h
theorem plain_of {n : Nat} {e : Expr} {e' : XE} (h : trE n c e = some e') : plainE e = true := by
  cases n with
  | zero => simp [trE] at h
  | succ n => cases e <;> first | rfl | (simp only [trE] at h; cases h)
structure Snd (Γ : Tab) (n : Nat) : Prop where
  e : ∀ c X k, Cok Γ c k X → ∀ e e', trE n c e = some e' → PE X e (tV Γ e')
  t : ∀ c X k, Cok Γ c k X → ∀ e e', trE n c e = some e' → PT X e (tVT Γ e')
  w : ∀ c X k, Cok Γ c k X → ∀ op vs p e', trE n c (.BoolOp op vs p) = some e' → PW X (.BoolOp op vs p) (tVT Γ e')
  a : ∀ c X k, Cok Γ c k X → ∀ as as', trEs n c as = some as' → PA X as (tVA Γ as') ∧ ∀ e ∈ as, plainE e = true
  i : ∀ c X k, Cok Γ c k X → ∀ e tg i, trI n c e tg = some i → PI X tg e (tVI Γ i) ∧ plainE e = true

theorem snd_w {n : Nat} (S : Snd Γ n) (ok : Cok Γ c k X) {op : BoolOp} {vs : List Expr} {p : Pos} {e' : XE} (h : trE (n + 1) c (.BoolOp op vs p) = some e') : PW X (.BoolOp op vs p) (tVT Γ e') := by
  cases op with
  | And =>
    match vs with
    | [] => simp only [trE] at h; cases h
    | [a] =>
      simp only [trE] at h
      split at h
      · exact pw_and1 (S.t c X k ok a e' h)
      · cases h
    | a :: b :: r =>
      simp only [trE] at h
      split at h
      · rename_i a' b' h1 h2
        cases h
        exact s_andW (S.t c X k ok a a' h1) (S.w c X k ok _ _ _ _ h2)
      · cases h
  | Or =>
    match vs with
    | [] => simp only [trE] at h; cases h
    | [a] =>
      simp only [trE] at h
      split at h
      · exact pw_or1 (S.t c X k ok a e' h)
      · cases h
    | a :: b :: r =>
      simp only [trE] at h
      split at h
      · rename_i a' b' h1 h2
        cases h
        exact s_orW (S.t c X k ok a a' h1) (S.w c X k ok _ _ _ _ h2)
      · cases h

theorem _root_.L2.PE.noE {X : Cx} {e : Expr} {t' : TE} (k : ∀ σ H Q, t' σ H Q → False) : PE X e t' := .no k
theorem slo {n : Nat} (S : Snd Γ n) (ok : Cok Γ c k X) {lo : Option Expr} {l' : XE} (h : (match lo with
    | none => some (XE.cst .none)
    | some l => (trE n c l).filter fun l' => !isNoneE l' : Option XE) = some l') : PO X lo (tPt Γ l') := by
  cases lo with
  | none =>
    cases h
    exact s_po0
  | some l =>
    have h : (trE n c l).filter (fun l' => !isNoneE l') = some l' := h
    rw [Option.filter_eq_some_iff] at h
    exact s_po (S.e c X k ok l l' h.1) (by simpa using h.2)
theorem bi_in_names {x : Str} {f : BI} (h : biOf x = some f) : x ∈ bnames := by
  unfold biOf at h
  unfold bnames
  repeat' (split at h; · rename_i e; subst e; simp)
  cases h
theorem ty_in_names {x : Str} {f : TY} (h : tyOf x = some f) : x ∈ bnames := by
  unfold tyOf at h
  unfold bnames
  repeat' (split at h; · rename_i e; subst e; simp)
  cases h
theorem snd_e {n : Nat} (S : Snd Γ n) (ok : Cok Γ c k X) {e : Expr} {e' : XE} (h : trE (n + 1) c e = some e') : PE X e (tV Γ e') := by
  cases e with
  | Name x p =>
    simp only [trE] at h
    split at h
    · rename_i hh
      rw [Option.map_eq_some_iff] at h
      obtain ⟨i, h1, rfl⟩ := h
      refine s_var (by rw [ok.hN]; exact ixS_get h1) (by rw [ok.hsc]; exact visB_ok hh.1) hh.2.1 hh.2.2
    · cases h
  | Constant v kk p =>
    cases v with
    | int i => simp only [trE] at h; cases h; exact s_cst pe_int (fun B H => .int i) rfl
    | bool i => simp only [trE] at h; cases h; exact s_cst pe_bl (fun B H => .bl i) rfl
    | none => simp only [trE] at h; cases h; exact s_cst pe_non (fun B H => .non) rfl
    | str i => simp only [trE] at h; cases h; exact s_cst pe_str (fun B H => .str i) rfl
    | _ => simp only [trE] at h; cases h
  | BinOp a op b p =>
    simp only [trE] at h
    split at h
    · rename_i a' b' h1 h2
      cases h
      exact s_bin (S.e c X k ok a a' h1) (S.e c X k ok b b' h2)
    · cases h
  | UnaryOp op a p =>
    cases op with
    | USub =>
      simp only [trE] at h
      rw [Option.map_eq_some_iff] at h
      obtain ⟨a', h1, rfl⟩ := h
      exact s_neg (S.e c X k ok a a' h1)
    | Not =>
      simp only [trE] at h
      rw [Option.map_eq_some_iff] at h
      obtain ⟨a', h1, rfl⟩ := h
      exact s_not (S.e c X k ok a a' h1)
    | _ => simp only [trE] at h; cases h
  | BoolOp op vs p =>
    cases op with
    | And =>
      match vs with
      | [] => simp only [trE] at h; cases h
      | [a] =>
        simp only [trE] at h
        split at h
        · exact pe_one (S.e c X k ok a e' h)
        · cases h
      | a :: b :: r =>
        simp only [trE] at h
        split at h
        · rename_i a' b' h1 h2
          cases h
          exact s_and (S.e c X k ok a a' h1) (S.e c X k ok _ _ h2)
        · cases h
    | Or =>
      match vs with
      | [] => simp only [trE] at h; cases h
      | [a] =>
        simp only [trE] at h
        split at h
        · exact pe_one (S.e c X k ok a e' h)
        · cases h
      | a :: b :: r =>
        simp only [trE] at h
        split at h
        · rename_i a' b' h1 h2
          cases h
          exact s_or (S.e c X k ok a a' h1) (S.e c X k ok _ _ h2)
        · cases h
  | Compare a ops cs p =>
    match ops, cs with
    | [op], [b] =>
      simp only [trE] at h
      split at h
      · rename_i hh
        split at h
        · rename_i a' b' h1 h2
          cases h
          exact s_cmp ok.hu (S.e c X k ok a a' h1) (S.e c X k ok b b' h2) hh.1
        · cases h
      · cases h
    | [op, op'], [b, d] =>
      simp only [trE] at h
      split at h
      · rename_i hh
        split at h
        · rename_i a' b' d' h1 h2 h3
          cases h
          exact s_chn ok.hu (S.e c X k ok a a' h1) (S.e c X k ok b b' h2) (S.e c X k ok d d' h3) hh.2.1
        · cases h
      · cases h
    | [], _ => simp only [trE] at h; cases h
    | [_], [] => simp only [trE] at h; cases h
    | [_], _ :: _ :: _ => simp only [trE] at h; cases h
    | [_, _], [] => simp only [trE] at h; cases h
    | [_, _], [_] => simp only [trE] at h; cases h
    | [_, _], _ :: _ :: _ :: _ => simp only [trE] at h; cases h
    | _ :: _ :: _ :: _, _ => simp only [trE] at h; cases h
  | Call f as kw p =>
    cases kw with
    | cons _ _ => simp only [trE] at h; cases h
    | nil =>
      cases f with
      | Name f q =>
        simp only [trE] at h
        split at h
        · rename_i hh
          have hg := ok.gl hh.1
          split at h
          · rename_i hi
            subst hi
            split at h
            · rename_i a t q2
              split at h
              · rename_i hp
                split at h
                · rename_i a' T h1 h2
                  cases h
                  exact s_isi h2 hg (ok.blt _ (by decide +kernel)) (ok.gl hp.2) (ok.blt _ (ty_in_names h2)) (S.e c X k ok a a' h1) hp.1
                · cases h
              · cases h
            · cases h
          · split at h
            · rename_i b hb
              split at h
              · cases h
              · rename_i hne
                rw [Option.map_eq_some_iff] at h
                obtain ⟨as', h1, rfl⟩ := h
                obtain ⟨pa, pp⟩ := S.a c X k ok as as' h1
                cases as with
                | nil => exact (hne rfl).elim
                | cons e es => exact s_bi hb ok.calm hg (ok.blt _ (bi_in_names hb)) hh.2.2 hh.2.1 pa pp
            · split at h
              · cases h
              · rename_i hne
                rw [Option.map_eq_some_iff] at h
                obtain ⟨as', h1, rfl⟩ := h
                obtain ⟨pa, pp⟩ := S.a c X k ok as as' h1
                cases as with
                | nil => exact (hne rfl).elim
                | cons e es =>
                  cases hΓ : Γ f with
                  | none =>
                    refine PE.noE fun σ H Q ⟨H0, B0, ρ, d, re, e, kk⟩ => ?_
                    rw [ev, hΓ] at e
                    cases e
                  | some sg => exact s_call (ok.tab f sg hΓ) hΓ ok.room hg hh.2.1 pa pp
        · cases h
      | _ => simp only [trE] at h; cases h
  | Subscript a b p =>
    cases b with
    | Slice lo hi st q =>
      cases st with
      | none =>
        simp only [trE] at h
        split at h
        · rename_i a' l' h' h1 h2 h3
          cases h
          exact s_sl (S.e c X k ok a a' h1) (slo S ok h2) (slo S ok h3)
        · cases h
      | some st => simp only [trE, plainE] at h; cases h
    | _ =>
      simp only [trE] at h
      split at h
      · rename_i hp
        split at h
        · rename_i a' b' h1 h2
          cases h
          exact s_ix (S.e c X k ok a a' h1) (S.e c X k ok _ b' h2) hp
        · cases h
      · cases h
  | List as p =>
    simp only [trE] at h
    rw [Option.map_eq_some_iff] at h
    obtain ⟨as', h1, rfl⟩ := h
    exact s_lst (S.a c X k ok as as' h1).1
  | Tuple as kk p =>
    simp only [trE] at h
    rw [Option.map_eq_some_iff] at h
    obtain ⟨as', h1, rfl⟩ := h
    exact s_tup (S.a c X k ok as as' h1).1
  | ListComp elt gs scope p =>
    match gs with
    | [⟨tg, iter, ifs, 0⟩] =>
      simp only [trE] at h
      split at h
      · rename_i hb
        split at h
        · rename_i it tg' t' e'' h1 h2 h3 h4
          split at h
          · rename_i hv
            cases h
            obtain ⟨pi, pp⟩ := S.i c X k ok iter tg it h1
            have bk := blkOk_by hb
            refine (pe_lc (tt := tVT Γ t') ok.calm ok.nd pi (by rw [ok.hN, ok.hsc]; exact bk) (fun s H C cl fp => s_tg (ok.blk hb s H C cl fp) h2) (fun s H C cl fp => ?_) (fun s H C cl fp => S.e _ _ k (ok.blk hb s H C cl fp) elt e'' h4) (folded_plain pp X.env)).imp (lc_in hv)
            cases ifs with
            | nil =>
              cases h3
              exact pts_nil.imp fun σ H Q ⟨H0, B0, ρ, b, re, e, kk⟩ => by
                rw [ev] at e
                cases e
                exact kk H (Same.refl H)
            | cons t r =>
              cases r with
              | nil =>
                dsimp only at h3
                split at h3
                · exact pts_one (S.t _ _ k (ok.blk hb s H C cl fp) t t' h3)
                · cases h3
              | cons _ _ => cases h3
          · cases h
        · cases h
      · cases h
    | [] => simp only [trE] at h; cases h
    | [⟨tg, iter, ifs, (n + 1 : Nat)⟩] => simp only [trE] at h; cases h
    | [⟨tg, iter, ifs, Int.negSucc n⟩] => simp only [trE] at h; cases h
    | _ :: _ :: _ => simp only [trE] at h; cases h
  | _ => simp only [trE] at h; cases h
theorem snd_t {n : Nat} (S : Snd Γ n) (ok : Cok Γ c k X) {e : Expr} {e' : XE} (h : trE (n + 1) c e = some e') : PT X e (tVT Γ e') := by
  by_cases ht : isTestE e = false
  · exact t_of (snd_e S ok h) (plain_of h) ht
  · cases e with
    | BoolOp op vs p => exact (snd_w S ok h).pt
    | UnaryOp op a p =>
      cases op with
      | Not =>
        simp only [trE] at h
        rw [Option.map_eq_some_iff] at h
        obtain ⟨a', h1, rfl⟩ := h
        exact s_notT (S.t c X k ok a a' h1)
      | _ => exact absurd rfl ht
    | Compare a ops cs p =>
      match ops, cs with
      | [op], [b] =>
        simp only [trE] at h
        split at h
        · rename_i hh
          split at h
          · rename_i a' b' h1 h2
            cases h
            exact s_cmpT ok.hu (S.e c X k ok a a' h1) (S.e c X k ok b b' h2) hh.1
          · cases h
        · cases h
      | [op, op'], [b, d] =>
        simp only [trE] at h
        split at h
        · rename_i hh
          split at h
          · rename_i a' b' d' h1 h2 h3
            cases h
            exact s_chnT ok.hu (S.e c X k ok a a' h1) (S.e c X k ok b b' h2) (S.e c X k ok d d' h3) hh.2.1
          · cases h
        · cases h
      | [], _ => simp only [trE] at h; cases h
      | [_], [] => simp only [trE] at h; cases h
      | [_], _ :: _ :: _ => simp only [trE] at h; cases h
      | [_, _], [] => simp only [trE] at h; cases h
      | [_, _], [_] => simp only [trE] at h; cases h
      | [_, _], _ :: _ :: _ :: _ => simp only [trE] at h; cases h
      | _ :: _ :: _ :: _, _ => simp only [trE] at h; cases h
    | _ => exact absurd rfl ht
theorem snd_a {n : Nat} (S : Snd Γ n) (ok : Cok Γ c k X) {as : List Expr} {as' : XEs} (h : trEs (n + 1) c as = some as') : PA X as (tVA Γ as') ∧ ∀ e ∈ as, plainE e = true := by
  cases as with
  | nil =>
    simp only [trEs] at h
    cases h
    exact ⟨s_nil, fun _ z => nomatch z⟩
  | cons a as =>
    simp only [trEs] at h
    split at h
    · rename_i hp
      split at h
      · rename_i a' as'' h1 h2
        cases h
        obtain ⟨q1, q2⟩ := S.a c X k ok as as'' h2
        exact ⟨s_cons (S.e c X k ok a a' h1) q1 hp, fun e he => (List.mem_cons.mp he).elim (fun z => by rw [z]; exact hp) (q2 e)⟩
      · cases h
    · cases h
theorem trEs_cons {n : Nat} {a : Expr} {as : List Expr} {as' : XEs} (h : trEs n c (a :: as) = some as') : ∃ m a' as'', n = m + 1 ∧ plainE a = true ∧ trE m c a = some a' ∧ trEs m c as = some as'' ∧ as' = .cons a' as'' := by
  cases n with
  | zero => simp only [trEs] at h; cases h
  | succ m =>
    simp only [trEs] at h
    split at h
    · rename_i hp
      split at h
      · rename_i a' as'' h1 h2
        cases h
        exact ⟨m, a', as'', rfl, hp, h1, h2, rfl⟩
      · cases h
    · cases h
theorem trEs_nil {n : Nat} {as' : XEs} (h : trEs n c [] = some as') : as' = .nil := by
  cases n <;> simp only [trEs] at h <;> cases h
  rfl
theorem snd_i {n : Nat} (S : ∀ m ≤ n, Snd Γ m) (ok : Cok Γ c k X) {e tg : Expr} {i : XI} (h : trI (n + 1) c e tg = some i) : PI X tg e (tVI Γ i) ∧ plainE e = true := by
  have Sn := S n (Nat.le_refl n)
  cases e with
  | Call f as kw p =>
    refine ⟨?_, rfl⟩
    cases kw with
    | cons _ _ =>
      cases f <;> simp only [trI] at h <;> (try (split at h)) <;> first | cases h | (rw [Option.map_eq_some_iff] at h; obtain ⟨e', h1, rfl⟩ := h; exact s_seq (Sn.e c X k ok _ e' h1))
    | nil =>
      cases f with
      | Name f q =>
        simp only [trI] at h
        split at h
        · rename_i hh
          obtain ⟨hg, rfl⟩ := hh
          have hg := ok.gl hg
          have hm : X.mg "range" = none := ok.blt _ (by decide +kernel)
          rw [Option.map_eq_some_iff] at h
          obtain ⟨as', h1, rfl⟩ := h
          match as, h1 with
          | [], h1 =>
            cases trEs_nil h1
            refine ⟨fun pins s σ H R I ⟨H0, B0, ρ, ds, re, e, kk⟩ => ?_⟩
            simp [evi, evs, rngD] at e
          | [a], h1 =>
            obtain ⟨m, a', as'', rfl, hp, h2, h3, rfl⟩ := trEs_cons h1
            cases trEs_nil h3
            exact s_rng1 hg hm ((S m (by omega)).e c X k ok a a' h2) hp
          | [a, b], h1 =>
            obtain ⟨m, a', as'', rfl, hp, h2, h3, rfl⟩ := trEs_cons h1
            obtain ⟨m', b', as3, rfl, hp2, h4, h5, rfl⟩ := trEs_cons h3
            cases trEs_nil h5
            exact s_rng2 hg hm ((S _ (by omega)).e c X k ok a a' h2) hp ((S m' (by omega)).e c X k ok b b' h4) hp2
          | [a, b, d], h1 =>
            obtain ⟨m, a', as'', rfl, hp, h2, h3, rfl⟩ := trEs_cons h1
            obtain ⟨m', b', as3, rfl, hp2, h4, h5, rfl⟩ := trEs_cons h3
            obtain ⟨m2, d', as4, rfl, hp3, h6, h7, rfl⟩ := trEs_cons h5
            cases trEs_nil h7
            exact s_rng3 hg hm ((S _ (by omega)).e c X k ok a a' h2) hp ((S _ (by omega)).e c X k ok b b' h4) hp2 ((S m2 (by omega)).e c X k ok d d' h6) hp3
          | a :: b :: d :: f :: r, h1 =>
            obtain ⟨m, a', as'', rfl, hp, h2, h3, rfl⟩ := trEs_cons h1
            obtain ⟨m', b', as3, rfl, hp2, h4, h5, rfl⟩ := trEs_cons h3
            obtain ⟨m2, d', as4, rfl, hp3, h6, h7, rfl⟩ := trEs_cons h5
            obtain ⟨m3, f', as5, rfl, hp4, h8, h9, rfl⟩ := trEs_cons h7
            refine ⟨fun pins s σ H R I ⟨H0, B0, ρ, ds, re, e, kk⟩ => ?_⟩
            rw [evi] at e
            split at e
            · rename_i es h1
              have hl := evs_len h1
              simp only [lenE] at hl
              match es, hl with
              | _ :: _ :: _ :: _ :: _, _ => simp [rngD] at e
            · cases e
        · split at h
          · rename_i hh
            obtain ⟨hg, rfl⟩ := hh
            have hg := ok.gl hg
            have hm : X.mg "zip" = none := ok.blt _ (by decide +kernel)
            split at h
            · split at h
              · rename_i hp
                split at h
                · rename_i a' b' h1 h2
                  cases h
                  exact s_zip hg hm (Sn.e c X k ok _ a' h1) hp.1 (Sn.e c X k ok _ b' h2) hp.2
                · cases h
              · cases h
            · cases h
          · split at h
            · rename_i hh
              obtain ⟨hg, rfl⟩ := hh
              have hg := ok.gl hg
              have hm : X.mg "enumerate" = none := ok.blt _ (by decide +kernel)
              split at h
              · split at h
                · rename_i hp
                  rw [Option.map_eq_some_iff] at h
                  obtain ⟨e', h1, rfl⟩ := h
                  exact s_enu hg hm (Sn.e c X k ok _ e' h1) hp
                · cases h
              · cases h
            · rw [Option.map_eq_some_iff] at h
              obtain ⟨e', h1, rfl⟩ := h
              exact s_seq (Sn.e c X k ok _ e' h1)
      | _ =>
        simp only [trI] at h
        split at h
        · rw [Option.map_eq_some_iff] at h
          obtain ⟨e', h1, rfl⟩ := h
          exact s_seq (Sn.e c X k ok _ e' h1)
        · cases h
  | _ =>
    simp only [trI] at h
    split at h
    · rename_i hp
      rw [Option.map_eq_some_iff] at h
      obtain ⟨e', h1, rfl⟩ := h
      exact ⟨s_seq (Sn.e c X k ok _ e' h1), hp⟩
    · cases h
theorem sound (Γ : Tab) : ∀ n, Snd Γ n := by
  intro n
  induction n using Nat.strongRecOn with
  | _ n ih =>
    cases n with
    | zero =>
      refine ⟨fun c X k ok e e' h => ?_, fun c X k ok e e' h => ?_, fun c X k ok op vs p e' h => ?_, fun c X k ok as as' h => ?_, fun c X k ok e tg i h => ?_⟩
      · simp only [trE] at h; cases h
      · simp only [trE] at h; cases h
      · simp only [trE] at h; cases h
      · simp only [trEs] at h; cases h
      · simp only [trI] at h; cases h
    | succ n =>
      have S := ih n (Nat.lt_succ_self n)
      exact ⟨fun c X k ok e e' h => snd_e S ok h, fun c X k ok e e' h => snd_t S ok h, fun c X k ok op vs p e' h => snd_w S ok h, fun c X k ok as as' h => snd_a S ok h,
        fun c X k ok e tg i h => snd_i (fun m hm => ih m (Nat.lt_succ_of_le hm)) ok h⟩
end
end VI
set_option Elab.async false
set_option linter.all false
set_option maxRecDepth 100000
set_option maxHeartbeats 4000000
/-! VI8: statements. -/
namespace VI
open PySem PySem.Spec PyProof.Rows L2
def Frs (H0 H : Hp) (B0 : Addr → Prop) (v : V) (d : D) : Prop := ∀ es, d = .list es → ∃ a ws, v = .ref a ∧ H0 a = none ∧ H a = some (.lst ws) ∧ ws.length ≤ lim ∧ RpAll (fun q => B0 q ∨ q = a) H ws es
def PostO (H0 : Hp) (B0 : Addr → Prop) (D : Ends) : Out → Prop
  | .nx ρ => ∀ σ H, RE H0 B0 ρ σ H → D.nx σ H
  | .rt fr d => ∀ v H, Same H0 H → Rp B0 H v d → (fr = true → Frs H0 H B0 v d) → D.rt v H
  | .bk ρ => ∀ σ H, RE H0 B0 ρ σ H → D.bk σ H
  | .ct ρ => ∀ σ H, RE H0 B0 ρ σ H → D.ct σ H
def tVS (Γ : Tab) (s : XS) : TS := fun D σ H => ∃ H0 B0 ρ o, RE H0 B0 ρ σ H ∧ ex Γ s ρ = some o ∧ PostO H0 B0 D o
def tVSs (Γ : Tab) (s : XSs) : TS := fun D σ H => ∃ H0 B0 ρ o, RE H0 B0 ρ σ H ∧ exs Γ s ρ = some o ∧ PostO H0 B0 D o
theorem _root_.L2.PS.imp {X : Cx} {s : Stmt} {t t' : TS} (h : PS X s t) (k : ∀ D σ H, t' D σ H → t D σ H) : PS X s t' := ⟨fun pins s σ H D I q => h.run pins s σ H D I (k D σ H q)⟩
theorem _root_.L2.PSs.imp {X : Cx} {s : List Stmt} {t t' : TS} (h : PSs X s t) (k : ∀ D σ H, t' D σ H → t D σ H) : PSs X s t' := ⟨fun pins s σ H D I q => h.run pins s σ H D I (k D σ H q)⟩

section
variable {X : Cx} {Γ : Tab} {c : Co} {k : Nat} {pos : Pos}
theorem s_snil : PSs X [] (tVSs Γ .nil) := pss_nil.imp fun D σ H ⟨H0, B0, ρ, o, re, e, q⟩ => by
  rw [exs] at e
  cases e
  exact q σ H re
theorem s_scons {s : Stmt} {ss : List Stmt} {s' : XS} {ss' : XSs} (h1 : PS X s (tVS Γ s')) (h2 : PSs X ss (tVSs Γ ss')) : PSs X (s :: ss) (tVSs Γ (.cons s' ss')) := (pss_cons h1 h2).imp fun D σ H ⟨H0, B0, ρ, o, re, e, q⟩ => by
  rw [exs] at e
  cases h : ex Γ s' ρ with
  | none => rw [h] at e; cases e
  | some o1 =>
    rw [h] at e
    refine ⟨H0, B0, ρ, o1, re, h, ?_⟩
    cases o1 with
    | nx ρ' => exact fun σ' H' re' => ⟨H0, B0, ρ', o, re', e, q⟩
    | rt fr d => cases e; exact q
    | bk ρ' => cases e; exact q
    | ct ρ' => cases e; exact q
theorem s_cont : PS X (.Continue pos) (tVS Γ .cont) := ps_continue.imp fun D σ H ⟨H0, B0, ρ, o, re, e, q⟩ => by
  rw [ex] at e
  cases e
  exact q σ H re
theorem s_brk : PS X (.Break pos) (tVS Γ .brk) := ps_break.imp fun D σ H ⟨H0, B0, ρ, o, re, e, q⟩ => by
  rw [ex] at e
  cases e
  exact q σ H re
theorem s_pass : PS X (.Pass pos) (tVS Γ .pass) := ps_pass.imp fun D σ H ⟨H0, B0, ρ, o, re, e, q⟩ => by
  rw [ex] at e
  cases e
  exact q σ H re
theorem s_ife {t : Expr} {a b : List Stmt} {t' : XE} {a' b' : XSs} (ht : PT X t (tVT Γ t')) (ha : PSs X a (tVSs Γ a')) (hb : PSs X b (tVSs Γ b')) : PS X (.If t a b pos) (tVS Γ (.ife t' a' b')) := (ps_if ht ha hb).imp fun D σ H ⟨H0, B0, ρ, o, re, e, q⟩ => by
  rw [ex] at e
  split at e
  · rename_i h1
    exact ⟨H0, B0, ρ, true, re, h1, fun H' e1 => iteT ⟨H0, B0, ρ, o, re.mono e1, e, q⟩⟩
  · rename_i h1
    exact ⟨H0, B0, ρ, false, re, h1, fun H' e1 => iteF ⟨H0, B0, ρ, o, re.mono e1, e, q⟩⟩
  · cases e
/-! ### variables given as they are -/
theorem var_of (ok : Cok Γ c k X) : ∀ {n : Nat} {e : Expr} {i : Nat}, trE n c e = some (.var i) → PE X e (tVar i) := by
  intro n
  induction n with
  | zero => intro e i h; simp only [trE] at h; cases h
  | succ n ih =>
    intro e i h
    cases e with
    | Name x p =>
      simp only [trE] at h
      split at h
      · rename_i hh
        rw [Option.map_eq_some_iff] at h
        obtain ⟨j, h1, h2⟩ := h
        cases h2
        exact pe_var (by rw [ok.hN]; exact ixS_get h1) (by rw [ok.hsc]; exact visB_ok hh.1) hh.2.1 hh.2.2
      · cases h
    | BoolOp op vs p =>
      cases op <;> match vs with
      | [] => simp only [trE] at h; cases h
      | [a] =>
        simp only [trE] at h
        split at h
        · exact pe_one (ih h)
        · cases h
      | a :: b :: r =>
        simp only [trE] at h
        split at h <;> cases h
    | Constant v kk p => cases v <;> simp only [trE] at h <;> cases h
    | BinOp a op b p => simp only [trE] at h; split at h <;> cases h
    | UnaryOp op a p =>
      cases op <;> simp only [trE] at h <;> first | cases h | (rw [Option.map_eq_some_iff] at h; obtain ⟨_, _, h2⟩ := h; cases h2)
    | Compare a ops cs p =>
      match ops, cs with
      | [op], [b] =>
        simp only [trE] at h
        split at h
        · split at h <;> cases h
        · cases h
      | [op, op'], [b, d] =>
        simp only [trE] at h
        split at h
        · split at h <;> cases h
        · cases h
      | [], _ => simp only [trE] at h; cases h
      | [_], [] => simp only [trE] at h; cases h
      | [_], _ :: _ :: _ => simp only [trE] at h; cases h
      | [_, _], [] => simp only [trE] at h; cases h
      | [_, _], [_] => simp only [trE] at h; cases h
      | [_, _], _ :: _ :: _ :: _ => simp only [trE] at h; cases h
      | _ :: _ :: _ :: _, _ => simp only [trE] at h; cases h
    | Call f as kw p =>
      cases kw with
      | cons _ _ => simp only [trE] at h; cases h
      | nil =>
        cases f with
        | Name f q =>
          simp only [trE] at h
          split at h
          · split at h
            · split at h
              · split at h
                · split at h <;> cases h
                · cases h
              · cases h
            · split at h
              · split at h
                · cases h
                · rw [Option.map_eq_some_iff] at h
                  obtain ⟨_, _, h2⟩ := h
                  cases h2
              · split at h
                · cases h
                · rw [Option.map_eq_some_iff] at h
                  obtain ⟨_, _, h2⟩ := h
                  cases h2
          · cases h
        | _ => simp only [trE] at h; cases h
    | Subscript a b p =>
      cases b with
      | Slice lo hi st q =>
        cases st with
        | none =>
          simp only [trE] at h
          split at h <;> cases h
        | some st => simp only [trE, plainE] at h; cases h
      | _ =>
        simp only [trE] at h
        split at h
        · split at h <;> cases h
        · cases h
    | List as p =>
      simp only [trE] at h
      rw [Option.map_eq_some_iff] at h
      obtain ⟨_, _, h2⟩ := h
      cases h2
    | Tuple as kk p =>
      simp only [trE] at h
      rw [Option.map_eq_some_iff] at h
      obtain ⟨_, _, h2⟩ := h
      cases h2
    | ListComp elt gs scope p =>
      match gs with
      | [⟨tg, iter, ifs, 0⟩] =>
        simp only [trE] at h
        split at h
        · split at h
          · split at h <;> cases h
          · cases h
        · cases h
      | [] => simp only [trE] at h; cases h
      | [⟨tg, iter, ifs, (n + 1 : Nat)⟩] => simp only [trE] at h; cases h
      | [⟨tg, iter, ifs, Int.negSucc n⟩] => simp only [trE] at h; cases h
      | _ :: _ :: _ => simp only [trE] at h; cases h
    | _ => simp only [trE] at h; cases h
theorem tvar_at {i : Nat} {σ : L2.St} {H : Hp} {Q : VK} {v : V} (h : σ[i]? = some (some v)) (q : Q v H) : tVar i σ H Q := ⟨v, h, q⟩
/-- what a value's reading gives where it may be kept -/
theorem keep_of {e : Expr} {e' : XE} (ok : Cok Γ c k X) {n : Nat} (h : trE n c e = some e') : PE X e (tV Γ e') := (sound Γ n).e c X k ok e e' h
theorem dem_var_own {ρ : Env} {i : Nat} {d : D} (h : ρ[i]? = some (some (.own, d))) : dem ρ (.var i) = ρ.set i (some (.shr, d)) := by
  unfold dem
  simp only [h]
theorem isOwn_var {ρ : Env} {i : Nat} (h : isOwn ρ (.var i) = true) : ∃ ds, ρ[i]? = some (some (.own, .list ds)) := by
  have h : (ownL ρ i).isSome = true := h
  unfold ownL at h
  split at h
  · exact ⟨_, by assumption⟩
  · cases h
theorem dem_noown {ρ : Env} {j : Nat} {d : D} (h : (dem ρ (.var j))[j]? = some (some (.own, d))) : False := by
  have h : (match ρ[j]? with
    | some (some (.own, d)) => ρ.set j (some (.shr, d))
    | _ => ρ)[j]? = some (some (Sta.own, d)) := h
  split at h
  · rename_i d2 h2
    rw [set_at (List.getElem?_eq_some_iff.mp h2).1] at h
    cases h
  · rename_i hno
    exact hno d h
theorem s_ret {e : Expr} {e' : XE} (he : PE X e (tV Γ e')) (hv : ∀ i, e' = .var i → PE X e (tVar i)) : PS X (.Return (some e) pos) (tVS Γ (.ret e')) := by
  by_cases hvar : ∃ i, e' = .var i
  · obtain ⟨i, rfl⟩ := hvar
    refine (ps_ret (hv i rfl)).imp fun D σ H ⟨H0, B0, ρ, o, re, e, q⟩ => ?_
    rw [ex] at e
    split at e
    rotate_left
    · cases e
    rename_i d hd
    split at e
    rotate_left
    · cases e
    rename_i hsf
    cases e
    have re' := re.dem (.var i)
    rw [ev] at hd
    split at hd
    rotate_left
    · cases hd
    rename_i s d' hg
    cases hd
    obtain ⟨v, h1, h2, h3, h4⟩ := re'.get hg
    have hs : (s == .shr || !isList d) = true := by simpa [sfE, hg] using hsf
    refine tvar_at h1 (q v H re.ext ((h3 hs).less fun p h => .inl h) fun hf es ed => ?_)
    have ho : isOwn ρ (.var i) = true := by simpa [frE] using hf
    obtain ⟨ds, hown⟩ := isOwn_var ho
    obtain ⟨p, vs, ds', a, b, cc, l, n, r⟩ := re.own i _ hown
    cases a
    have hdd : d = .list ds := by
      rw [dem_var_own hown, set_at (List.getElem?_eq_some_iff.mp hown).1] at hg
      cases hg
      rfl
    rw [hdd] at ed
    cases ed
    rw [b] at h1
    cases h1
    exact ⟨p, vs, rfl, n, cc, l, r.less fun z hz => hz.elim .inl fun hz => .inr ⟨i, _, hown, by rw [hz]; exact b⟩⟩
  · refine (ps_ret he).imp fun D σ H ⟨H0, B0, ρ, o, re, e, q⟩ => ?_
    rw [ex] at e
    split at e
    rotate_left
    · cases e
    rename_i d hd
    split at e
    rotate_left
    · cases e
    rename_i hsf
    cases e
    have ho : isOwn ρ e' = false := by
      cases e' <;> first | rfl | exact absurd ⟨_, rfl⟩ hvar
    refine ⟨H0, B0, _, d, re.dem e', hd, fun v H' e1 r => ?_⟩
    refine q v H' (re.ext.trans e1) ((r.rp hsf).less fun p h => .inl h) fun hf es ed => ?_
    rw [ho, Bool.or_false] at hf
    obtain ⟨a, ws, y1, y2, y3, y4, y5⟩ := r.fr hf es ed
    exact ⟨a, ws, y1, re.ext.free y2, y3, y4, y5.less fun z hz => hz.elim (fun hz => .inl (.inl hz)) .inr⟩

/-! ### name = value -/
theorem asg_var {i j : Nat} : ∀ D σ H, tVS Γ (.asg (.nm i) (.var j)) D σ H → tAsg (tVar j) (gName i) D σ H := by
  intro D σ H ⟨H0, B0, ρ, o, re, e, q⟩
  rw [ex] at e
  split at e
  rotate_left
  · cases e
  rename_i d hd
  split at e
  rotate_left
  · cases e
  rename_i hi
  cases e
  have re' := re.dem (.var j)
  rw [ev] at hd
  split at hd
  rotate_left
  · cases hd
  rename_i s d' hg
  cases hd
  have hs : staE Γ (dem ρ (.var j)) d (.var j) = if s = .arg then .arg else .shr := by
    unfold staE
    simp only [hg]
    cases s <;> rfl
  rw [hs] at q
  cases s with
  | own => exact (dem_noown hg).elim
  | shr =>
    obtain ⟨v, h1, h2⟩ := re'.shr j d hg
    exact tvar_at h1 (q _ _ (re'.put hi (by decide) (fun _ => h2) (fun z => by cases z)))
  | arg =>
    obtain ⟨v, h1, h2, h3⟩ := re'.arg j d hg
    exact tvar_at h1 (q _ _ (re'.put hi (by decide) (fun z => by cases z) (fun _ => ⟨h2, h3⟩)))
theorem sf_nonvar {ρ : Env} {e' : XE} (h : ¬ ∃ i, e' = .var i) : sfE ρ e' = true := by
  cases e' <;> first | rfl | exact absurd ⟨_, rfl⟩ h
theorem asg_val {i : Nat} {e' : XE} (hvar : ¬ ∃ j, e' = .var j) : ∀ D σ H, tVS Γ (.asg (.nm i) e') D σ H → tAsg (tV Γ e') (gName i) D σ H := by
  intro D σ H ⟨H0, B0, ρ, o, re, e, q⟩
  rw [ex] at e
  split at e
  rotate_left
  · cases e
  rename_i d hd
  split at e
  rotate_left
  · cases e
  rename_i hi
  cases e
  have hdem : dem ρ e' = ρ := by
    cases e' <;> first | rfl | exact absurd ⟨_, rfl⟩ hvar
  rw [hdem] at hd hi q
  have hs : staE Γ ρ d e' = if isList d && frE Γ e' then .own else .shr := by
    cases e' <;> first | rfl | exact absurd ⟨_, rfl⟩ hvar
  rw [hs] at q
  refine ⟨H0, B0, ρ, d, re, hd, fun v H' e1 r => ?_⟩
  show D.nx (σ.set i (some v)) H'
  split at q
  · rename_i hf
    rw [Bool.and_eq_true] at hf
    cases d with
    | list ds =>
      obtain ⟨a, ws, rfl, y2, y3, y4, y5⟩ := r.fr hf.2 ds rfl
      exact q _ _ (re.putN hi e1 y2 y3 y4 y5)
    | _ => cases hf.1
  · exact q _ _ ((re.mono e1).put hi (by decide) (fun _ => r.rp (sf_nonvar hvar)) (fun z => by cases z))
theorem lc_parts {n : Nat} {elt : Expr} {gs : List Comprehension} {scope : Scope} {p : Pos} {e' : XE} (h : trE (n + 1) c (.ListComp elt gs scope p) = some e') :
    ∃ tg iter ifs it tg' t' e'', gs = [⟨tg, iter, ifs, 0⟩] ∧ blkC c.N c.sc scope (ownOf c.N scope) = true ∧ trI n c iter tg = some it ∧ trTg ⟨c.N, relSc scope c.sc, fun x => scope.names.lookup x == some .cell⟩ tg = some tg' ∧
      (match ifs with
        | [] => some (XE.cst (.bool true))
        | [t] => if plainE t then trE n ⟨c.N, relSc scope c.sc, fun x => scope.names.lookup x == some .cell⟩ t else none
        | _ => none : Option XE) = some t' ∧
      trE n ⟨c.N, relSc scope c.sc, fun x => scope.names.lookup x == some .cell⟩ elt = some e'' ∧ tgIn tg' ((ownOf c.N scope).map (·.2)) = true ∧ e' = .lc ((ownOf c.N scope).map (·.2)) tg' it t' e'' := by
  match gs with
  | [⟨tg, iter, ifs, 0⟩] =>
    simp only [trE] at h
    split at h
    · rename_i hb
      split at h
      · rename_i it tg' t' e'' h1 h2 h3 h4
        split at h
        · rename_i hv
          cases h
          exact ⟨tg, iter, ifs, it, tg', t', e'', rfl, hb, h1, h2, h3, h4, hv, rfl⟩
        · cases h
      · cases h
    · cases h
  | [] => simp only [trE] at h; cases h
  | [⟨tg, iter, ifs, (n + 1 : Nat)⟩] => simp only [trE] at h; cases h
  | [⟨tg, iter, ifs, Int.negSucc n⟩] => simp only [trE] at h; cases h
  | _ :: _ :: _ => simp only [trE] at h; cases h
theorem s_asg (ok : Cok Γ c k X) {n : Nat} {x : Str} {px : Pos} {i : Nat} {e : Expr} {e' : XE} (hl : locB c x = true) (hi : ixS x c.N = some i) (h : trE n c e = some e') : PS X (.Assign [.Name x px] e pos) (tVS Γ (.asg (.nm i) e')) := by
  obtain ⟨l1, l2⟩ := locB_ok ok hl
  have hN : X.N[i]? = some x := by rw [ok.hN]; exact ixS_get hi
  have he := (sound Γ n).e c X k ok e e' h
  by_cases hvar : ∃ j, e' = .var j
  · obtain ⟨j, rfl⟩ := hvar
    have hs : swapsWith e (some (.Name x px)) pos.line X.env = pure false := by
      have hp := plain_of h
      cases e with
      | ListComp elt gs scope p =>
        cases n with
        | zero => simp only [trE] at h; cases h
        | succ n =>
          obtain ⟨_, _, _, _, _, _, _, _, _, _, _, _, _, _, z⟩ := lc_parts h
          cases z
      | _ => first | rfl | cases hp
    exact (ps_set ok.nd hN l1 (var_of ok h) hs l2).imp asg_var
  · cases e with
    | ListComp elt gs scope p =>
      have hsw : ∃ b, swapsWith (.ListComp elt gs scope p) (some (.Name x px)) pos.line X.env = pure b ∧ (b = true → X.env.scope.names.lookup x = some .local) := by
        refine ⟨_, rfl, fun hb => ?_⟩
        simp only [Bool.and_eq_true] at hb
        exact beq_iff_eq.mp hb.1.1.2
      obtain ⟨b, hsw, hb⟩ := hsw
      cases b with
      | false => exact (ps_set ok.nd hN l1 he hsw l2).imp (asg_val hvar)
      | true =>
        cases n with
        | zero => simp only [trE] at h; cases h
        | succ n =>
          obtain ⟨tg, iter, ifs, it, tg', t', e'', rfl, hbk, h1, h2, h3, h4, hv, rfl⟩ := lc_parts h
          have S := sound Γ n
          obtain ⟨pi, pp⟩ := S.i c X k ok iter tg it h1
          have bk := blkOk_by hbk
          refine (ps_setLc (tt := tVT Γ t') ok.calm ok.nd hN (hb rfl) hsw pi (by rw [ok.hN, ok.hsc]; exact bk) (fun s H C cl fp => s_tg (ok.blk hbk s H C cl fp) h2) (fun s H C cl fp => ?_) (fun s H C cl fp => S.e _ _ k (ok.blk hbk s H C cl fp) elt e'' h4) (folded_plain pp X.env)).imp fun D σ H q => lc_in hv σ H _ (asg_val hvar D σ H q)
          cases ifs with
          | nil =>
            cases h3
            exact pts_nil.imp fun σ H Q ⟨H0, B0, ρ, b, re, e, kk⟩ => by
              rw [ev] at e
              cases e
              exact kk H (Same.refl H)
          | cons t r =>
            cases r with
            | nil =>
              dsimp only at h3
              split at h3
              · exact pts_one (S.t _ _ k (ok.blk hbk s H C cl fp) t t' h3)
              · cases h3
            | cons _ _ => cases h3
    | _ =>
      have hp := plain_of h
      first
        | (exact (ps_set ok.nd hN l1 he rfl l2).imp (asg_val hvar))
        | cases hp
/-! ### (a, b) = value -/
theorem sf_flat {ρ : Env} {e' : XE} {d : D} (h : ev Γ e' ρ = some d) (n : isList d = false) : sfE ρ e' = true := by
  cases e' <;> first | rfl | skip
  rename_i i
  rw [ev] at h
  unfold sfE
  split at h
  · rename_i s d' hg
    cases h
    simp [hg, n]
  · cases h
theorem s_asgT (ok : Cok Γ c k X) {n : Nat} {ts : List Expr} {kk : Nat} {tp : Pos} {js : List Nat} {e : Expr} {e' : XE} (ht : trTg c (.Tuple ts kk tp) = some (.tp js)) (h : trE n c e = some e') (hs : swappedStores [.Tuple ts kk tp] e X.env = pure none) :
    PS X (.Assign [.Tuple ts kk tp] e pos) (tVS Γ (.asg (.tp js) e')) := by
  have he := (sound Γ n).e c X k ok e e' h
  have hp := plain_of h
  have h1 : swapsWithSole [.Tuple ts kk tp] e pos.line X.env = pure false := by
    cases e <;> first | rfl | cases hp
  refine (ps_asg he (s_tg ok ht) h1 hs rfl).imp fun D σ H ⟨H0, B0, ρ, o, re, e, q⟩ => ?_
  rw [ex] at e
  split at e
  · rename_i d hd
    rw [Option.map_eq_some_iff] at e
    obtain ⟨ρ', e1, rfl⟩ := e
    refine ⟨H0, B0, ρ, d, re, hd, fun v H' e2 r => ?_⟩
    exact tgV_ok (re.mono e2) e1 r.rt (fun ⟨_, z⟩ => by cases z) fun σ' re' _ => q σ' H' re'
  · cases e

/-! ### (a, b, ..) = (x, y, ..) -/
def nmF (env : PySem.Env) (line : Nat) : Expr → Option Str := fun x => match x with
  | .Name id pos => if (env.kindOf id == some NameKind.local && pos.line == line) = true then some id else none
  | _ => none
def stB : Expr → Bool := fun | .Starred .. => true | _ => false
theorem sw_eq (ts vs : List Expr) (kk k2 : Nat) (tp p2 : Pos) (env : PySem.Env) : swappedStores [.Tuple ts kk tp] (.Tuple vs k2 p2) env =
  if (!(ts.length == 2 || ts.length == 3) || vs.length != ts.length || env.blockKind != .function) = true then pure none
  else if (vs.any stB) = true then pure none
  else if ((ts.filterMap (nmF env ((ts.head?.map (·.pos.line)).getD 0))).length != ts.length || (ts.filterMap (nmF env ((ts.head?.map (·.pos.line)).getD 0))).eraseDups.length != (ts.filterMap (nmF env ((ts.head?.map (·.pos.line)).getD 0))).length) = true then pure none
    else if vs.all (foldedForSure 8) = true then pure none
    else if vs.all (constantsAlone 8) = true then (do unsupported "assign.tuple-of-constant-expressions:order-of-the-stores"; pure (some (ts.filterMap (nmF env ((ts.head?.map (·.pos.line)).getD 0)))))
    else pure (some (ts.filterMap (nmF env ((ts.head?.map (·.pos.line)).getD 0)))) := rfl
theorem sw_cases {ts vs : List Expr} {kk k2 : Nat} {tp p2 : Pos} {env : PySem.Env} (hck : vs.all (constantsAlone 8) = false ∨ vs.all (foldedForSure 8) = true) : swappedStores [.Tuple ts kk tp] (.Tuple vs k2 p2) env = pure none ∨
    ((ts.length = 2 ∨ ts.length = 3) ∧ vs.length = ts.length ∧ (ts.filterMap (nmF env ((ts.head?.map (·.pos.line)).getD 0))).length = ts.length ∧
      (ts.filterMap (nmF env ((ts.head?.map (·.pos.line)).getD 0))).eraseDups.length = ts.length ∧ swappedStores [.Tuple ts kk tp] (.Tuple vs k2 p2) env = pure (some (ts.filterMap (nmF env ((ts.head?.map (·.pos.line)).getD 0))))) := by
  rw [sw_eq]
  split
  · exact .inl rfl
  rename_i h1
  split
  · exact .inl rfl
  split
  · exact .inl rfl
  rename_i h3
  split
  · exact .inl rfl
  rename_i h4
  split
  · rename_i h5
    exact (hck.elim (fun z => by rw [z] at h5; cases h5) fun z => h4 z).elim
  simp only [Bool.or_eq_true, Bool.not_eq_true', bne_iff_ne, not_or, Bool.or_eq_false_iff, beq_eq_false_iff_ne, not_and, Decidable.not_not] at h1 h3
  refine .inr ⟨?_, h1.1.2, h3.1, h3.2.trans h3.1, rfl⟩
  by_cases q : ts.length = 2
  · exact .inl q
  · exact .inr (h1.1.1 q)
theorem par_none {js : List Nat} {as' : XEs} {K : PySem.W.Frag} : ∀ D σ H, tVS Γ (.par js as') D σ H → tAsg (tV Γ (.tup as')) (tgV K (.tp js)) D σ H := by
  intro D σ H ⟨H0, B0, ρ, o, re, e, q⟩
  rw [ex] at e
  split at e
  · rename_i ds hd
    split at e
    · rename_i hh
      rw [Option.map_eq_some_iff] at e
      obtain ⟨ρ', e1, rfl⟩ := e
      refine ⟨H0, B0, ρ, .tuple ds, re, by rw [ev, hd]; simp only [hh.1, hh.2]; simp, fun v H' e2 r => ?_⟩
      exact tgV_ok (t := .tp js) (d := .tuple ds) (re.mono e2) e1 r.rt (fun ⟨_, z⟩ => by cases z) fun σ' re' _ => q σ' H' re'
    · cases e
  · cases e
theorem par_some {js : List Nat} {as' : XEs} {D : Ends} {σ : L2.St} {H : Hp} (h : tVS Γ (.par js as') D σ H) : tVA Γ as' σ H fun vs H1 => vs.length = js.length ∧ gNs js vs σ H1 D.nx := by
  obtain ⟨H0, B0, ρ, o, re, e, q⟩ := h
  rw [ex] at e
  split at e
  · rename_i ds hd
    split at e
    · rename_i hh
      rw [Option.map_eq_some_iff] at e
      obtain ⟨ρ', e1, rfl⟩ := e
      refine ⟨H0, B0, ρ, ds, re, hd, fun vs H1 e2 r1 r2 => ?_⟩
      exact ⟨by rw [r1.len]; exact (setAll_len _ _ _ _ e1).symm, gNs_ok (re.mono e2) e1 (r2 hh.1) fun σ' re' _ => q σ' H1 re'⟩
    · cases e
  · cases e
theorem nmF_some {env : PySem.Env} {line : Nat} {x y : Str} {p : Pos} (h : nmF env line (.Name x p) = some y) : y = x ∧ env.scope.names.lookup x = some .local := by
  unfold nmF at h
  dsimp only at h
  split at h
  · rename_i hh
    rw [Bool.and_eq_true] at hh
    cases h
    exact ⟨rfl, beq_iff_eq.mp hh.1⟩
  · cases h
theorem tVA_mono {as' : XEs} {σ : L2.St} {H : Hp} {Q Q' : List V → Hp → Prop} (h : tVA Γ as' σ H Q) (k : ∀ vs H, Q vs H → Q' vs H) : tVA Γ as' σ H Q' := by
  obtain ⟨H0, B0, ρ, ds, re, e, q⟩ := h
  exact ⟨H0, B0, ρ, ds, re, e, fun vs H' e1 r1 r2 => k _ _ (q vs H' e1 r1 r2)⟩
theorem edl : ∀ (n : Nat) (l : List Str), l.length ≤ n → l.eraseDups.length ≤ l.length
  | _, [], _ => by simp
  | 0, _ :: _, h => by simp at h
  | n + 1, a :: l, h => by
    rw [List.eraseDups_cons, List.length_cons, List.length_cons]
    have h1 := List.length_filter_le (fun b => !b == a) l
    have h2 := edl n (l.filter fun b => !b == a) (by simp at h; omega)
    omega
theorem ed3 {x y z : Str} (h : [x, y, z].eraseDups.length = 3) : x ≠ y ∧ x ≠ z ∧ y ≠ z := by
  have key : ∀ (a : Str) (l : List Str), (a :: l).eraseDups.length ≤ (l.filter fun b => !b == a).length + 1 := fun a l => by
    rw [List.eraseDups_cons, List.length_cons]
    have := edl _ (l.filter fun b => !b == a) (Nat.le_refl _)
    omega
  refine ⟨fun e => ?_, fun e => ?_, fun e => ?_⟩
  · subst e
    have k := key x [x, z]
    have : (List.filter (fun b => !b == x) [x, z]).length ≤ 1 := by
      rw [List.filter_cons_of_neg (by simp)]
      exact List.length_filter_le _ _
    omega
  · subst e
    have k := key x [y, x]
    have : (List.filter (fun b => !b == x) [y, x]).length ≤ 1 := by
      rw [List.filter_cons]
      split
      · simp
      · simp
    omega
  · subst e
    rw [List.eraseDups_cons, List.length_cons] at h
    by_cases q : y = x
    · subst q
      simp at h
    · rw [List.filter_cons_of_pos (by simp [q]), List.filter_cons_of_pos (by simp [q])] at h
      have k := key y [y]
      have : (List.filter (fun b => !b == y) [y]).length = 0 := by simp
      have e : List.filter (fun b => !b == x) [] = ([] : List Str) := rfl
      rw [e] at h
      omega
theorem s_par (ok : Cok Γ c k X) {n : Nat} {ts es : List Expr} {kk k2 : Nat} {tp p2 : Pos} {js : List Nat} {as' : XEs} (ht : trNs c ts = some js) (h : trEs n c es = some as') (hck : es.all (constantsAlone 8) = false ∨ es.all (foldedForSure 8) = true) :
    PS X (.Assign [.Tuple ts kk tp] (.Tuple es k2 p2) pos) (tVS Γ (.par js as')) := by
  have S := sound Γ n
  obtain ⟨pa, pp⟩ := S.a c X k ok es as' h
  rcases sw_cases (ts := ts) (vs := es) (kk := kk) (k2 := k2) (tp := tp) (p2 := p2) (env := X.env) hck with hs | ⟨hlen, hvl, hnl, hnd, hs⟩
  · have htg : trTg c (.Tuple ts kk tp) = some (.tp js) := by simp only [trTg, ht]; rfl
    exact (ps_asg (s_tup pa) (s_tg ok htg) rfl hs rfl).imp par_none
  · have loc : ∀ {x : Str} {i : Nat}, ixS x c.N = some i → X.N[i]? = some x := fun h => by rw [ok.hN]; exact ixS_get h
    have one : ∀ {e : Expr} {es : List Expr} {js : List Nat}, trNs c (e :: es) = some js → ∃ x p i js', e = .Name x p ∧ ixS x c.N = some i ∧ trNs c es = some js' ∧ js = i :: js' := by
      intro e es js h
      cases e with
      | Name x p =>
        simp only [trNs] at h
        split at h
        · split at h
          · rename_i i is h1 h2
            cases h
            exact ⟨x, p, i, is, rfl, h1, h2, rfl⟩
          · cases h
        · cases h
      | _ => simp only [trNs] at h; cases h
    have fm : ∀ {f : Expr → Option Str} {l : List Expr}, (l.filterMap f).length = l.length → ∀ e ∈ l, ∃ y, f e = some y := by
      intro f l
      induction l with
      | nil => intro _ e he; cases he
      | cons a l ih =>
        intro hl e he
        have hle : (l.filterMap f).length ≤ l.length := List.length_filterMap_le f l
        cases hf : f a with
        | none =>
          rw [List.filterMap_cons_none hf, List.length_cons] at hl
          omega
        | some y =>
          rw [List.filterMap_cons_some hf, List.length_cons, List.length_cons] at hl
          rcases List.mem_cons.mp he with rfl | he
          · exact ⟨y, hf⟩
          · exact ih (by omega) e he
    rcases hlen with hlen | hlen
    · match ts, es, hlen, hvl with
      | [t1, t2], [e1, e2], _, _ =>
        obtain ⟨x, px, i, js1, rfl, hi, ht1, rfl⟩ := one ht
        obtain ⟨y, py, j, js2, rfl, hj, ht2, rfl⟩ := one ht1
        cases ht2
        obtain ⟨x', hx⟩ := fm hnl (.Name x px) (by simp)
        obtain ⟨y', hy⟩ := fm hnl (.Name y py) (by simp)
        obtain ⟨rfl, lx⟩ := nmF_some hx
        obtain ⟨rfl, ly⟩ := nmF_some hy
        have hnames : ([Expr.Name x' px, .Name y' py].filterMap (nmF X.env (([Expr.Name x' px, .Name y' py].head?.map (·.pos.line)).getD 0))) = [x', y'] := by
          rw [List.filterMap_cons_some hx, List.filterMap_cons_some hy]
          rfl
        rw [hnames] at hs hnd
        have hxy : x' ≠ y' := by
          rintro rfl
          simp [List.eraseDups_cons] at hnd
        have hij : i ≠ j := by
          rintro rfl
          exact hxy (Option.some.inj ((loc hi).symm.trans (loc hj)))
        refine (ps_par ok.calm ok.nd (loc hi) (loc hj) hij lx ly pa hs).imp fun D σ H q => ?_
        refine tVA_mono (par_some q) fun vs H1 ⟨hl, g⟩ => ?_
        match vs, hl with
        | [v, w], _ =>
          obtain ⟨_, r, e, g⟩ := g
          cases e
          obtain ⟨_, r, e, g⟩ := g
          cases e
          obtain ⟨_, g⟩ := g
          exact ⟨v, w, rfl, g⟩
    · match ts, es, hlen, hvl with
      | [t1, t2, t3], [e1, e2, e3], _, _ =>
        obtain ⟨x, px, i, js1, rfl, hi, ht1, rfl⟩ := one ht
        obtain ⟨y, py, j, js2, rfl, hj, ht2, rfl⟩ := one ht1
        obtain ⟨z, pz, l, js3, rfl, hl, ht3, rfl⟩ := one ht2
        cases ht3
        obtain ⟨x', hx⟩ := fm hnl (.Name x px) (by simp)
        obtain ⟨y', hy⟩ := fm hnl (.Name y py) (by simp)
        obtain ⟨z', hz⟩ := fm hnl (.Name z pz) (by simp)
        obtain ⟨rfl, lx⟩ := nmF_some hx
        obtain ⟨rfl, ly⟩ := nmF_some hy
        obtain ⟨rfl, lz⟩ := nmF_some hz
        have hnames : ([Expr.Name x' px, .Name y' py, .Name z' pz].filterMap (nmF X.env (([Expr.Name x' px, .Name y' py, .Name z' pz].head?.map (·.pos.line)).getD 0))) = [x', y', z'] := by
          rw [List.filterMap_cons_some hx, List.filterMap_cons_some hy, List.filterMap_cons_some hz]
          rfl
        rw [hnames] at hs hnd
        obtain ⟨hxy, hxz, hyz⟩ := ed3 hnd
        have ne : ∀ {x y : Str} {i j : Nat}, ixS x c.N = some i → ixS y c.N = some j → x ≠ y → i ≠ j := by
          rintro x y i j h1 h2 h3 rfl
          exact h3 (Option.some.inj ((loc h1).symm.trans (loc h2)))
        refine (ps_par3 ok.calm ok.nd (loc hi) (loc hj) (loc hl) (ne hi hj hxy) (ne hi hl hxz) (ne hj hl hyz) lx ly lz pa hs).imp fun D σ H q => ?_
        refine tVA_mono (par_some q) fun vs H1 ⟨hl, g⟩ => ?_
        match vs, hl with
        | [v, w, u], _ =>
          obtain ⟨_, r, e, g⟩ := g
          cases e
          obtain ⟨_, r, e, g⟩ := g
          cases e
          obtain ⟨_, r, e, g⟩ := g
          cases e
          obtain ⟨_, g⟩ := g
          exact ⟨v, w, u, rfl, g⟩
end
end VI
set_option Elab.async false
set_option linter.all false
set_option maxRecDepth 100000
set_option maxHeartbeats 4000000
/-! VI9: stores into lists, loops. -/
namespace VI
open PySem PySem.Spec PyProof.Rows L2
section
variable {X : Cx} {Γ : Tab} {c : Co} {k : Nat} {pos : Pos}
theorem nm_ok (ok : Cok Γ c k X) {l : Expr} {i : Nat} (h : nmIx c l = some i) : ∃ x p, l = .Name x p ∧ PE X l (tVar i) ∧ X.N[i]? = some x := by
  cases l with
  | Name x p =>
    simp only [nmIx] at h
    split at h
    · rename_i hh
      obtain ⟨l1, _⟩ := locB_ok ok hh.1
      have hN : X.N[i]? = some x := by rw [ok.hN]; exact ixS_get h
      exact ⟨x, p, rfl, pe_var hN (l1.elim .inl fun z => .inr (.inl z)) hh.2.1 hh.2.2, hN⟩
    · cases h
  | _ => simp only [nmIx] at h; cases h
theorem ownL_ok {ρ : Env} {i : Nat} {ds : List D} (h : ownL ρ i = some ds) : ρ[i]? = some (some (.own, .list ds)) := by
  unfold ownL at h
  split at h
  · cases h
    assumption
  · cases h
/-- an own list at hand -/
theorem RE.ownAt {H0 H : Hp} {B0 : Addr → Prop} {ρ : Env} {σ : L2.St} {i : Nat} {ds : List D} (re : RE H0 B0 ρ σ H) (h : ownL ρ i = some ds) : ∃ p vs, σ[i]? = some (some (.ref p)) ∧ H p = some (.lst vs) ∧ vs.length ≤ lim ∧ RpAll (Bad B0 ρ σ) H vs ds := by
  obtain ⟨p, vs, ds', e, a, b, l, n, r⟩ := re.own i _ (ownL_ok h)
  cases e
  exact ⟨p, vs, a, b, l, r⟩
theorem s_setx (ok : Cok Γ c k X) {l kk e : Expr} {sp : Pos} {i : Nat} {k' e' : XE} (hl : nmIx c l = some i) (hk : PE X kk (tV Γ k')) (he : PE X e (tV Γ e')) (hpk : plainE kk = true) (hp : plainE e = true) : PS X (.Assign [.Subscript l kk sp] e pos) (tVS Γ (.setx i k' e')) := by
  obtain ⟨x, p, rfl, hv, _⟩ := nm_ok ok hl
  have h1 : swapsWithSole [.Subscript (.Name x p) kk sp] e pos.line X.env = pure false := by
    cases e <;> first | rfl | cases hp
  have h2 : swappedStores [.Subscript (.Name x p) kk sp] e X.env = pure none := by
    cases e <;> first | rfl | cases hp
  refine (ps_asg he (pg_sub hv hk set_list (by intro _; cases kk <;> first | rfl | cases hpk)) h1 h2 rfl).imp fun D σ H ⟨H0, B0, ρ, o, re, ee, q⟩ => ?_
  rw [ex] at ee
  split at ee
  rotate_left
  · cases ee
  rename_i d ds j hd hds hj
  split at ee
  rotate_left
  · cases ee
  rename_i m hm
  split at ee
  rotate_left
  · cases ee
  rename_i hsf
  cases ee
  refine ⟨H0, B0, _, d, re.dem e', hd, fun v H1 e1 r1 => ?_⟩
  have re1 := (re.dem e').mono e1
  obtain ⟨a, vs, g1, g2, g3, g4⟩ := re1.ownAt hds
  refine tvar_at g1 ⟨H0, B0, _, .int j, re1, hj, fun w H2 e2 r2 => ?_⟩
  have re2 := re1.mono e2
  refine ⟨a, vs, j, m, rfl, r2.rt.int, e2 _ _ g2, by rw [g4.len]; exact hm, ?_⟩
  exact q _ _ (re2.mut (ownL_ok hds) g1 (by rw [List.length_set]; exact g3) ((g4.mono e2).set m ((r1.rp hsf).mono e2)))
theorem s_swp (ok : Cok Γ c k X) {l l2 k1 k2 e1 e2 : Expr} {sp sp2 tp p2 : Pos} {q1 q2 i : Nat} {k1' k2' e1' e2' : XE} (hl : nmIx c l = some i) (hl2 : nmIx c l2 = some i) (hk1 : PE X k1 (tV Γ k1')) (hk2 : PE X k2 (tV Γ k2')) (he1 : PE X e1 (tV Γ e1')) (he2 : PE X e2 (tV Γ e2'))
    (pk1 : plainE k1 = true) (pk2 : plainE k2 = true) (pe1 : plainE e1 = true) (pe2 : plainE e2 = true) : PS X (.Assign [.Tuple [.Subscript l k1 sp, .Subscript l2 k2 sp2] q1 tp] (.Tuple [e1, e2] q2 p2) pos) (tVS Γ (.swp i k1' k2' e1' e2')) := by
  obtain ⟨x, p, rfl, hv, _⟩ := nm_ok ok hl
  obtain ⟨x2, p', rfl, hv2, _⟩ := nm_ok ok hl2
  have h2 : swappedStores [.Tuple [.Subscript (.Name x p) k1 sp, .Subscript (.Name x2 p') k2 sp2] q1 tp] (.Tuple [e1, e2] q2 p2) X.env = pure none := by
    rw [sw_eq]
    split
    · rfl
    split
    · rfl
    exact if_pos (by rfl)
  refine (ps_asg (pe_tup (pa_cons he1 (pa_cons he2 pa_nil (star_plain pe2 _ _)) (star_plain pe1 _ _))) (pg_tup ok.calm (pgs_cons (pg_sub hv hk1 set_list (by intro _; cases k1 <;> first | rfl | cases pk1)) (pgs_cons (pg_sub hv2 hk2 set_list (by intro _; cases k2 <;> first | rfl | cases pk2)) pgs_nil))) rfl h2 rfl).imp fun D σ H ⟨H0, B0, ρ, o, re, ee, q⟩ => ?_
  rw [ex] at ee
  split at ee
  rotate_left
  · cases ee
  rename_i d1 d2 ds j1 hd1 hd2 hds hj1
  split at ee
  rotate_left
  · cases ee
  rename_i m1 hm1
  split at ee
  rotate_left
  · cases ee
  rename_i hsf
  rw [Bool.and_eq_true] at hsf
  split at ee
  rotate_left
  · cases ee
  rename_i j2 hj2
  split at ee
  rotate_left
  · cases ee
  rename_i m2 hm2
  cases ee
  refine ⟨H0, B0, ρ, d1, re, hd1, fun v1 H1 s1 r1 => ⟨H0, B0, ρ, d2, re.mono s1, hd2, fun v2 H2 s2 r2 => ⟨by show 2 ≤ sizeLine; decide, fun T nT => ?_⟩⟩⟩
  have s3 : Same H2 (upd H2 T (.tup [v1, v2])) := same_new nT
  have re3 := ((re.mono s1).mono s2).mono s3
  refine ⟨T, [v1, v2], rfl, SqT.of upd_same, rfl, v1, [v2], rfl, ?_⟩
  obtain ⟨a, vs, g1, g2, g3, g4⟩ := re3.ownAt hds
  refine tvar_at g1 ⟨H0, B0, ρ, .int j1, re3, hj1, fun w H4 s4 r4 => ?_⟩
  have re4 := re3.mono s4
  refine ⟨a, vs, j1, m1, rfl, r4.rt.int, s4 _ _ g2, by rw [g4.len]; exact hm1, ?_⟩
  have re5 := re4.mut (ownL_ok hds) g1 (ws := vs.set m1 v1) (es := ds.set m1 d1) (by rw [List.length_set]; exact g3) ((g4.mono s4).set m1 (((r1.rp hsf.1).mono s2).mono (s3.trans s4)))
  have hi : i < ρ.length := (List.getElem?_eq_some_iff.mp (ownL_ok hds)).1
  have ho5 : (ρ.set i (some (Sta.own, PyData.list (ds.set m1 d1))))[i]? = some (some (.own, .list (ds.set m1 d1))) := set_at hi
  obtain ⟨a', vs', ds', e', b1, b2, b3, _, b5⟩ := re5.own i _ ho5
  rw [g1] at b1
  cases b1
  cases e'
  rw [upd_same] at b2
  cases b2
  refine ⟨v2, [], rfl, tvar_at g1 ⟨H0, B0, _, .int j2, re5, hj2, fun w' H6 s6 r6 => ?_⟩⟩
  have re6 := re5.mono s6
  refine ⟨a, vs.set m1 v1, j2, m2, rfl, r6.rt.int, s6 _ _ upd_same, by rw [List.length_set, g4.len]; exact hm2, rfl, ?_⟩
  have rv2 : Rp (Bad B0 (ρ.set i (some (Sta.own, PyData.list (ds.set m1 d1)))) σ) H6 v2 d2 := by
    have x1 : Rp (Bad B0 ρ σ) H4 v2 d2 := ((r2.rp hsf.2).mono s3).mono s4
    have x2 : Rp (Bad B0 (ρ.set i (some (Sta.own, PyData.list (ds.set m1 d1)))) σ) (upd H4 a (.lst (vs.set m1 v1))) v2 d2 := x1.tr fun b o q nb => by
      have hba : b ≠ a := fun z => nb (by rw [z]; exact .inr ⟨i, _, ownL_ok hds, g1⟩)
      refine ⟨by rw [upd_ne hba]; exact q, fun z => ?_⟩
      rcases z with z | ⟨j, y, y1, y2⟩
      · exact nb (.inl z)
      · rcases getset y1 with ⟨rfl, _, _⟩ | ⟨_, y1⟩
        · rw [g1] at y2
          cases y2
          exact hba rfl
        · exact nb (.inr ⟨j, y, y1, y2⟩)
    exact x2.mono s6
  have re7 := re6.mut ho5 g1 (ws := (vs.set m1 v1).set m2 v2) (es := (ds.set m1 d1).set m2 d2) (by rw [List.length_set, List.length_set]; exact g3) ((b5.mono s6).set m2 rv2)
  rw [List.set_set] at re7
  exact q _ _ re7
theorem s_aug (ok : Cok Γ c k X) {x : Str} {px : Pos} {i : Nat} {op : Operator} {e : Expr} {e' : XE} (hl : locB c x = true) (hi : ixS x c.N = some i) (he : PE X e (tV Γ e')) (hop : op = .Add ∨ op = .Sub) : PS X (.AugAssign (.Name x px) op e pos) (tVS Γ (.aug i op e')) := by
  obtain ⟨l1, l2⟩ := locB_ok ok hl
  have hN : X.N[i]? = some x := by rw [ok.hN]; exact ixS_get hi
  have key : ∀ (f : Int → Int → Int) (D : Ends) (σ : L2.St) (H : Hp), (∃ H0 B0 ρ a b s, RE H0 B0 ρ σ H ∧ ρ[i]? = some (some (s, .int a)) ∧ ev Γ e' ρ = some (.int b) ∧ ∀ σ H, RE H0 B0 (ρ.set i (some (.shr, .int (f a b)))) σ H → D.nx σ H) → tAug i (tV Γ e') (ipI f) D σ H := by
    intro f D σ H ⟨H0, B0, ρ, a, b, s, re, h1, h2, q⟩
    obtain ⟨v, g1, g2, _⟩ := re.get h1
    refine ⟨v, g1, H0, B0, ρ, .int b, re, h2, fun w H1 s1 r1 => ⟨a, b, g2.int, r1.rt.int, ?_⟩⟩
    exact q _ _ ((re.mono s1).put (List.getElem?_eq_some_iff.mp h1).1 (by decide) (fun _ => .int _) (fun z => by cases z))
  rcases hop with rfl | rfl
  · refine (ps_aug ok.nd hN l1 he ip_add l2).imp fun D σ H ⟨H0, B0, ρ, o, re, ee, q⟩ => key _ D σ H ?_
    rw [ex] at ee
    split at ee
    · rename_i s a b h1 h2
      cases ee
      exact ⟨H0, B0, ρ, a, b, s, re, h1, h2, q⟩
    · cases ee
  · refine (ps_aug ok.nd hN l1 he ip_sub l2).imp fun D σ H ⟨H0, B0, ρ, o, re, ee, q⟩ => key _ D σ H ?_
    rw [ex] at ee
    split at ee
    · rename_i s a b h1 h2
      cases ee
      exact ⟨H0, B0, ρ, a, b, s, re, h1, h2, q⟩
    · cases ee
theorem few1 {e : Expr} (hp : plainE e = true) (cpos : Pos) (env : PySem.Env) : ((backTo cpos (starEach [e] env)).all (fun x => !x.1) && (backToKw cpos (keywordEach [] env)).all (fun x => x.1.isSome)
      && decide (([e] : List Expr).length + ([] : List Keyword).length + (if ([] : List Keyword).isEmpty then 0 else 1) < 30)) = true := by
  rw [star_plain hp]
  rfl
theorem few2 {e f : Expr} (hp : plainE e = true) (hp2 : plainE f = true) (cpos : Pos) (env : PySem.Env) : ((backTo cpos (starEach [e, f] env)).all (fun x => !x.1) && (backToKw cpos (keywordEach [] env)).all (fun x => x.1.isSome)
      && decide (([e, f] : List Expr).length + ([] : List Keyword).length + (if ([] : List Keyword).isEmpty then 0 else 1) < 30)) = true := by
  rw [star_plain hp, star_plain hp2]
  rfl
theorem s_app (ok : Cok Γ c k X) {l e : Expr} {ap cp : Pos} {i : Nat} {e' : XE} (hl : nmIx c l = some i) (he : PE X e (tV Γ e')) (hp : plainE e = true) (hline : (ap.endLine == cp.line) = true) : PS X (.Expr (.Call (.Attribute l "append" ap) [e] [] cp) pos) (tVS Γ (.app i e')) := by
  obtain ⟨x, p, rfl, hv, _⟩ := nm_ok ok hl
  refine (ps_expr (pe_bm PySem.F.plainAttrs_list PySem.F.slot_list_append PySem.F.type_list_append mt_append hv (pa_cons he pa_nil (star_plain hp _ _)) rfl (few1 hp cp X.env) hline (star_plain hp _ _) rfl)).imp fun D σ H ⟨H0, B0, ρ, o, re, ee, q⟩ => ?_
  rw [ex] at ee
  split at ee
  rotate_left
  · cases ee
  rename_i ds d hds hd
  split at ee
  rotate_left
  · cases ee
  rename_i hh
  cases ee
  have re0 := re.dem e'
  obtain ⟨a, vs, g1, g2, g3, g4⟩ := re0.ownAt hds
  refine ⟨_, g1, .inl ⟨rfl, _, SqL.of g2⟩, H0, B0, _, d, re0, hd, fun v H1 s1 r1 => ?_⟩
  have hlen : vs.length < lim := by rw [g4.len]; exact hh.2
  refine ⟨a, vs, v, rfl, rfl, s1 _ _ g2, limLt (Nat.le_of_lt hlen), ?_⟩
  exact q _ _ ((re0.mono s1).mut (ownL_ok hds) g1 (by rw [List.length_append, List.length_singleton]; exact hlen) ((g4.mono s1).app (.cons (r1.rp hh.1) .nil)))
theorem s_ins (ok : Cok Γ c k X) {l kk e : Expr} {ap cp : Pos} {i : Nat} {k' e' : XE} (hl : nmIx c l = some i) (hk : PE X kk (tV Γ k')) (he : PE X e (tV Γ e')) (hpk : plainE kk = true) (hp : plainE e = true) (hline : (ap.endLine == cp.line) = true) :
    PS X (.Expr (.Call (.Attribute l "insert" ap) [kk, e] [] cp) pos) (tVS Γ (.ins i k' e')) := by
  obtain ⟨x, p, rfl, hv, _⟩ := nm_ok ok hl
  refine (ps_expr (pe_bm PySem.F.plainAttrs_list PySem.F.slot_list_insert PySem.F.type_list_insert mt_insert hv (pa_cons hk (pa_cons he pa_nil (star_plain hp _ _)) (star_plain hpk _ _)) rfl (few2 hpk hp cp X.env) hline (star_plain hpk _ _) (star_any fun z hz => by simp at hz; subst hz; exact hp))).imp fun D σ H ⟨H0, B0, ρ, o, re, ee, q⟩ => ?_
  rw [ex] at ee
  split at ee
  rotate_left
  · cases ee
  rename_i ds j d hds hj hd
  split at ee
  rotate_left
  · cases ee
  rename_i hh
  cases ee
  have re0 := re.dem e'
  obtain ⟨a, vs, g1, g2, g3, g4⟩ := re0.ownAt hds
  refine ⟨_, g1, .inl ⟨rfl, _, SqL.of g2⟩, H0, B0, _, .int j, re0, hj, fun w H1 s1 r1 => ⟨H0, B0, _, d, re0.mono s1, hd, fun v H2 s2 r2 => ?_⟩⟩
  have hlen : vs.length < lim := by rw [g4.len]; exact hh.2.1
  refine ⟨a, vs, j, v, rfl, by rw [r1.rt.int], s2 _ _ (s1 _ _ g2), limLt (Nat.le_of_lt hlen), hh.2.2.1, by have := hh.2.2.2; omega, ?_⟩
  have g5 := (g4.mono s1).mono s2
  exact q _ _ (((re0.mono s1).mono s2).mut (ownL_ok hds) g1 (by simp only [List.length_append, List.length_take, List.length_drop, List.length_singleton]; omega) (((g5.take j.toNat).app (.cons (r2.rp hh.1) .nil)).app (g5.drop j.toNat)))
theorem s_pop (ok : Cok Γ c k X) {x : Str} {px : Pos} {l kk : Expr} {ap cp : Pos} {i j : Nat} {k' : XE} (hlx : locB c x = true) (hi : ixS x c.N = some i) (hl : nmIx c l = some j) (hk : PE X kk (tV Γ k')) (hpk : plainE kk = true) (hline : (ap.endLine == cp.line) = true) :
    PS X (.Assign [.Name x px] (.Call (.Attribute l "pop" ap) [kk] [] cp) pos) (tVS Γ (.pop i j k')) := by
  obtain ⟨y, p, rfl, hv, _⟩ := nm_ok ok hl
  obtain ⟨l1, l2⟩ := locB_ok ok hlx
  have hN : X.N[i]? = some x := by rw [ok.hN]; exact ixS_get hi
  refine (ps_set ok.nd hN l1 (pe_bm PySem.F.plainAttrs_list PySem.F.slot_list_pop PySem.F.type_list_pop mt_popAt hv (pa_cons hk pa_nil (star_plain hpk _ _)) rfl (few1 hpk cp X.env) hline (star_plain hpk _ _) rfl) rfl l2).imp fun D σ H ⟨H0, B0, ρ, o, re, ee, q⟩ => ?_
  rw [ex] at ee
  split at ee
  rotate_left
  · cases ee
  rename_i ds m hds hm
  split at ee
  rotate_left
  · cases ee
  rename_i hh
  split at ee
  rotate_left
  · cases ee
  rename_i d hd
  cases ee
  obtain ⟨a, vs, g1, g2, g3, g4⟩ := re.ownAt hds
  refine ⟨_, g1, .inl ⟨rfl, _, SqL.of g2⟩, H0, B0, ρ, .int m, re, hm, fun w H1 s1 r1 => ?_⟩
  have g5 := g4.mono s1
  obtain ⟨v, y1, y2⟩ := g5.get hd
  have hml : m.toNat < vs.length := (List.getElem?_eq_some_iff.mp y1).1
  refine ⟨a, vs, m, m.toNat, v, rfl, by rw [r1.rt.int], s1 _ _ g2, by omega, by have := limOk g3; rw [sizeLine_eq] at this; omega, PySem.StrLaws.seqIndex_nonneg hh.1 (by omega), y1, ?_⟩
  have re2 := (re.mono s1).mut (ownL_ok hds) g1 (ws := vs.eraseIdx m.toNat) (es := ds.eraseIdx m.toNat) (Nat.le_trans (len_erase vs m.toNat) g3) (g5.erase m.toNat)
  refine q _ _ (re2.put (by rw [List.length_set]; exact hh.2.2) (by decide) (fun _ => ?_) (fun z => by cases z))
  refine y2.tr fun b oo qq nb => ?_
  have hba : b ≠ a := fun z => nb (by rw [z]; exact .inr ⟨j, _, ownL_ok hds, g1⟩)
  refine ⟨by rw [upd_ne hba]; exact qq, fun z => ?_⟩
  rcases z with z | ⟨j', y, z1, z2⟩
  · exact nb (.inl z)
  · rcases getset z1 with ⟨rfl, _, _⟩ | ⟨_, z1⟩
    · rw [g1] at z2
      cases z2
      exact hba rfl
    · exact nb (.inr ⟨j', y, z1, z2⟩)
end
end VI
set_option Elab.async false
set_option linter.all false
set_option maxRecDepth 100000
set_option maxHeartbeats 4000000
/-! VI10: loops, remove; a def's body; the rule for a def. -/
namespace VI
open PySem PySem.Spec PyProof.Rows L2
/-! ### while -/
def whlN (t : Env → Option D) (f : Env → Option Out) : Nat → Env → Option Out
  | 0, _ => none
  | n + 1, ρ => match t ρ with
    | some (.bool true) => match f ρ with
      | some (.nx ρ') => whlN t f n ρ'
      | some (.ct ρ') => whlN t f n ρ'
      | some (.bk ρ') => some (.nx ρ')
      | some (.rt fr x) => some (.rt fr x)
      | none => none
    | some (.bool false) => some (.nx ρ)
    | _ => none
theorem whl_n (t : Env → Option D) (f : Env → Option Out) : ∀ (ρ : Env) (o : Out), whlGo t f ρ = some o → ∃ n, whlN t f n ρ = some o := by
  apply whlGo.partial_correctness t f (fun ρ o => ∃ n, whlN t f n ρ = some o)
  intro g ih ρ o h
  split at h
  · rename_i h1
    split at h
    · rename_i ρ' h2
      obtain ⟨n, hn⟩ := ih _ _ h
      exact ⟨n + 1, by simp only [whlN, h1, h2, hn]⟩
    · rename_i ρ' h2
      obtain ⟨n, hn⟩ := ih _ _ h
      exact ⟨n + 1, by simp only [whlN, h1, h2, hn]⟩
    · rename_i ρ' h2
      exact ⟨1, by simp only [whlN, h1, h2, h]⟩
    · rename_i fr x h2
      cases h
      exact ⟨1, by simp only [whlN, h1, h2]⟩
    · cases h
  · rename_i h1
    exact ⟨1, by simp only [whlN, h1, h]⟩
  · cases h
section
variable {X : Cx} {Γ : Tab} {c : Co} {k : Nat} {pos : Pos}
theorem passes (ok : Cok Γ c k X) : PassesOwn (model X.prog X.w) X.A X.env X.xe := by
  rw [ok.xe]
  exact PassesOwn.never
theorem s_whl (ok : Cok Γ c k X) {t : Expr} {b : List Stmt} {t' : XE} {b' : XSs} (ht : PT X t (tVT Γ t')) (hb : PSs X b (tVSs Γ b')) : PS X (.While t b [] pos) (tVS Γ (.whl t' b')) := (ps_while (passes ok) ht hb).imp fun D σ H ⟨H0, B0, ρ, o, re, e, q⟩ => by
  rw [ex] at e
  obtain ⟨n, hn⟩ := whl_n _ _ _ _ e
  refine ⟨fun m σ H => ∃ ρ, RE H0 B0 ρ σ H ∧ whlN (ev Γ t') (exs Γ b') m ρ = some o, ⟨n, ρ, re, hn⟩, ?_⟩
  rintro m σ1 H1 ⟨ρ1, re1, h1⟩
  cases m with
  | zero => cases h1
  | succ m =>
    simp only [whlN] at h1
    split at h1
    · rename_i h2
      refine ⟨H0, B0, ρ1, true, re1, h2, fun H2 s2 => iteT ?_⟩
      refine ⟨fun σ' H' => ∃ ρ', RE H0 B0 ρ' σ' H' ∧ whlN (ev Γ t') (exs Γ b') m ρ' = some o, fun σ' H' ⟨ρ', a, b⟩ => ⟨m, Nat.lt_succ_self m, ρ', a, b⟩, ?_⟩
      split at h1
      · rename_i ρ' h3
        exact ⟨H0, B0, ρ1, _, re1.mono s2, h3, fun σ' H' r => ⟨ρ', r, h1⟩⟩
      · rename_i ρ' h3
        exact ⟨H0, B0, ρ1, _, re1.mono s2, h3, fun σ' H' r => ⟨ρ', r, h1⟩⟩
      · rename_i ρ' h3
        cases h1
        exact ⟨H0, B0, ρ1, _, re1.mono s2, h3, fun σ' H' r => q σ' H' r⟩
      · rename_i fr x h3
        cases h1
        exact ⟨H0, B0, ρ1, _, re1.mono s2, h3, fun v H' s r f => q v H' s r f⟩
      · cases h1
    · rename_i h2
      cases h1
      exact ⟨H0, B0, ρ1, false, re1, h2, fun H2 s2 => iteF (q σ1 H2 (re1.mono s2))⟩
    · cases h1
/-! ### for -/
theorem RE.guard {H0 H : Hp} {B0 : Addr → Prop} {ρ : Env} {σ : L2.St} (re : RE H0 B0 ρ σ H) : RE (gd ρ σ H) B0 ρ σ H := by
  refine ⟨gd_same, fun p h => ?_, re.len, re.shr, re.arg, fun i d h => ?_, re.dist⟩
  · obtain ⟨vs, g⟩ := re.bad p h
    refine ⟨vs, gd_some.mpr ⟨fun ⟨i, d, h1, h2⟩ => ?_, re.ext _ _ g⟩⟩
    obtain ⟨q, _, _, _, b, _, _, n, _⟩ := re.own i d h1
    rw [h2] at b
    cases b
    rw [n] at g
    cases g
  · obtain ⟨p, vs, ds, a, b, c, l, n, r⟩ := re.own i d h
    exact ⟨p, vs, ds, a, b, c, l, gd_none ⟨i, d, h, b⟩, r⟩
theorem RE.unguard {H0 G H : Hp} {B0 : Addr → Prop} {ρ : Env} {σ : L2.St} (s : Same H0 G) (hb : ∀ p, B0 p → ∃ vs, H0 p = some (.lst vs)) (re : RE G B0 ρ σ H) : RE H0 B0 ρ σ H := by
  refine ⟨s.trans re.ext, hb, re.len, re.shr, re.arg, fun i d h => ?_, re.dist⟩
  obtain ⟨p, vs, ds, a, b, c, l, n, r⟩ := re.own i d h
  exact ⟨p, vs, ds, a, b, c, l, s.free n, r⟩
theorem gd_over {H0 H : Hp} {B0 : Addr → Prop} {ρ : Env} {σ : L2.St} (re : RE H0 B0 ρ σ H) : Same H0 (gd ρ σ H) := fun a o h => by
  refine gd_some.mpr ⟨fun ⟨i, d, h1, h2⟩ => ?_, re.ext _ _ h⟩
  obtain ⟨q, _, _, _, b, _, _, n, _⟩ := re.own i d h1
  rw [h2] at b
  cases b
  rw [n] at h
  cases h
def forF (Γ : Tab) (tg : XT) (b : XSs) : D → Env → Option Out := fun d ρ => match setT ρ tg d with
  | some ρ1 => exs Γ b ρ1
  | none => none
theorem ex_for {tg : XT} {it : XI} {b : XSs} {ρ0 : Env} : ex Γ (.for tg it b) ρ0 = match evi Γ it (demI ρ0 it) with
    | some ds => forGo (forF Γ tg b) ds (demI ρ0 it)
    | none => none := by
  rw [ex]
  rfl
theorem for_core {K : PySem.W.Frag} {H0 H1 : Hp} {B0 : Addr → Prop} {ρ : Env} {σ : L2.St} {tg' : XT} {b' : XSs} {J : It} {ds : List D} {o : Out} {D : Ends} (re1 : RE H0 B0 ρ σ H1) (wk : Wk B0 (gd ρ σ H1) J ds) (e : forGo (forF Γ tg' b') ds ρ = some o) (q : PostO H0 B0 D o) :
    ∃ W : Nat → Nat → L2.St → Hp → Prop, (∃ m, W 0 m σ H1) ∧ ∀ i m σ H, W i m σ H →
      (J.stop i H ∧ D.nx σ H) ∨ (J.go i H ∧ ∃ N : L2.St → Hp → Prop, (∀ σ' H', N σ' H' → ∃ m', m' < m ∧ W (i + 1) m' σ' H') ∧ ∀ x H', J.yld i H x H' → tgV K tg' x σ H' fun σ2 H2 => tVSs Γ b' { D with nx := N, ct := N, bk := D.nx } σ2 H2) := by
  generalize hG : gd ρ σ H1 = G at wk
  have reG : RE G B0 ρ σ H1 := by rw [← hG]; exact re1.guard
  have sG : Same H0 G := by rw [← hG]; exact gd_over re1
  refine ⟨fun i m σ H => m = ds.length - i ∧ i ≤ ds.length ∧ ∃ ρi, RE G B0 ρi σ H ∧ forGo (forF Γ tg' b') (ds.drop i) ρi = some o, ⟨ds.length, by simp, Nat.zero_le _, _, reG, by simpa using e⟩, ?_⟩
  rintro i m σi Hi ⟨rfl, hi, ρi, rei, hgo⟩
  obtain ⟨w1, w2, w3⟩ := wk i Hi rei.ext
  by_cases hlt : i < ds.length
  · refine .inr ⟨w1 hlt, fun σ' H' => ∃ ρ', RE G B0 ρ' σ' H' ∧ forGo (forF Γ tg' b') (ds.drop (i + 1)) ρ' = some o, fun σ' H' ⟨ρ', a, b⟩ => ⟨ds.length - (i + 1), by omega, rfl, hlt, ρ', a, b⟩, fun x H' hy => ?_⟩
    have hd : ds[i]? = some ds[i] := List.getElem?_eq_getElem hlt
    obtain ⟨s2, rx⟩ := w3 x H' hy _ hd
    have rx := rx (Bad B0 ρi σi) fun p hp => by
      refine ⟨?_, rei.hB.there p hp⟩
      rcases hp with hp | ⟨j, d, h1, h2⟩
      · exact .inl hp
      · obtain ⟨q', _, _, _, b, _, _, n, _⟩ := rei.own j d h1
        rw [h2] at b
        cases b
        exact .inr n
    rw [List.drop_eq_getElem_cons hlt] at hgo
    unfold forGo at hgo
    have re2 := rei.mono s2
    generalize hF : forF Γ tg' b' ds[i] ρi = r at hgo
    unfold forF at hF
    cases hs : setT ρi tg' ds[i] with
    | none => rw [hs] at hF; subst hF; cases hgo
    | some ρ1 =>
      rw [hs] at hF
      have hF : exs Γ b' ρ1 = r := hF
      refine tgV_ok re2 hs rx.rt (fun _ => rx) fun σ2 re3 _ => ?_
      cases r with
      | none => cases hgo
      | some r =>
        refine ⟨G, B0, ρ1, r, re3, hF, ?_⟩
        cases r with
        | nx ρ' => exact fun σ' H' r => ⟨ρ', r, hgo⟩
        | ct ρ' => exact fun σ' H' r => ⟨ρ', r, hgo⟩
        | bk ρ' =>
          cases hgo
          exact fun σ' H' r => q σ' H' (r.unguard sG re1.bad)
        | rt fr x =>
          cases hgo
          refine fun v H' s r f => q v H' (sG.trans s) r fun hf es ee => ?_
          obtain ⟨a, ws, y1, y2, y3⟩ := f hf es ee
          exact ⟨a, ws, y1, sG.free y2, y3⟩
  · have hi' : i = ds.length := by omega
    subst hi'
    refine .inl ⟨w2 (Nat.le_refl _), ?_⟩
    rw [List.drop_length] at hgo
    cases hgo
    exact q σi Hi (rei.unguard sG re1.bad)
theorem s_for (ok : Cok Γ c k X) {tg it : Expr} {b : List Stmt} {tg' : XT} {it' : XI} {b' : XSs} (hi : PI X tg it (tVI Γ it')) (hp : plainE it = true) (hg : PG X tg (tgV X.K tg')) (hb : PSs X b (tVSs Γ b')) : PS X (.For tg it b [] pos) (tVS Γ (.for tg' it' b')) := by
  refine (ps_for (passes ok) ok.calm hi hg hb (folded_plain hp X.env)).imp fun D σ H ⟨H0, B0, ρ, o, re, e, q⟩ => ?_
  rw [ex_for] at e
  split at e
  rotate_left
  · cases e
  rename_i ds hds
  exact ⟨H0, B0, _, ds, re.demI it', hds, fun J H1 s1 wk => for_core ((re.demI it').mono s1) wk e q⟩
/-! ### remove -/
def rRemD (K : PySem.W.Frag) : V → List V → Hp → VK → Prop := fun x xs H Q => ∃ (a : Addr) (y : V) (d : PyData) (vs : List V) (ds : List PyData) (j : Nat) (z : PyData), x = V.ref a ∧ xs = [y] ∧ H a = some (.lst vs) ∧ DpAll K H vs ds ∧ Dp K H y d ∧
  SeqAt.shaped (.list ds) = true ∧ SeqAt.shaped d = true ∧ ds[j]? = some z ∧ PyData.eqv z d = true ∧ (∀ (m : Nat) (z' : PyData), m < j → ds[m]? = some z' → PyData.eqv z' d = false) ∧ Q .non (upd H a (.lst (vs.eraseIdx j)))
theorem mt_removeD (hu : X.A.units + 65 < cLine) : MtM X "list.remove" (rRemD X.K) := by
  intro pins s σ H x xs v us Q I rx rxs h
  obtain ⟨a, y, d, vs, ds, j, z, rfl, rfl, hH, ha, hy, sl, sd, hz, hzj, hno, q⟩ := h
  cases rx
  obtain ⟨uy, rfl, ry⟩ := rxs.one
  obtain ⟨bs, r1⟩ := Dp.reads I d y uy hy ry
  have hxs : PyData.canLayAll0 ds = true := SeqAt.canLay_of_shaped sl
  have hroom : X.A.units + 1 + min (PyData.depthAll ds) d.depth < cLine := room_in_shaped sd hu
  obtain ⟨zz, its, n, rv, hlv, ho⟩ := I.lstM hH
  obtain ⟨as, h4⟩ := Dp.readsAll I ds _ its ha rv
  have hn : its.length = ds.length := SeqAt.ReadsAll.length ds its as h4
  have hmap : its.map (SeqAt.readOf s.heap) = ds := SeqAt.readsAll_map ds its as hxs h4
  have hsl := sizeLine_eq
  obtain ⟨hjd, _⟩ := List.getElem?_eq_some_iff.mp hz
  have hjl : j < its.length := by omega
  have hj : j < its.toArray.size := by simpa using hjl
  have at_ : ∀ (m : Nat) (hm : m < its.toArray.size) (z' : PyData), ds[m]? = some z' → SeqAt.readOf s.heap its.toArray[m] = z' := by
    intro m hm z' hz'
    have hml : m < its.length := by simpa using hm
    rw [← hmap, List.getElem?_map, List.getElem?_eq_getElem hml] at hz'
    have e1 : SeqAt.readOf s.heap its[m] = z' := Option.some.inj (show some (SeqAt.readOf s.heap its[m]) = some z' from hz')
    simpa using e1
  refine call_meets PySem.F.slot_list_remove ⟨_, ho, rfl⟩ PySem.F.entry_list_remove (PySem.F.args_list_remove_2 _ _)
    (SeqAt.list_removeAt a its.toArray n none #[] uy (fun u => PyData.eqv (SeqAt.readOf s.heap u) d) j hj ?_ ?_ (by rw [List.size_toArray]; omega)) ⟨ho, SeqAt.items_eqAt (vs := its.toArray) (show ReadsAll s.heap its.toArray.toList ds as from h4) r1 hxs (SeqAt.canLay_of_shaped sd) hroom, ?_⟩
  · show PyData.eqv (SeqAt.readOf s.heap its.toArray[j]) d = true
    rw [at_ j hj z hz]
    exact hzj
  · intro m hm hmj
    have hmd : m < ds.length := by omega
    have hz' : ds[m]? = some ds[m] := List.getElem?_eq_getElem hmd
    show PyData.eqv (SeqAt.readOf s.heap its.toArray[m]) d = false
    rw [at_ m hm _ hz']
    exact hno m _ hmj hz'
  · refine ⟨.non, _, I.lset (its' := its.eraseIdx j) (t' := s.toks) hH ho ?_ (rv.eraseIdx j) ?_, rfl, q⟩
    · show its.toArray.eraseIdxIfInBounds j = (its.eraseIdx j).toArray
      rw [List.eraseIdxIfInBounds_toArray]
    · have := len_erase vs j
      omega
theorem plD_ok {d : D} : ∀ {ds : List D} {j : Nat}, plD d ds = some j → ∃ z, ds[j]? = some z ∧ PyData.eqv z d = true ∧ ∀ (m : Nat) (z' : D), m < j → ds[m]? = some z' → PyData.eqv z' d = false
  | [], _, h => by cases h
  | x :: xs, j, h => by
    unfold plD at h
    split at h
    · rename_i hx
      cases h
      exact ⟨x, rfl, hx, fun m _ hm => absurd hm (Nat.not_lt_zero m)⟩
    · rename_i hx
      rw [Option.map_eq_some_iff] at h
      obtain ⟨j', h1, rfl⟩ := h
      obtain ⟨z, h2, h3, h4⟩ := plD_ok h1
      refine ⟨z, by simpa using h2, h3, fun m z' hm hz => ?_⟩
      cases m with
      | zero =>
        simp at hz
        subst hz
        simpa using hx
      | succ m => exact h4 m z' (by omega) (by simpa using hz)
theorem s_rem (ok : Cok Γ c k X) {l e : Expr} {ap cp : Pos} {i : Nat} {e' : XE} (hl : nmIx c l = some i) (he : PE X e (tV Γ e')) (hp : plainE e = true) (hline : (ap.endLine == cp.line) = true) : PS X (.Expr (.Call (.Attribute l "remove" ap) [e] [] cp) pos) (tVS Γ (.rem i e')) := by
  obtain ⟨x, p, rfl, hv, _⟩ := nm_ok ok hl
  have hu : X.A.units + 65 < cLine := by
    have := ok.room.un
    omega
  refine (ps_expr (pe_bm PySem.F.plainAttrs_list PySem.F.slot_list_remove PySem.F.type_list_remove (mt_removeD hu) hv (pa_cons he pa_nil (star_plain hp _ _)) rfl (few1 hp cp X.env) hline (star_plain hp _ _) rfl)).imp fun D σ H ⟨H0, B0, ρ, o, re, ee, q⟩ => ?_
  rw [ex] at ee
  split at ee
  rotate_left
  · cases ee
  rename_i ds d hds hd
  split at ee
  rotate_left
  · cases ee
  rename_i r hr
  cases ee
  unfold remD at hr
  split at hr
  rotate_left
  · cases hr
  rename_i hsh
  rw [Bool.and_eq_true] at hsh
  rw [Option.map_eq_some_iff] at hr
  obtain ⟨j, hj, rfl⟩ := hr
  obtain ⟨z, hz, hzj, hno⟩ := plD_ok hj
  obtain ⟨a, vs, g1, g2, g3, g4⟩ := re.ownAt hds
  refine ⟨_, g1, .inl ⟨rfl, _, SqL.of g2⟩, H0, B0, _, d, re, hd, fun v H1 s1 r1 => ?_⟩
  refine ⟨a, v, d, vs, ds, j, z, rfl, rfl, s1 _ _ g2, (g4.mono s1).dp, r1.rt.dp, hsh.1, hsh.2, hz, hzj, hno, ?_⟩
  exact q _ _ ((re.mono s1).mut (ownL_ok hds) g1 (Nat.le_trans (len_erase vs j) g3) ((g4.mono s1).erase j))

/-! ### all statements -/
structure SndS (Γ : Tab) (n : Nat) : Prop where
  s : ∀ c X k, Cok Γ c k X → ∀ s s', trS n c s = some s' → PS X s (tVS Γ s')
  ss : ∀ c X k, Cok Γ c k X → ∀ s s', trSs n c s = some s' → PSs X s (tVSs Γ s')
theorem snd_s {n : Nat} (S : SndS Γ n) (ok : Cok Γ c k X) {s : Stmt} {s' : XS} (h : trS (n + 1) c s = some s') : PS X s (tVS Γ s') := by
  have E := sound Γ n
  cases s with
  | Return e p =>
    cases e with
    | none => simp only [trS] at h; cases h
    | some e =>
      simp only [trS] at h
      split at h
      · rename_i hp
        rw [Option.map_eq_some_iff] at h
        obtain ⟨e', h1, rfl⟩ := h
        exact s_ret (E.e c X k ok e e' h1) fun i hi => by subst hi; exact var_of ok h1
      · cases h
  | If t a b p =>
    simp only [trS] at h
    split at h
    · split at h
      · rename_i t' a' b' h1 h2 h3
        cases h
        exact s_ife (E.t c X k ok t t' h1) (S.ss c X k ok a a' h2) (S.ss c X k ok b b' h3)
      · cases h
    · cases h
  | While t b e p =>
    cases e with
    | cons _ _ => simp only [trS] at h; cases h
    | nil =>
      simp only [trS] at h
      split at h
      · split at h
        · rename_i t' b' h1 h2
          cases h
          exact s_whl ok (E.t c X k ok t t' h1) (S.ss c X k ok b b' h2)
        · cases h
      · cases h
  | For tg it b e p =>
    cases e with
    | cons _ _ => simp only [trS] at h; cases h
    | nil =>
      simp only [trS] at h
      split at h
      · rename_i hp
        split at h
        · rename_i it' tg' b' h1 h2 h3
          cases h
          exact s_for ok (E.i c X k ok it tg it' h1).1 hp (s_tg ok h2) (S.ss c X k ok b b' h3)
        · cases h
      · cases h
  | Continue p => simp only [trS] at h; cases h; exact s_cont
  | Break p => simp only [trS] at h; cases h; exact s_brk
  | Pass p => simp only [trS] at h; cases h; exact s_pass
  | AugAssign tg op e p =>
    cases tg with
    | Name x q =>
      simp only [trS] at h
      split at h
      · rename_i hp
        split at h
        · rename_i i e' h1 h2
          split at h
          · rename_i hop
            cases h
            exact s_aug ok hp.2 h1 (E.e c X k ok e e' h2) hop
          · cases h
        · cases h
      · cases h
    | _ => simp only [trS] at h; cases h
  | Expr v p =>
    cases v with
    | Call f as kw cp =>
      cases kw with
      | cons _ _ => cases f <;> simp only [trS] at h <;> cases h
      | nil =>
        cases f with
        | Attribute l m ap =>
          simp only [trS] at h
          split at h
          · cases h
          rename_i hline
          have hline : (ap.endLine == cp.line) = true := by simpa using hline
          split at h
          · rename_i hm
            subst hm
            split at h
            · split at h
              · rename_i e hp
                split at h
                · rename_i i e' h1 h2
                  cases h
                  exact s_app ok h1 (E.e c X k ok _ e' h2) hp hline
                · cases h
              · cases h
            · cases h
          · split at h
            · rename_i hm
              subst hm
              split at h
              · split at h
                · rename_i hp
                  split at h
                  · rename_i i k' e' h1 h2 h3
                    cases h
                    exact s_ins ok h1 (E.e c X k ok _ k' h2) (E.e c X k ok _ e' h3) hp.1 hp.2 hline
                  · cases h
                · cases h
              · cases h
            · split at h
              · rename_i hm
                subst hm
                split at h
                · split at h
                  · rename_i e hp
                    split at h
                    · rename_i i e' h1 h2
                      cases h
                      exact s_rem ok h1 (E.e c X k ok _ e' h2) hp hline
                    · cases h
                  · cases h
                · cases h
              · cases h
        | _ => simp only [trS] at h; cases h
    | _ => simp only [trS] at h; cases h
  | Assign ts e p =>
    simp only [trS] at h
    unfold trA at h
    split at h
    · split at h
      · rename_i hh
        split at h
        · rename_i i j k' h1 h2 h3
          cases h
          obtain ⟨rfl, hl, hk⟩ := hh
          exact s_pop ok hk.2 h1 h2 (E.e c X k ok _ k' h3) hk.1 hl
        · cases h
      · cases h
    · split at h
      · rename_i hh
        split at h
        · rename_i i e' h1 h2
          cases h
          exact s_asg ok hh.2 h1 h2
        · cases h
      · cases h
    · split at h
      · rename_i js h1
        split at h
        · rename_i hck
          rw [Option.map_eq_some_iff] at h
          obtain ⟨as', h2, rfl⟩ := h
          exact s_par ok h1 h2 hck
        · cases h
      · split at h
        · split at h
          · rename_i hh
            split at h
            · rename_i i k1' k2' e1' e2' h1 h2 h3 h4 h5
              cases h
              obtain ⟨p1, p2, p3, p4, p5⟩ := hh
              exact s_swp ok h1 (by rw [← p5]; exact h1) (E.e c X k ok _ k1' h2) (E.e c X k ok _ k2' h3) (E.e c X k ok _ e1' h4) (E.e c X k ok _ e2' h5) p1 p2 p3 p4
            · cases h
          · cases h
        · cases h
    · rename_i ts a b hne
      split at h
      · rename_i hp
        split at h
        · rename_i js e' h1 h2
          cases h
          have htg : trTg c (.Tuple ts a b) = some (.tp js) := by simp only [trTg, h1]; rfl
          refine s_asgT ok htg h2 ?_
          cases e <;> first | rfl | cases hp | skip
          rename_i es kk tp
          exact (hne es kk tp rfl).elim
        · cases h
      · cases h
    · split at h
      · rename_i hp
        split at h
        · rename_i i k' e' h1 h2 h3
          cases h
          exact s_setx ok h1 (E.e c X k ok _ k' h2) (E.e c X k ok _ e' h3) hp.1 hp.2
        · cases h
      · cases h
    · cases h
  | _ => simp only [trS] at h; cases h
theorem snd_ss {n : Nat} (S : SndS Γ n) (ok : Cok Γ c k X) {s : List Stmt} {s' : XSs} (h : trSs (n + 1) c s = some s') : PSs X s (tVSs Γ s') := by
  cases s with
  | nil => simp only [trSs] at h; cases h; exact s_snil
  | cons s ss =>
    simp only [trSs] at h
    split at h
    · rename_i a b h1 h2
      cases h
      exact s_scons (S.s c X k ok s a h1) (S.ss c X k ok ss b h2)
    · cases h
theorem soundS (Γ : Tab) : ∀ n, SndS Γ n
  | 0 => ⟨fun c X k ok s s' h => (by simp only [trS] at h; cases h), fun c X k ok s s' h => (by simp only [trSs] at h; cases h)⟩
  | n + 1 => ⟨fun c X k ok s s' h => snd_s (soundS Γ n) ok h, fun c X k ok s s' h => snd_ss (soundS Γ n) ok h⟩
end
/-! ### a def -/
theorem start_get {N : List Str} {vs : List V} {i : Nat} {v : V} (h : vs[i]? = some v) : (L2.start N vs)[i]? = some (some v) := by
  unfold L2.start
  rw [List.getElem?_append_left (by simpa using (List.getElem?_eq_some_iff.mp h).1), List.getElem?_map, h]
  rfl
theorem startE_get {ls : Bool} {n : Nat} {ds : List D} {i : Nat} {s : Sta} {d : D} (h : (startE ls n ds)[i]? = some (some (s, d))) : ds[i]? = some d ∧ s = if ls || !isList d then .shr else .arg := by
  unfold startE at h
  by_cases hi : i < ds.length
  · rw [List.getElem?_append_left (by simpa using hi), List.getElem?_map, Option.map_eq_some_iff] at h
    obtain ⟨d', h1, h2⟩ := h
    cases h2
    exact ⟨h1, rfl⟩
  · rw [List.getElem?_append_right (by simpa using hi)] at h
    obtain ⟨_, h⟩ := List.getElem?_eq_some_iff.mp h
    rw [List.getElem_replicate] at h
    cases h
theorem RtAll.get {B : Addr → Prop} {H : Hp} : ∀ {vs : List V} {ds : List D} {i : Nat} {d : D}, RtAll B H vs ds → ds[i]? = some d → ∃ v, vs[i]? = some v ∧ Rt B H v d
  | _ :: _, _ :: _, 0, _, ⟨h, _⟩, e => by simp at e; subst e; exact ⟨_, rfl, h⟩
  | _ :: _, _ :: _, i + 1, _, ⟨_, r⟩, e => by
    obtain ⟨v, h1, h2⟩ := RtAll.get (i := i) r (by simpa using e)
    exact ⟨v, by simpa using h1, h2⟩
  | [], [], _, _, _, e => by simp at e
theorem RE.start {H : Hp} {B : Addr → Prop} {N : List Str} {vs : List V} {ds : List D} {ls : Bool} (hB : ∀ p, B p → ∃ vs, H p = some (.lst vs)) (r : RtAll B H vs ds) (rl : ls = true → RpAll B H vs ds) (hn : ds.length ≤ N.length) : RE H B (startE ls N.length ds) (L2.start N vs) H := by
  have no : ∀ p, ¬ Own (startE ls N.length ds) (L2.start N vs) p := fun p ⟨i, d, h1, _⟩ => by
    obtain ⟨_, h⟩ := startE_get h1
    split at h <;> cases h
  have hb : ∀ p, Bad B (startE ls N.length ds) (L2.start N vs) p → B p := fun p h => h.elim id fun h => (no p h).elim
  refine ⟨Same.refl H, hB, ?_, fun i d h => ?_, fun i d h => ?_, fun i d h => ?_, fun i j d e p h _ _ _ => ?_⟩
  · unfold VI.startE L2.start
    rw [List.length_append, List.length_append, List.length_map, List.length_map, List.length_replicate, List.length_replicate, r.len]
  · obtain ⟨h1, h2⟩ := startE_get h
    split at h2
    rotate_left
    · cases h2
    rename_i hc
    rw [Bool.or_eq_true] at hc
    rcases hc with hc | hc
    · obtain ⟨v, h3, h4⟩ := (rl hc).get h1
      exact ⟨v, start_get h3, h4.less hb⟩
    · obtain ⟨v, h3, h4⟩ := r.get h1
      exact ⟨v, start_get h3, (h4.rp (by simpa using hc)).less hb⟩
  · obtain ⟨h1, h2⟩ := startE_get h
    obtain ⟨v, h3, h4⟩ := r.get h1
    exact ⟨v, start_get h3, h4.less hb, fun p _ => no p⟩
  · obtain ⟨_, h2⟩ := startE_get h
    split at h2 <;> cases h2
  · obtain ⟨_, h2⟩ := startE_get h
    split at h2 <;> cases h2
theorem cok_of {P : Program} {w : World} {K : PySem.W.Frag} {mg : Str → Option Value} {base : Heap} {N ps : List Str} {qual : Str} {sc : Scope} {f : Addr} {cd : Value} {A : Around} {outer : List PySem.Env} {s : Shared} {H : Hp} {E : XK} {k : Nat} {Γ : Tab}
    (S : FnScope N ps sc) (hr : Room k (A.deeper (envOfC qual sc s.heap.objs.size f cd))) (tab : ∀ f sg, Γ f = some sg → FnV P w K mg base k f sg) (blt : ∀ x ∈ bnames, mg x = none) :
    Cok Γ ⟨N, sc, fun _ => true⟩ k (cxOf CX0 P w K mg base N qual sc f cd A outer s H E).nox :=
  ⟨rfl, rfl, rfl, rfl, S.nd, S.kind, hr, tab, blt, rfl⟩
/-- THE RULE: a translated def keeps its promise -/
theorem fn_v {P : Program} {w : World} {K : PySem.W.Frag} {mg : Str → Option Value} {base : Heap} {x qual : Str} {st : Stmt} {f : Addr} {fd : FuncData} {N ps : List Str} {k : Nat} {Γ : Tab} {sg : Sig} {body : XSs}
    (F : FunD K x qual (defArgs st) (defBody st) (defScope st) [] [] f fd) (S : FnScope N ps (defScope st)) (htr : trSs 200 ⟨N, defScope st, fun _ => true⟩ (defBody st) = some body)
    (tab : ∀ f sg, Γ f = some sg → FnV P w K mg base k f sg) (blt : ∀ x ∈ bnames, mg x = none) (har : sg.ar = ps.length) (hN : ps.length ≤ N.length)
    (hφ : ∀ as d, as.length = sg.ar → sg.φ as = some d → ∃ fr, exs Γ body (startE sg.ls N.length as) = some (.rt fr d) ∧ (sg.fr = true → fr = true)) : FnOk P w K mg base CX0 (k + 1) f fd ps (spV sg) := by
  refine F.ok S (fun vs H Q E h => ?_) (fun cdv A outer s H vs Q E hr h => ?_)
  · obtain ⟨B, ds, d, _, h1, _, h2, _⟩ := h
    rw [h1.len, h2, har]
  · refine ⟨tVSs Γ body, ((soundS Γ 200).ss _ _ k (cok_of S hr tab blt) _ _ htr).nox, ?_⟩
    obtain ⟨B, ds, d, hB, h1, h2, h3, h4, q⟩ := h
    obtain ⟨fr, h5, h6⟩ := hφ ds d h3 h4
    refine ⟨H, B, _, _, RE.start hB h1 h2 (by rw [h3, har]; exact hN), h5, fun v H' s r f => q v H' s r fun hf es ee => f (h6 hf) es ee⟩
end VI
set_option Elab.async false
set_option linter.all false
set_option maxRecDepth 100000
set_option maxHeartbeats 4000000
/-! VI11: the law's own def. -/
namespace VI
open PySem PySem.Spec PyProof.Rows L2
/-- script[:n] + [0] -/
def scrE : Expr → Option (Str × Nat)
  | .BinOp (.Subscript (.Name s _) (.Slice none (some (.Constant (.int (.ofNat n)) _ _)) none _) _) .Add (.List [.Constant (.int 0) _ _] _) _ => some (s, n)
  | _ => none
def tScr (K : PySem.W.Frag) (n : Nat) : TE := tOp rCat (tSl (rSlL K) (tVar 0) tNoPart (tPart (tC (.int n)))) (tLst (tCons (tC (.int 0)) tNil))
theorem scr_pe {X : Cx} {e : Expr} {s : Str} {n : Nat} (h : scrE e = some (s, n)) (hN : X.N[0]? = some s) (hv : Vis X.env.scope s) (hd : (s == ("__debug__" : Str)) = false) (hcd : (s == ("__classdict__" : Str)) = false) : PE X e (tScr X.K n) ∧ plainE e = true := by
  unfold scrE at h
  split at h
  · cases h
    exact ⟨pe_op op_cat (pe_slice sl_list (pe_var hN hv hd hcd) po_none (po_some pe_int)) (pe_lst (pa_cons pe_int pa_nil)), rfl⟩
  · cases h
theorem cut_take (ns : List Int) (n : Nat) : cutV (ns.map V.int) none (some (n : Int)) = (ns.take n).map V.int := by
  unfold cutV
  rw [HT.sIx_none, HT.sIx_nat, List.drop_zero, Nat.sub_zero, List.length_map, ← List.map_take]
  congr 1
  by_cases h : n ≤ ns.length
  · rw [Nat.min_eq_left h]
  · rw [Nat.min_eq_right (by omega), List.take_of_length_le (Nat.le_refl _), List.take_of_length_le (by omega)]
/-- the cells of a script -/
def cellsOf (ns : List Int) (n : Nat) : List Int := ns.take n ++ [0]
theorem scr_in {K : PySem.W.Frag} {n : Nat} {σ : L2.St} {H : Hp} {Q : VK} {a : Addr} {ns : List Int} (h0 : σ[0]? = some (some (.ref a))) (hs : SqL K H a (ns.map V.int)) (hl : ns.length ≤ 1000)
    (k : ∀ p H', Same H H' → H p = none → H' p = some (.lst ((cellsOf ns n).map V.int)) → Q (.ref p) H') : tScr K n σ H Q := by
  refine ⟨_, h0, n, rfl, a, ns.map V.int, rfl, hs, fun p np => ?_⟩
  refine ⟨by show 1 ≤ sizeLine; decide, fun q nq => ?_⟩
  have e1 : Same H (upd H p (.lst (cutV (ns.map V.int) none (some (n : Int))))) := same_new np
  have hpq : p ≠ q := fun z => by rw [← z, upd_same] at nq; cases nq
  have s2 := e1.trans (same_new (o := .lst [V.int 0]) nq)
  have hlen : (cutV (ns.map V.int) none (some (n : Int))).length ≤ 1000 := by
    have := cutV_length (ns.map V.int) none (some (n : Int))
    rw [List.length_map] at this
    omega
  refine ⟨p, q, _, [.int 0], rfl, rfl, by rw [upd_ne hpq]; exact upd_same, upd_same, ?_, fun o no => ?_⟩
  · have hz := sizeLine_eq
    rw [List.length_singleton]
    omega
  · refine k o _ (s2.trans (same_new no)) (s2.free no) ?_
    rw [upd_same, cut_take]
    unfold cellsOf
    rw [List.map_append]
    rfl
def spLaw (K : PySem.W.Frag) : Sp := fun vs H Q _ => ∃ (a : Addr) (ns : List Int), vs = [.ref a] ∧ SqL K H a (ns.map V.int) ∧ ns.length ≤ 63 ∧ ∀ H', Q (.bl true) H'
/-- the law's def by its kind: cells given to a name, or walked at once -/
inductive LawB where
  | cells (i n : Nat) (rest : XSs)
  | walk (tg : XT) (n : Nat) (b rest : XSs)
def trLaw (c : Co) : List Stmt → Option LawB
  | .Assign [.Name x _] e _ :: r => match scrE e with
    | some (s, n) => if c.N[0]? = some s ∧ visB c.sc s ∧ (s == ("__debug__" : Str)) = false ∧ (s == ("__classdict__" : Str)) = false ∧ locB c x then match ixS x c.N, trSs 200 c r with
      | some i, some r' => some (.cells i n r')
      | _, _ => none else none
    | none => none
  | .For tg e b [] _ :: r => match scrE e with
    | some (s, n) => if c.N[0]? = some s ∧ visB c.sc s ∧ (s == ("__debug__" : Str)) = false ∧ (s == ("__classdict__" : Str)) = false then match trTg c tg, trSs 200 c b, trSs 200 c r with
      | some tg', some b', some r' => some (.walk tg' n b' r')
      | _, _, _ => none else none
    | none => none
  | _ => none
/-- what the law's def gives -/
def runLaw (Γ : Tab) (m : Nat) (l : LawB) (ns : List Int) : Option Out := match l with
  | .cells i n r => if i < m then exs Γ r ((List.replicate m none).set i (some (.own, .list ((cellsOf ns n).map .int)))) else none
  | .walk tg n b r => match forGo (forF Γ tg b) ((cellsOf ns n).map .int) (List.replicate m none) with
    | some (.nx ρ) => exs Γ r ρ
    | o => o
theorem RE.blank {H : Hp} {σ : L2.St} {m : Nat} (h : σ.length = m) : RE H (fun _ => False) (List.replicate m none) σ H := by
  have no : ∀ (i : Nat) (x : Sta × D), (List.replicate m (none : Option (Sta × D)))[i]? = some (some x) → False := fun i x h => by
    rw [List.getElem?_replicate] at h
    split at h <;> cases h
  exact ⟨Same.refl H, fun _ h => h.elim, by rw [h, List.length_replicate], fun i d h => (no _ _ h).elim, fun i d h => (no _ _ h).elim, fun i d h => (no _ _ h).elim, fun i _ _ _ _ h => (no _ _ h).elim⟩
theorem start_len {N : List Str} {vs : List V} (h : vs.length ≤ N.length) : (L2.start N vs).length = N.length := by
  unfold L2.start
  rw [List.length_append, List.length_map, List.length_replicate]
  omega
theorem cells_len (ns : List Int) (n : Nat) : (cellsOf ns n).length ≤ ns.length + 1 := by
  unfold cellsOf
  rw [List.length_append, List.length_take, List.length_singleton]
  omega
theorem law_v {P : Program} {w : World} {K : PySem.W.Frag} {mg : Str → Option Value} {base : Heap} {x qual scr : Str} {st : Stmt} {f : Addr} {fd : FuncData} {N : List Str} {k : Nat} {Γ : Tab} {l : LawB}
    (F : FunD K x qual (defArgs st) (defBody st) (defScope st) [] [] f fd) (S : FnScope N [scr] (defScope st)) (htr : trLaw ⟨N, defScope st, fun _ => true⟩ (defBody st) = some l)
    (tab : ∀ f sg, Γ f = some sg → FnV P w K mg base k f sg) (blt : ∀ x ∈ bnames, mg x = none)
    (hφ : ∀ ns : List Int, ns.length ≤ 63 → ∃ fr, runLaw Γ N.length l ns = some (.rt fr (.bool true))) : FnOk P w K mg base CX0 (k + 1) f fd [scr] (spLaw K) := by
  have hN1 : 1 ≤ N.length := by
    have := congrArg List.length S.pre
    rw [List.length_take, List.length_singleton] at this
    omega
  refine F.ok S (fun vs H Q E h => ?_) (fun cdv A outer s H vs Q E hr h => ?_)
  · obtain ⟨a, ns, rfl, _⟩ := h
    rfl
  · obtain ⟨a, ns, rfl, hs, hl, q⟩ := h
    obtain ⟨fr, hrun⟩ := hφ ns hl
    have ok := cok_of (Γ := Γ) (E := E) (s := s) (H := H) (outer := outer) S hr tab blt
    have h0 : (L2.start N [V.ref a])[0]? = some (some (.ref a)) := start_get rfl
    have hσl : (L2.start N [V.ref a]).length = N.length := start_len hN1
    have fin : ∀ (H0 : Hp), PostO H0 (fun _ => False) { nx := fun _ H' => Q .non H', rt := Q } (.rt fr (.bool true)) := fun H0 v H' s r f => by
      cases r
      exact q H'
    have hints : ∀ {n : Nat} {p : Addr} {H' : Hp}, RpAll (fun q => Bad (fun _ => False) (List.replicate N.length none) (L2.start N [V.ref a]) q ∨ q = p) H' ((cellsOf ns n).map V.int) ((cellsOf ns n).map PyData.int) := rpAll_ints
    generalize hb : defBody st = body at htr
    unfold trLaw at htr
    split at htr
    · rename_i y py e p r
      split at htr
      · rename_i sn n hse
        split at htr
        · rename_i hh
          split at htr
          · rename_i i r' h1 h2
            cases htr
            obtain ⟨he, hp⟩ := scr_pe (X := (cxOf CX0 P w K mg base N qual (defScope st) f cdv A outer s H E).nox) hse hh.1 (visB_ok hh.2.1) hh.2.2.1 hh.2.2.2.1
            obtain ⟨l1, l2⟩ := locB_ok ok hh.2.2.2.2
            have hsw : swapsWith e (some (.Name y py)) p.line (cxOf CX0 P w K mg base N qual (defScope st) f cdv A outer s H E).nox.env = pure false := by
              unfold scrE at hse
              split at hse
              · rfl
              · cases hse
            refine ⟨tSeq (tAsg (tScr K n) (gName i)) (tVSs Γ r'), (pss_cons (ps_set S.nd (ixS_get h1) l1 he hsw l2) ((soundS Γ 200).ss _ _ k ok _ _ h2)).nox, ?_⟩
            simp only [runLaw] at hrun
            split at hrun
            · rename_i him
              refine scr_in h0 hs (by omega) fun p H' s1 np hp => ?_
              refine ⟨H, fun _ => False, _, _, ?_, hrun, fin H⟩
              exact (RE.blank (H := H) hσl).putN (by rw [List.length_replicate]; exact him) s1 np hp (by
                rw [List.length_map]
                exact Nat.le_trans (cells_len ns n) (by unfold lim; omega)) hints
            · cases hrun
          · cases htr
        · cases htr
      · cases htr
    · rename_i tg e b p r
      split at htr
      · rename_i sn n hse
        split at htr
        · rename_i hh
          split at htr
          · rename_i tg' b' r' h1 h2 h3
            cases htr
            obtain ⟨he, hp⟩ := scr_pe (X := (cxOf CX0 P w K mg base N qual (defScope st) f cdv A outer s H E).nox) hse hh.1 (visB_ok hh.2.1) hh.2.2.1 hh.2.2.2
            have hf := ps_for (pos := p) (passes ok) ok.calm (pi_list he) (s_tg ok h1) ((soundS Γ 200).ss _ _ k ok _ _ h2) (folded_plain hp _)
            refine ⟨_, (pss_cons hf ((soundS Γ 200).ss _ _ k ok _ _ h3)).nox, ?_⟩
            refine scr_in h0 hs (by omega) fun p H' s1 np hp => ⟨p, rfl, ⟨_, SqL.of hp⟩, ?_⟩
            have re := (RE.blank (H := H) hσl).mono s1
            have no : ∀ a', ¬ Own (List.replicate N.length none) (L2.start N [V.ref a]) a' := fun a' ⟨i, d, h, _⟩ => by
              rw [List.getElem?_replicate] at h
              split at h <;> cases h
            have wk : Wk (fun _ => False) (gd (List.replicate N.length none) (L2.start N [V.ref a]) H') (Itl K p) ((cellsOf ns n).map PyData.int) := wk_list (gd_some.mpr ⟨no p, hp⟩) rpAll_ints
            simp only [runLaw] at hrun
            cases hfo : forGo (forF Γ tg' b') ((cellsOf ns n).map PyData.int) (List.replicate N.length none) with
            | none => rw [hfo] at hrun; cases hrun
            | some o =>
              rw [hfo] at hrun
              refine for_core re wk hfo ?_
              cases o with
              | nx ρ => exact fun σ1 H1 re1 => ⟨H, fun _ => False, ρ, _, re1, hrun, fin H⟩
              | rt f2 d => cases hrun; exact fin H
              | bk ρ => cases hrun
              | ct ρ => cases hrun
          · cases htr
        · cases htr
      · cases htr
    · cases htr
end VI
set_option Elab.async false
set_option linter.all false
set_option maxRecDepth 100000
set_option maxHeartbeats 4000000
/-! VI12: rules for running. -/
namespace VI
open PySem
@[simp] theorem lim_eq : lim = 1000000 := by decide
@[simp] theorem shaped_int (i : Int) : SeqAt.shaped (.int i) = true := rfl
@[simp] theorem shaped_bool (i : Bool) : SeqAt.shaped (.bool i) = true := rfl
@[simp] theorem shaped_none : SeqAt.shaped .none = true := rfl
@[simp] theorem eqv_int (i j : Int) : PyData.eqv (.int i) (.int j) = decide (i = j) := by
  simp only [PyData.eqv]
  rw [Bool.eq_iff_iff]
  simp
section
variable {Γ : Tab} {ρ : Env} {a b c : XE} {op op' : Operator}
@[simp] theorem ev_cst {d : D} : ev Γ (.cst d) ρ = some d := by rw [ev]
@[simp] theorem ev_var {i : Nat} : ev Γ (.var i) ρ = match ρ[i]? with
    | some (some (_, d)) => some d
    | _ => none := by rw [ev]; try rfl
@[simp] theorem ev_bin : ev Γ (.bin op a b) ρ = match ev Γ a ρ, ev Γ b ρ with
    | some x, some y => binD op x y
    | _, _ => none := by rw [ev]; try rfl
@[simp] theorem ev_neg : ev Γ (.neg a) ρ = match ev Γ a ρ with
    | some (.int i) => some (.int (-i))
    | _ => none := by rw [ev]; try rfl
@[simp] theorem ev_not : ev Γ (.not a) ρ = match ev Γ a ρ with
    | some (.bool b) => some (.bool (!b))
    | _ => none := by rw [ev]; try rfl
def andO (x : Option D) (y : Option D) : Option D := match x with
  | some (.bool true) => match y with
    | some (.bool t) => some (.bool t)
    | _ => none
  | some (.bool false) => some (.bool false)
  | _ => none
def orO (x : Option D) (y : Option D) : Option D := match x with
  | some (.bool false) => match y with
    | some (.bool t) => some (.bool t)
    | _ => none
  | some (.bool true) => some (.bool true)
  | _ => none
@[simp] theorem ev_andO : ev Γ (.and a b) ρ = andO (ev Γ a ρ) (ev Γ b ρ) := by rw [ev]; try rfl
@[simp] theorem ev_orO : ev Γ (.or a b) ρ = orO (ev Γ a ρ) (ev Γ b ρ) := by rw [ev]; try rfl
@[simp] theorem andO_some {x y : Bool} : andO (some (.bool x)) (some (.bool y)) = some (.bool (x && y)) := by cases x <;> rfl
@[simp] theorem orO_some {x y : Bool} : orO (some (.bool x)) (some (.bool y)) = some (.bool (x || y)) := by cases x <;> rfl
@[simp] theorem andO_false {y : Option D} : andO (some (.bool false)) y = some (.bool false) := rfl
@[simp] theorem orO_true {y : Option D} : orO (some (.bool true)) y = some (.bool true) := rfl
@[simp] theorem ev_cmp' {op : CmpOp} : ev Γ (.cmp op a b) ρ = match ev Γ a ρ, ev Γ b ρ with
    | some x, some y => (cmpD op x y).map .bool
    | _, _ => none := by rw [ev]; try rfl
@[simp] theorem ev_call {f : Str} {as : XEs} : ev Γ (.call f as) ρ = match Γ f, evs Γ as ρ with
    | some sg, some ds => if (sg.ls → sfEs ρ as) ∧ ds.length = sg.ar then sg.φ ds else none
    | _, _ => none := by rw [ev]; try rfl
@[simp] theorem ev_bi {f : BI} {as : XEs} : ev Γ (.bi f as) ρ = match evs Γ as ρ with
    | some ds => biD f ds
    | none => none := by rw [ev]; try rfl
@[simp] theorem ev_isi {t : TY} : ev Γ (.isi a t) ρ = match ev Γ a ρ with
    | some d => (isiD d t).map .bool
    | none => none := by rw [ev]; try rfl
@[simp] theorem ev_ix : ev Γ (.ix a b) ρ = match ev Γ a ρ, ev Γ b ρ with
    | some x, some y => ixD x y
    | _, _ => none := by rw [ev]; try rfl
@[simp] theorem ev_lst {as : XEs} : ev Γ (.lst as) ρ = match evs Γ as ρ with
    | some ds => if sfEs ρ as ∧ ds.length ≤ lim then some (.list ds) else none
    | none => none := by rw [ev]; try rfl
@[simp] theorem ev_tup {as : XEs} : ev Γ (.tup as) ρ = match evs Γ as ρ with
    | some ds => if sfEs ρ as ∧ ds.length ≤ lim then some (.tuple ds) else none
    | none => none := by rw [ev]; try rfl
@[simp] theorem ev_lc' {vs : List Nat} {tg : XT} {it : XI} {tt elt : XE} : ev Γ (.lc vs tg it tt elt) ρ = match evi Γ it (ρ.map toArg) with
    | some ds => if ds.length ≤ lim then (lcGo (lcF Γ ρ vs tg tt elt) ds).map .list else none
    | none => none := ev_lc
@[simp] theorem evs_nil : evs Γ .nil ρ = some [] := by rw [evs]
@[simp] theorem evs_cons {as : XEs} : evs Γ (.cons a as) ρ = match ev Γ a ρ, evs Γ as ρ with
    | some d, some ds => some (d :: ds)
    | _, _ => none := by rw [evs]; try rfl
@[simp] theorem exs_nil : exs Γ .nil ρ = some (.nx ρ) := by rw [exs]
@[simp] theorem exs_cons {s : XS} {ss : XSs} : exs Γ (.cons s ss) ρ = match ex Γ s ρ with
    | some (.nx ρ') => exs Γ ss ρ'
    | o => o := by rw [exs]; try rfl
@[simp] theorem ex_asg {i : Nat} : ex Γ (.asg (.nm i) a) ρ = match ev Γ a (dem ρ a) with
    | some d => if i < (dem ρ a).length then some (.nx ((dem ρ a).set i (some (staE Γ (dem ρ a) d a, d)))) else none
    | none => none := by rw [ex]; try rfl
@[simp] theorem ex_ret : ex Γ (.ret a) ρ = match ev Γ a (dem ρ a) with
    | some d => if sfE (dem ρ a) a then some (.rt (frE Γ a || isOwn ρ a) d) else none
    | none => none := by rw [ex]; try rfl
def iteO (x : Option D) (y z : Option Out) : Option Out := match x with
  | some (.bool true) => y
  | some (.bool false) => z
  | _ => none
@[simp] theorem iteO_some {x : Bool} {y z : Option Out} : iteO (some (.bool x)) y z = if x then y else z := by cases x <;> rfl
@[simp] theorem ex_ife {x y : XSs} : ex Γ (.ife a x y) ρ = iteO (ev Γ a ρ) (exs Γ x ρ) (exs Γ y ρ) := by rw [ex]; try rfl
@[simp] theorem ex_whl {x : XSs} : ex Γ (.whl a x) ρ = whlGo (ev Γ a) (exs Γ x) ρ := by rw [ex]
@[simp] theorem ex_for' {tg : XT} {it : XI} {x : XSs} : ex Γ (.for tg it x) ρ = match evi Γ it (demI ρ it) with
    | some ds => forGo (forF Γ tg x) ds (demI ρ it)
    | none => none := ex_for
@[simp] theorem ex_par {js : List Nat} {as : XEs} : ex Γ (.par js as) ρ = match evs Γ as ρ with
    | some ds => if sfEs ρ as ∧ ds.length ≤ lim then (setAll ρ js ds).map .nx else none
    | none => none := by rw [ex]; try rfl
@[simp] theorem ex_asgT {js : List Nat} : ex Γ (.asg (.tp js) a) ρ = match ev Γ a ρ with
    | some d => (setT ρ (.tp js) d).map .nx
    | none => none := by rw [ex]; try rfl
@[simp] theorem ex_setx {i : Nat} {k : XE} : ex Γ (.setx i k a) ρ = match ev Γ a (dem ρ a), ownL (dem ρ a) i, ev Γ k (dem ρ a) with
    | some d, some ds, some (.int j) => match L2.ixN ds.length j with
      | some m => if sfE (dem ρ a) a then some (.nx ((dem ρ a).set i (some (.own, .list (ds.set m d))))) else none
      | none => none
    | _, _, _ => none := by rw [ex]; try rfl
@[simp] theorem ex_swp {i : Nat} {k1 k2 e1 e2 : XE} : ex Γ (.swp i k1 k2 e1 e2) ρ = match ev Γ e1 ρ, ev Γ e2 ρ, ownL ρ i, ev Γ k1 ρ with
    | some d1, some d2, some ds, some (.int j1) => match L2.ixN ds.length j1 with
      | some m1 => if sfE ρ e1 && sfE ρ e2 then match ev Γ k2 (ρ.set i (some (.own, .list (ds.set m1 d1)))) with
          | some (.int j2) => match L2.ixN ds.length j2 with
            | some m2 => some (.nx (ρ.set i (some (.own, .list ((ds.set m1 d1).set m2 d2)))))
            | none => none
          | _ => none else none
      | none => none
    | _, _, _, _ => none := by rw [ex]; try rfl
@[simp] theorem ex_aug {i : Nat} {o : Operator} : ex Γ (.aug i o a) ρ = match ρ[i]?, ev Γ a ρ with
    | some (some (_, .int x)), some (.int y) => match o with
      | .Add => some (.nx (ρ.set i (some (.shr, .int (x + y)))))
      | .Sub => some (.nx (ρ.set i (some (.shr, .int (x - y)))))
      | _ => none
    | _, _ => none := by rw [ex]; try rfl
@[simp] theorem ex_app {i : Nat} : ex Γ (.app i a) ρ = match ownL (dem ρ a) i, ev Γ a (dem ρ a) with
    | some ds, some d => if sfE (dem ρ a) a ∧ ds.length < lim then some (.nx ((dem ρ a).set i (some (.own, .list (ds ++ [d]))))) else none
    | _, _ => none := by rw [ex]; try rfl
@[simp] theorem ex_ins {i : Nat} {k : XE} : ex Γ (.ins i k a) ρ = match ownL (dem ρ a) i, ev Γ k (dem ρ a), ev Γ a (dem ρ a) with
    | some ds, some (.int j), some d => if sfE (dem ρ a) a ∧ ds.length < lim ∧ 0 ≤ j ∧ j < 1000000 then some (.nx ((dem ρ a).set i (some (.own, .list (ds.take j.toNat ++ [d] ++ ds.drop j.toNat))))) else none
    | _, _, _ => none := by rw [ex]; try rfl
@[simp] theorem ex_pop {i j : Nat} {k : XE} : ex Γ (.pop i j k) ρ = match ownL ρ j, ev Γ k ρ with
    | some ds, some (.int m) => if 0 ≤ m ∧ i ≠ j ∧ i < ρ.length then match ds[m.toNat]? with
        | some d => some (.nx ((ρ.set j (some (.own, .list (ds.eraseIdx m.toNat)))).set i (some (.shr, d))))
        | none => none else none
    | _, _ => none := by rw [ex]; try rfl
@[simp] theorem ex_rem {i : Nat} : ex Γ (.rem i a) ρ = match ownL ρ i, ev Γ a ρ with
    | some ds, some d => match remD d ds with
      | some r => some (.nx (ρ.set i (some (.own, .list r))))
      | none => none
    | _, _ => none := by rw [ex]; try rfl
@[simp] theorem ex_cont : ex Γ .cont ρ = some (.ct ρ) := by rw [ex]
@[simp] theorem ex_brk : ex Γ .brk ρ = some (.bk ρ) := by rw [ex]
@[simp] theorem ex_pass : ex Γ .pass ρ = some (.nx ρ) := by rw [ex]
@[simp] theorem ev_chn2 {o o' : CmpOp} : ev Γ (.chn o o' a b c) ρ = match ev Γ a ρ, ev Γ b ρ with
    | some x, some y => match cmpD o x y with
      | some true => match ev Γ c ρ with
        | some z => (cmpD o' y z).map .bool
        | none => none
      | some false => some (.bool false)
      | none => none
    | _, _ => none := by rw [ev]; try rfl
@[simp] theorem ev_sl : ev Γ (.sl a b c) ρ = match ev Γ a ρ, ev Γ b ρ, ev Γ c ρ with
    | some x, some l, some h => match partD (isNoneE b) l, partD (isNoneE c) h with
      | some l', some h' => slD x l' h'
      | _, _ => none
    | _, _, _ => none := by rw [ev]; try rfl
@[simp] theorem evi_seq : evi Γ (.seq a) ρ = if isOwn ρ a then none else match ev Γ a ρ with
    | some (.list ds) => some ds
    | some (.tuple ds) => some ds
    | _ => none := by rw [evi]; try rfl
@[simp] theorem evi_rng {as : XEs} : evi Γ (.rng as) ρ = match evs Γ as ρ with
    | some ds => rngD ds
    | none => none := by rw [evi]; try rfl
@[simp] theorem evi_zip : evi Γ (.zip a b) ρ = if isOwn ρ a || isOwn ρ b then none else match ev Γ a ρ, ev Γ b ρ with
    | some (.list xs), some (.list ys) => some (List.zipWith (fun x y => .tuple [x, y]) xs ys)
    | _, _ => none := by rw [evi]; try rfl
@[simp] theorem evi_enu : evi Γ (.enu a) ρ = if isOwn ρ a then none else match ev Γ a ρ with
    | some (.list xs) => some (enuD 0 xs)
    | _ => none := by rw [evi]; try rfl
/-- one turn of a while -/
theorem whl_eq (t : Env → Option D) (f : Env → Option Out) (ρ : Env) : whlGo t f ρ = match t ρ with
  | some (.bool true) => match f ρ with
    | some (.nx ρ') => whlGo t f ρ'
    | some (.ct ρ') => whlGo t f ρ'
    | some (.bk ρ') => some (.nx ρ')
    | some (.rt fr x) => some (.rt fr x)
    | none => none
  | some (.bool false) => some (.nx ρ)
  | _ => none := by rw [whlGo]; try rfl
end
@[simp] theorem mulOk_small {i j : Int} (h1 : i.natAbs < 2 ^ 1000) (h2 : j.natAbs < 2 ^ 1000) : mulOk i j = true := by
  have b : ∀ n : Nat, n < 2 ^ 1000 → n.log2 < 1000 := fun n h => by
    by_cases h0 : n = 0
    · subst h0; decide
    · exact (Nat.log2_lt h0).mpr h
  unfold mulOk
  have := b _ h1
  have := b _ h2
  exact decide_eq_true (by omega)
theorem divOk_small {j : Int} (h0 : j ≠ 0) (h1 : j.natAbs < 2 ^ 1000) : divOk j = true := by
  have b : j.natAbs.log2 < 1000 := (Nat.log2_lt (by omega)).mpr h1
  unfold divOk
  rw [Bool.and_eq_true]
  exact ⟨decide_eq_true h0, decide_eq_true (by omega)⟩
def Keeps (Γ : Tab) (b : XSs) (n : Nat) (sg : Sig) : Prop := ∀ as d, as.length = sg.ar → sg.φ as = some d → ∃ fr, exs Γ b (startE sg.ls n as) = some (.rt fr d) ∧ (sg.fr = true → fr = true)
end VI
set_option Elab.async false
set_option linter.all false
set_option maxRecDepth 100000
set_option maxHeartbeats 4000000
/-! VI13: the chain of a module's defs. -/
namespace VI
open PySem PySem.Spec PyProof.Rows L2
def tabOf : List (Str × Sig) → Tab
  | [], _ => none
  | (x, sg) :: l, f => if f = x then some sg else tabOf l f
structure AllV (P : Program) (w : World) (K : PySem.W.Frag) (mg : Str → Option Value) (base : Heap) (k : Nat) (l : List (Str × Sig)) : Prop where
  all : ∀ p ∈ l, FnV P w K mg base k p.1 p.2
section
variable {P : Program} {w : World} {K : PySem.W.Frag} {mg : Str → Option Value} {base : Heap} {k : Nat} {l : List (Str × Sig)}
theorem AllV.nil : AllV P w K mg base k [] := ⟨fun p h => by cases h⟩
theorem tab_get {f : Str} {sg : Sig} : ∀ {l : List (Str × Sig)}, tabOf l f = some sg → (f, sg) ∈ l
  | [], h => by cases h
  | (x, s) :: l, h => by
    unfold tabOf at h
    split at h
    · rename_i e
      cases h
      subst e
      exact List.mem_cons_self ..
    · exact List.mem_cons_of_mem _ (tab_get h)
theorem AllV.tab (V : AllV P w K mg base k l) : ∀ f sg, tabOf l f = some sg → FnV P w K mg base k f sg := fun f sg h => V.all _ (tab_get h)
theorem AllV.step {x : Str} {st : Stmt} {f : Addr} {fd : FuncData} {N ps : List Str} {sg : Sig} {body : XSs} (V : AllV P w K mg base k l) (F : FunD K x x (defArgs st) (defBody st) (defScope st) [] [] f fd)
    (S : FnScope N ps (defScope st)) (htr : trSs 200 ⟨N, defScope st, fun _ => true⟩ (defBody st) = some body) (blt : ∀ x ∈ bnames, mg x = none) (har : sg.ar = ps.length) (hN : ps.length ≤ N.length)
    (hk : Keeps (tabOf l) body N.length sg) (g : mg x = some (.ref f)) (b : Binds K fd ps []) : AllV P w K mg base (k + 1) ((x, sg) :: l) := by
  refine ⟨fun p hp => ?_⟩
  cases hp with
  | head => exact ⟨⟨f, fd, ps, g, F.kp, fn_v F S htr V.tab blt har hN hk, b⟩⟩
  | tail _ h => exact (V.all p h).mono (Nat.le_succ k)
end
/-- goes on, at I -/
def goesOn (I : Env → Prop) : Option Out → Prop
  | some (.nx ρ) => I ρ
  | some (.ct ρ) => I ρ
  | _ => False
@[simp] theorem goesOn_nx {I : Env → Prop} {ρ : Env} : goesOn I (some (.nx ρ)) = I ρ := rfl
@[simp] theorem goesOn_ct {I : Env → Prop} {ρ : Env} : goesOn I (some (.ct ρ)) = I ρ := rfl
theorem forGo_inv {f : D → Env → Option Out} (I : Env → Prop) : ∀ (ds : List D) (ρ : Env), (∀ d ∈ ds, ∀ ρ, I ρ → goesOn I (f d ρ)) → I ρ → ∃ ρ', forGo f ds ρ = some (.nx ρ') ∧ I ρ'
  | [], ρ, _, h => ⟨ρ, rfl, h⟩
  | d :: ds, ρ, hf, h => by
    have h1 := hf d (List.mem_cons_self ..) ρ h
    have hr : ∀ ρ1, I ρ1 → ∃ ρ', forGo f ds ρ1 = some (.nx ρ') ∧ I ρ' := fun ρ1 i1 => forGo_inv I ds ρ1 (fun d hd => hf d (List.mem_cons_of_mem _ hd)) i1
    rw [forGo]
    cases e : f d ρ with
    | none => rw [e] at h1; exact h1.elim
    | some o =>
      rw [e] at h1
      cases o with
      | nx ρ1 => exact hr ρ1 h1
      | ct ρ1 => exact hr ρ1 h1
      | rt => exact h1.elim
      | bk => exact h1.elim
end VI
set_option Elab.async false
set_option linter.all false
set_option maxRecDepth 100000
set_option exponentiation.threshold 2000
set_option maxHeartbeats 4000000
namespace VI
open PySem
/-- number(kind, whole): 0 kind, 1 whole; law_k01_numbers -/
def b_number : XSs :=
  (.cons (.ife (.cmp .Eq (.var 0) (.cst (.int 0))) (.cons (.ret (.tup (.cons (.var 1) (.cons (.cst (.int 1)) .nil))))
  .nil) .nil)
  (.cons (.ret (.bin .Mod (.var 1) (.var 0)))
  .nil))
/-- _law_whole(_law_found): 0 _law_found; law_k01_numbers -/
def b_law_whole : XSs :=
  (.cons (.ret (.and (.isi (.var 0) .int) (.not (.isi (.var 0) .bool))))
  .nil)
/-- _law_is_prime(_law_whole_here): 0 _law_whole_here, 1 _law_by; law_k01_numbers -/
def p_law_is_prime_1 : XE :=
  (.cmp .LtE (.bin .Mult (.var 1) (.var 1)) (.var 0))
def p_law_is_prime_2 : XSs :=
  (.cons (.ife (.cmp .Eq (.bin .Mod (.var 0) (.var 1)) (.cst (.int 0))) (.cons (.ret (.cst (.bool false)))
  .nil) .nil)
  (.cons (.asg (.nm 1) (.bin .Add (.var 1) (.cst (.int 1))))
  .nil))
def b_law_is_prime : XSs :=
  (.cons (.asg (.nm 1) (.cst (.int 2)))
  (.cons (.whl p_law_is_prime_1 p_law_is_prime_2)
  (.cons (.ret (.cmp .Gt (.var 0) (.cst (.int 1))))
  .nil)))
/-- _law_kind(_law_cell): 0 _law_cell, 1 _law_found; law_k01_numbers -/
def p_law_kind_1 : XE :=
  (.and (.cmp .Gt (.var 1) (.cst (.int 0))) (.not (.call "_law_is_prime" (.cons (.var 1) .nil))))
def p_law_kind_2 : XSs :=
  (.cons (.asg (.nm 1) (.bin .Sub (.var 1) (.cst (.int 1))))
  .nil)
def b_law_kind : XSs :=
  (.cons (.asg (.nm 1) (.bin .Mod (.bin .FloorDiv (.var 0) (.cst (.int 2))) (.cst (.int 99))))
  (.cons (.whl p_law_kind_1 p_law_kind_2)
  (.cons (.ret (.bin .Mult (.var 1) (.bin .Mod (.var 0) (.cst (.int 2)))))
  .nil)))
/-- _law_right(_law_kind_here, _law_whole_here): 0 _law_kind_here, 1 _law_whole_here, 2 _law_found; law_k01_numbers -/
def b_law_right : XSs :=
  (.cons (.asg (.nm 2) (.call "number" (.cons (.var 0) (.cons (.var 1) .nil))))
  (.cons (.ife (.cmp .Gt (.var 0) (.cst (.int 0))) (.cons (.ret (.and (.call "_law_whole" (.cons (.var 2) .nil)) (.and (.cmp .LtE (.cst (.int 0)) (.var 2)) (.and (.cmp .Lt (.var 2) (.var 0)) (.cmp .Eq (.bin .Mod (.bin .Sub (.var 2) (.var 1)) (.var 0)) (.cst (.int 0)))))))
  .nil) .nil)
  (.cons (.ife (.or (.not (.isi (.var 2) .tuple)) (.cmp .NotEq (.bi .len (.cons (.var 2) .nil)) (.cst (.int 2)))) (.cons (.ret (.cst (.bool false)))
  .nil) .nil)
  (.cons (.ret (.and (.call "_law_whole" (.cons (.ix (.var 2) (.cst (.int 0))) .nil)) (.and (.call "_law_whole" (.cons (.ix (.var 2) (.cst (.int 1))) .nil)) (.and (.cmp .Eq (.ix (.var 2) (.cst (.int 0))) (.var 1)) (.cmp .Eq (.ix (.var 2) (.cst (.int 1))) (.cst (.int 1)))))))
  .nil))))
local macro_rules | `(tactic| walk_at "vi") => `(tactic| simp [startE, cmpD, binD, biD, isiD, ixD, dem, sfE, sfEs, frE, isOwn, ownL, isList, staE, setT, setAll, *])
/-! number -/
def f_number : Int → Int → Option D := fun k w => if k = 0 then some (.tuple [.int w, .int 1]) else some (.int (w.fmod k))
def sg2 (f : Int → Int → Option D) : Sig := ⟨false, false, 2, fun as => match as with
  | [.int k, .int w] => f k w
  | _ => none⟩
def sg1 (f : Int → Option D) : Sig := ⟨false, false, 1, fun as => match as with
  | [.int k] => f k
  | _ => none⟩
theorem keeps1 {Γ : Tab} {b : XSs} {n : Nat} {f : Int → Option D} (h : ∀ i d, f i = some d → ∃ fr, exs Γ b (startE false n [.int i]) = some (.rt fr d)) : Keeps Γ b n (sg1 f) := by
  intro as d hl e
  match as, e with
  | [.int i], e => exact let ⟨fr, q⟩ := h i d e; ⟨fr, q, fun z => by cases z⟩
theorem keeps2 {Γ : Tab} {b : XSs} {n : Nat} {f : Int → Int → Option D} (h : ∀ i j d, f i j = some d → ∃ fr, exs Γ b (startE false n [.int i, .int j]) = some (.rt fr d)) : Keeps Γ b n (sg2 f) := by
  intro as d hl e
  match as, e with
  | [.int i, .int j], e => exact let ⟨fr, q⟩ := h i j d e; ⟨fr, q, fun z => by cases z⟩
abbrev sg_number := sg2 f_number
theorem keep_number (Γ : Tab) : Keeps Γ b_number 2 sg_number := keeps2 fun k w d e => by
  unfold f_number at e
  unfold b_number
  by_cases h : k = 0
  · rw [if_pos h] at e
    cases e
    subst h
    walk_at "vi"
  · rw [if_neg h] at e
    cases e
    walk_at "vi"
/-! _law_whole -/
def isIntD : D → Bool
  | .int _ => true
  | _ => false
def f_whole : D → Option D
  | .int _ => some (.bool true)
  | .bool _ => some (.bool false)
  | .list _ => some (.bool false)
  | .tuple _ => some (.bool false)
  | .none => some (.bool false)
  | .str _ => some (.bool false)
  | _ => none
def sgD (f : D → Option D) : Sig := ⟨false, false, 1, fun as => match as with
  | [x] => f x
  | _ => none⟩
theorem keepsD {Γ : Tab} {b : XSs} {n : Nat} {f : D → Option D} (h : ∀ i d, f i = some d → ∃ fr, exs Γ b (startE false n [i]) = some (.rt fr d)) : Keeps Γ b n (sgD f) := by
  intro as d hl e
  match as, e with
  | [i], e => exact let ⟨fr, q⟩ := h i d e; ⟨fr, q, fun z => by cases z⟩
abbrev sg_law_whole := sgD f_whole
theorem keep_law_whole (Γ : Tab) : Keeps Γ b_law_whole 1 sg_law_whole := keepsD fun x d e => by
  unfold b_law_whole
  cases x <;> simp only [f_whole] at e <;> cases e <;> walk_at "vi"
/-! _law_is_prime -/
def trialF : Nat → Nat → Nat → Bool
  | 0, _, _ => true
  | f + 1, n, b => if b * b ≤ n then (if n % b = 0 then false else trialF f n (b + 1)) else true
def primeB (n : Nat) : Bool := trialF (n + 1) n 2 && decide (1 < n)
theorem trial_run (Γ : Tab) (s : Sta) (n b : Nat) (hb : 1 ≤ b) (hbn : b ≤ n + 2) (hn : n < 2 ^ 900) (f : Nat) (hf : n + 3 - b ≤ f) :
    (trialF f n b = false → whlGo (ev Γ p_law_is_prime_1) (exs Γ p_law_is_prime_2) [some (s, .int n), some (.shr, .int b)] = some (.rt false (.bool false))) ∧
    (trialF f n b = true → ∃ b' : Int, whlGo (ev Γ p_law_is_prime_1) (exs Γ p_law_is_prime_2) [some (s, .int n), some (.shr, .int b)] = some (.nx [some (s, .int n), some (.shr, .int b')])) := by
  have hm : mulOk (b : Int) (b : Int) = true := mulOk_small (by omega) (by omega)
  have hb0 : ¬ b = 0 := by omega
  have hle : (b : Int) * b ≤ n ↔ b * b ≤ n := by omega
  have hmod : ((n : Int).fmod b = 0) ↔ n % b = 0 := by
    rw [Int.fmod_eq_emod_of_nonneg _ (by omega)]
    omega
  cases f with
  | zero => omega
  | succ f =>
  rw [whl_eq, trialF]
  conv => unfold p_law_is_prime_1 p_law_is_prime_2
  by_cases h : b * b ≤ n
  · have hbn' : b ≤ n := Nat.le_trans (Nat.le_mul_of_pos_right _ hb) h
    by_cases h2 : n % b = 0
    · walk_at "vi"
    · have ih := trial_run Γ s n (b + 1) (by omega) (by omega) hn f (by omega)
      walk_at "vi"
      exact ih
  · walk_at "vi"
def f_is_prime : Int → Option D := fun i => if 0 ≤ i ∧ i < 2 ^ 900 then some (.bool (primeB i.toNat)) else none
abbrev sg_law_is_prime := sg1 f_is_prime
theorem keep_law_is_prime (Γ : Tab) : Keeps Γ b_law_is_prime 2 sg_law_is_prime := keeps1 fun i d e => by
  unfold f_is_prime at e
  split at e
  · rename_i h
    obtain ⟨h0, h1⟩ := h
    obtain ⟨n, rfl⟩ := Int.eq_ofNat_of_zero_le h0
    cases e
    have t := trial_run Γ .shr n 2 (by omega) (by omega) (by omega) (n + 1) (by omega)
    have e2 : ((2 : Nat) : Int) = 2 := rfl
    rw [e2] at t
    unfold b_law_is_prime primeB
    cases ht : trialF (n + 1) n 2 with
    | false =>
      have t1 := t.1 ht
      walk_at "vi"
    | true =>
      obtain ⟨b', t2⟩ := t.2 ht
      walk_at "vi"
      omega
  · cases e
/-! _law_kind -/
def lastP : Nat → Nat
  | 0 => 0
  | n + 1 => if primeB (n + 1) then n + 1 else lastP n
def kindOf (c : Int) : Int := lastP ((c.fdiv 2).fmod 99).toNat * c.fmod 2
theorem lastP_run (Γ : Tab) (s s' : Sta) (c : D) (hΓ : Γ "_law_is_prime" = some sg_law_is_prime) : ∀ (n : Nat) (hn : n < 2 ^ 900),
    whlGo (ev Γ p_law_kind_1) (exs Γ p_law_kind_2) [some (s, c), some (.shr, .int n)] = some (.nx [some (s, c), some (.shr, .int (lastP n))])
  | 0, _ => by
    rw [whl_eq, lastP]
    unfold p_law_kind_1
    walk_at "vi"
  | n + 1, hn => by
    have h1 : f_is_prime ((n : Int) + 1) = some (.bool (primeB (n + 1))) := by
      unfold f_is_prime
      rw [if_pos ⟨by omega, by omega⟩]
      rfl
    have ih := lastP_run Γ s s' c hΓ n (by omega)
    rw [whl_eq, lastP]
    have h2 : (0 : Int) < (n : Int) + 1 := by omega
    have h3 : (n : Int) + 1 - 1 = n := by omega
    cases hp : primeB (n + 1) with
    | true =>
      rw [hp] at h1
      conv => unfold p_law_kind_1 p_law_kind_2
      simp [sg1, h1, h2, h3, cmpD, binD, hΓ, dem, staE, isList, frE]
    | false =>
      rw [hp] at h1
      conv => unfold p_law_kind_1 p_law_kind_2
      simp [sg1, h1, h2, h3, cmpD, binD, hΓ, dem, staE, isList, frE]
      exact ih
theorem fd_bnd (c : Int) : 0 ≤ (c.fdiv 2).fmod 99 ∧ (c.fdiv 2).fmod 99 < 99 := ⟨Int.fmod_nonneg_of_pos _ (by decide), Int.fmod_lt_of_pos _ (by decide)⟩
theorem lastP_le : ∀ n : Nat, lastP n ≤ n
  | 0 => Nat.le_refl _
  | n + 1 => by
    unfold lastP
    split
    · exact Nat.le_refl _
    · exact Nat.le_succ_of_le (lastP_le n)
abbrev sg_law_kind := sg1 fun c => some (.int (kindOf c))
theorem keep_law_kind (Γ : Tab) (hΓ : Γ "_law_is_prime" = some sg_law_is_prime) : Keeps Γ b_law_kind 2 sg_law_kind := keeps1 fun c d e => by
  cases e
  have hd : divOk 2 = true := divOk_small (by decide) (by decide)
  obtain ⟨h0, h1⟩ := fd_bnd c
  obtain ⟨n, hn⟩ := Int.eq_ofNat_of_zero_le h0
  have hr := lastP_run Γ .shr .shr (.int c) hΓ n (by omega)
  have hl := lastP_le n
  have hm0 : 0 ≤ c.fmod 2 := Int.fmod_nonneg_of_pos _ (by decide)
  have hm1 : c.fmod 2 < 2 := Int.fmod_lt_of_pos _ (by decide)
  have hm : mulOk (lastP n : Int) (c.fmod 2) = true := mulOk_small (by omega) (by omega)
  unfold b_law_kind kindOf
  rw [hn]
  simp [startE, binD, hd, hn, hr, dem, staE, isList, frE, hm, sfE]
/-! _law_right -/
abbrev sg_law_right := sg2 fun k _ => if 0 ≤ k then some (.bool true) else none
theorem keep_law_right (Γ : Tab) (h1 : Γ "number" = some sg_number) (h2 : Γ "_law_whole" = some sg_law_whole) : Keeps Γ b_law_right 3 sg_law_right := keeps2 fun k w d e => by
  split at e
  · cases e
    rename_i hk
    unfold b_law_right
    by_cases h : k = 0
    · subst h
      simp [startE, h1, h2, sg2, sgD, f_number, f_whole, dem, staE, isList, frE, cmpD, binD, isiD, ixD, biD, sfE, L2.atI, L2.ixN]
    · have hp : 0 < k := by omega
      have a1 := Int.fmod_nonneg_of_pos w hp
      have a2 := Int.fmod_lt_of_pos w hp
      have a3 : (w.fmod k - w).fmod k = 0 := by
        have := Int.mul_fdiv_add_fmod w k
        have e : w.fmod k - w = k * (-(w.fdiv k)) := by rw [Int.mul_neg]; omega
        rw [e, Int.mul_fmod_right]
      simp [startE, h1, h2, sg2, sgD, f_number, f_whole, dem, staE, isList, frE, cmpD, binD, isiD, ixD, biD, sfE, L2.atI, L2.ixN, h, hp, a1, a2, a3]
  · cases e
end VI
set_option Elab.async false
set_option linter.all false
set_option maxRecDepth 100000
set_option exponentiation.threshold 2000
set_option maxHeartbeats 4000000
namespace VI
open PySem
/-- divisor(one, other): 0 one, 1 other; law_k02_sums_and_products -/
def p_divisor_1 : XE :=
  (.cmp .NotEq (.var 1) (.cst (.int 0)))
def p_divisor_2 : XSs :=
  (.cons (.par [0, 1] (.cons (.var 1) (.cons (.bin .Mod (.var 0) (.var 1)) .nil)))
  .nil)
def b_divisor : XSs :=
  (.cons (.whl p_divisor_1 p_divisor_2)
  (.cons (.ret (.bi .abs (.cons (.var 0) .nil)))
  .nil))
/-- lowest(top, bottom): 0 top, 1 bottom, 2 by; law_k02_sums_and_products -/
def b_lowest : XSs :=
  (.cons (.asg (.nm 2) (.call "divisor" (.cons (.var 0) (.cons (.var 1) .nil))))
  (.cons (.ife (.cmp .Lt (.var 1) (.cst (.int 0))) (.cons (.asg (.nm 2) (.neg (.var 2)))
  .nil) .nil)
  (.cons (.ret (.tup (.cons (.bin .FloorDiv (.var 0) (.var 2)) (.cons (.bin .FloorDiv (.var 1) (.var 2)) .nil))))
  .nil)))
/-- plus(kind, one, other): 0 kind, 1 one, 2 other; law_k02_sums_and_products -/
def b_plus : XSs :=
  (.cons (.ife (.cmp .Eq (.var 0) (.cst (.int 0))) (.cons (.ret (.call "lowest" (.cons (.bin .Add (.bin .Mult (.ix (.var 1) (.cst (.int 0))) (.ix (.var 2) (.cst (.int 1)))) (.bin .Mult (.ix (.var 2) (.cst (.int 0))) (.ix (.var 1) (.cst (.int 1))))) (.cons (.bin .Mult (.ix (.var 1) (.cst (.int 1))) (.ix (.var 2) (.cst (.int 1)))) .nil))))
  .nil) .nil)
  (.cons (.ret (.bin .Mod (.bin .Add (.var 1) (.var 2)) (.var 0)))
  .nil))
/-- minus(kind, one, other): 0 kind, 1 one, 2 other; law_k02_sums_and_products -/
def b_minus : XSs :=
  (.cons (.ife (.cmp .Eq (.var 0) (.cst (.int 0))) (.cons (.ret (.call "lowest" (.cons (.bin .Sub (.bin .Mult (.ix (.var 1) (.cst (.int 0))) (.ix (.var 2) (.cst (.int 1)))) (.bin .Mult (.ix (.var 2) (.cst (.int 0))) (.ix (.var 1) (.cst (.int 1))))) (.cons (.bin .Mult (.ix (.var 1) (.cst (.int 1))) (.ix (.var 2) (.cst (.int 1)))) .nil))))
  .nil) .nil)
  (.cons (.ret (.bin .Mod (.bin .Sub (.var 1) (.var 2)) (.var 0)))
  .nil))
/-- times(kind, one, other): 0 kind, 1 one, 2 other; law_k02_sums_and_products -/
def b_times : XSs :=
  (.cons (.ife (.cmp .Eq (.var 0) (.cst (.int 0))) (.cons (.ret (.call "lowest" (.cons (.bin .Mult (.ix (.var 1) (.cst (.int 0))) (.ix (.var 2) (.cst (.int 0)))) (.cons (.bin .Mult (.ix (.var 1) (.cst (.int 1))) (.ix (.var 2) (.cst (.int 1)))) .nil))))
  .nil) .nil)
  (.cons (.ret (.bin .Mod (.bin .Mult (.var 1) (.var 2)) (.var 0)))
  .nil))
/-- back_of(prime, rest): 0 prime, 1 rest, 2 here, 3 there, 4 told, 5 other, 6 by; law_k02_sums_and_products -/
def p_back_of_1 : XE :=
  (.cmp .NotEq (.var 3) (.cst (.int 0)))
def p_back_of_2 : XSs :=
  (.cons (.asg (.nm 6) (.bin .FloorDiv (.var 2) (.var 3)))
  (.cons (.par [2, 3] (.cons (.var 3) (.cons (.bin .Sub (.var 2) (.bin .Mult (.var 6) (.var 3))) .nil)))
  (.cons (.par [4, 5] (.cons (.var 5) (.cons (.bin .Sub (.var 4) (.bin .Mult (.var 6) (.var 5))) .nil)))
  .nil)))
def b_back_of : XSs :=
  (.cons (.par [2, 3] (.cons (.var 1) (.cons (.var 0) .nil)))
  (.cons (.par [4, 5] (.cons (.cst (.int 1)) (.cons (.cst (.int 0)) .nil)))
  (.cons (.whl p_back_of_1 p_back_of_2)
  (.cons (.ret (.bin .Mod (.var 4) (.var 0)))
  .nil))))
/-- over(kind, one, other): 0 kind, 1 one, 2 other; law_k02_sums_and_products -/
def b_over : XSs :=
  (.cons (.ife (.cmp .Eq (.var 0) (.cst (.int 0))) (.cons (.ret (.call "lowest" (.cons (.bin .Mult (.ix (.var 1) (.cst (.int 0))) (.ix (.var 2) (.cst (.int 1)))) (.cons (.bin .Mult (.ix (.var 1) (.cst (.int 1))) (.ix (.var 2) (.cst (.int 0)))) .nil))))
  .nil) .nil)
  (.cons (.ret (.bin .Mod (.bin .Mult (.var 1) (.call "back_of" (.cons (.var 0) (.cons (.var 2) .nil)))) (.var 0)))
  .nil))
local macro_rules | `(tactic| walk_at "vi") => `(tactic| simp [startE, cmpD, binD, biD, isiD, ixD, dem, sfE, sfEs, frE, isOwn, ownL, isList, staE, setT, setAll, *])
def sgL (n : Nat) (f : List D → Option D) : Sig := ⟨false, false, n, f⟩
theorem keepsL {Γ : Tab} {b : XSs} {n ar : Nat} {f : List D → Option D} (h : ∀ as d, as.length = ar → f as = some d → ∃ fr, exs Γ b (startE false n as) = some (.rt fr d)) : Keeps Γ b n (sgL ar f) := fun as d hl e =>
  let ⟨fr, q⟩ := h as d hl e
  ⟨fr, q, fun z => by cases z⟩
/-! divisor -/
theorem gcd_step (a b : Int) : b.gcd (a.fmod b) = a.gcd b := by
  rw [Int.fmod_def, Int.sub_eq_add_neg, ← Int.mul_neg, Int.gcd_add_mul_left_right, Int.gcd_comm]
theorem fmod_small (a : Int) {b : Int} (h : b ≠ 0) : (a.fmod b).natAbs < b.natAbs := by
  rcases Int.lt_or_gt_of_ne h with h1 | h1
  · have e : a.fmod b = -((-a).fmod (-b)) := by rw [Int.fmod_def, Int.fmod_def, Int.neg_fdiv_neg, Int.neg_mul]; omega
    have a1 := Int.fmod_nonneg_of_pos (-a) (b := -b) (by omega)
    have a2 := Int.fmod_lt_of_pos (-a) (b := -b) (by omega)
    omega
  · have a1 := Int.fmod_nonneg_of_pos a h1
    have a2 := Int.fmod_lt_of_pos a h1
    omega
theorem gcd_run (Γ : Tab) (n : Nat) : ∀ (s s' : Sta) (a b : Int), b.natAbs ≤ n → ∃ (c d : Int) (t t' : Sta), c.natAbs = a.gcd b ∧ whlGo (ev Γ p_divisor_1) (exs Γ p_divisor_2) [some (s, .int a), some (s', .int b)] = some (.nx [some (t, .int c), some (t', .int d)]) := by
  induction n with
  | zero =>
    intro s s' a b h
    have hb : b = 0 := by omega
    subst hb
    refine ⟨a, 0, s, s', by rw [Int.gcd_zero_right], ?_⟩
    rw [whl_eq]
    unfold p_divisor_1
    walk_at "vi"
  | succ n ih =>
    intro s s' a b h
    by_cases hb : b = 0
    · subst hb
      refine ⟨a, 0, s, s', by rw [Int.gcd_zero_right], ?_⟩
      rw [whl_eq]
      unfold p_divisor_1
      walk_at "vi"
    · have hs := fmod_small a hb
      obtain ⟨c, d, t, t', h1, h2⟩ := ih .shr .shr b (a.fmod b) (by omega)
      refine ⟨c, d, t, t', by rw [h1, gcd_step], ?_⟩
      rw [whl_eq]
      conv => lhs; unfold p_divisor_1 p_divisor_2
      simp [cmpD, hb, binD, sfEs, sfE, isList, setAll]
      exact h2
abbrev sg_divisor := sg2 fun a b => some (.int (a.gcd b))
theorem abs_gcd (c : Int) : (if c < 0 then -c else c) = (c.natAbs : Int) := by
  split <;> omega
theorem keep_divisor (Γ : Tab) : Keeps Γ b_divisor 2 sg_divisor := keeps2 fun a b d e => by
  cases e
  obtain ⟨c, d, t, t', h1, h2⟩ := gcd_run Γ b.natAbs .shr .shr a b (Nat.le_refl _)
  have h3 := abs_gcd c
  rw [h1] at h3
  unfold b_divisor
  simp [startE, h2, biD, h3, dem, sfE, isList]
/-! lowest -/
def encQ (q : Rat) : D := .tuple [.int q.num, .int q.den]
def f_lowest (t b : Int) : Option D := if divOk b then some (encQ (Rat.divInt t b)) else none
abbrev sg_lowest := sg2 f_lowest
theorem divOk_ne {b : Int} (h : divOk b = true) : b ≠ 0 := by
  unfold divOk at h
  rw [Bool.and_eq_true] at h
  exact of_decide_eq_true h.1
theorem divOk_of {b c : Int} (h : divOk b = true) (hc : c ≠ 0) (hl : c.natAbs ≤ b.natAbs) : divOk c = true := by
  have hb := divOk_ne h
  unfold divOk at h ⊢
  rw [Bool.and_eq_true] at h ⊢
  refine ⟨decide_eq_true hc, decide_eq_true ?_⟩
  have h2 := of_decide_eq_true h.2
  have hb0 : b.natAbs ≠ 0 := by omega
  have hc0 : c.natAbs ≠ 0 := by omega
  rw [Nat.log2_lt hb0] at h2
  rw [Nat.log2_lt hc0]
  exact Nat.lt_of_le_of_lt hl h2
theorem low_pos {t b : Int} (hb : 0 < b) : t.fdiv (t.gcd b) = (Rat.divInt t b).num ∧ b.fdiv (t.gcd b) = ((Rat.divInt t b).den : Int) := by
  have hg : (0 : Int) ≤ (t.gcd b : Int) := by omega
  rw [Int.fdiv_eq_ediv_of_nonneg _ hg, Int.fdiv_eq_ediv_of_nonneg _ hg, Rat.num_divInt, Rat.den_divInt, if_neg (by omega), Int.sign_eq_one_of_pos hb, Int.one_mul, Int.gcd_comm]
  refine ⟨rfl, ?_⟩
  rw [Int.natCast_ediv]
  congr 1
  omega
theorem low_neg {t b : Int} (hb : b < 0) : t.fdiv (-(t.gcd b : Int)) = (Rat.divInt t b).num ∧ b.fdiv (-(t.gcd b : Int)) = ((Rat.divInt t b).den : Int) := by
  have h := low_pos (t := -t) (b := -b) (by omega)
  rw [Int.gcd_neg, Int.neg_gcd] at h
  have e : Rat.divInt (-t) (-b) = Rat.divInt t b := by
    rw [Rat.divInt_eq_divInt_iff (by omega) (by omega)]
    rw [Int.neg_mul, Int.mul_neg]
  rw [e] at h
  rw [← Int.neg_fdiv_neg, Int.neg_neg, ← Int.neg_fdiv_neg b, Int.neg_neg]
  exact h
theorem gcd_ne {t b : Int} (hb : b ≠ 0) : t.gcd b ≠ 0 := fun h => hb (Int.gcd_eq_zero_iff.mp h).2
theorem gcd_le {t b : Int} (hb : b ≠ 0) : t.gcd b ≤ b.natAbs := by
  rw [Int.gcd_eq_natAbs_gcd_natAbs]
  exact Nat.le_of_dvd (by omega) (Nat.gcd_dvd_right _ _)
theorem keep_lowest (Γ : Tab) (hΓ : Γ "divisor" = some sg_divisor) : Keeps Γ b_lowest 3 sg_lowest := keeps2 fun t b d e => by
  unfold f_lowest at e
  split at e
  · rename_i hd
    cases e
    have hb := divOk_ne hd
    have hg := gcd_ne (t := t) hb
    have hl := gcd_le (t := t) hb
    unfold b_lowest encQ
    by_cases h : b < 0
    · obtain ⟨e1, e2⟩ := low_neg (t := t) h
      have hdo : divOk (-(t.gcd b : Int)) = true := divOk_of hd (by omega) (by omega)
      simp [startE, hΓ, sg2, dem, staE, isList, frE, cmpD, h, binD, hdo, e1, e2, sfEs, sfE]
    · obtain ⟨e1, e2⟩ := low_pos (t := t) (b := b) (by omega)
      have hdo : divOk (t.gcd b : Int) = true := divOk_of hd (by omega) (by omega)
      simp [startE, hΓ, sg2, dem, staE, isList, frE, cmpD, h, binD, hdo, e1, e2, sfEs, sfE]
  · cases e
/-! plus, minus, times, over -/
def sml (i : Int) : Bool := decide (i.natAbs.log2 < 4000)
theorem mulOk_sml {i j : Int} (h1 : sml i = true) (h2 : sml j = true) : mulOk i j = true := by
  have := of_decide_eq_true h1
  have := of_decide_eq_true h2
  exact decide_eq_true (by omega)
theorem log2_mul (a b : Nat) : (a * b).log2 ≤ a.log2 + b.log2 + 1 := by
  by_cases ha : a = 0
  · subst ha; rw [Nat.zero_mul]; simp
  by_cases hb : b = 0
  · subst hb; rw [Nat.mul_zero]; simp
  have h1 := Nat.lt_log2_self (n := a)
  have h2 := Nat.lt_log2_self (n := b)
  have h0 : a * b ≠ 0 := Nat.mul_ne_zero ha hb
  have h3 : a * b < 2 ^ (a.log2 + 1 + (b.log2 + 1)) := by
    rw [Nat.pow_add]
    exact Nat.mul_lt_mul_of_lt_of_lt h1 h2
  have := (Nat.log2_lt h0).mpr h3
  omega
theorem divOk_mul {i j : Int} (h1 : sml i = true) (h2 : sml j = true) (i0 : i ≠ 0) (j0 : j ≠ 0) : divOk (i * j) = true := by
  have := of_decide_eq_true h1
  have := of_decide_eq_true h2
  have := log2_mul i.natAbs j.natAbs
  unfold divOk
  rw [Bool.and_eq_true, Int.natAbs_mul]
  exact ⟨decide_eq_true (Int.mul_ne_zero i0 j0), decide_eq_true (by omega)⟩
def fracOp (f : Int → Int → Int → Int → Int × Int) (a b c d : Int) : Option D := if sml a && sml b && sml c && sml d then f_lowest (f a b c d).1 (f a b c d).2 else none
def numOp (f : Int → Int → Int → Int → Int × Int) (g : Int → Int → Int → Int) : List D → Option D
  | [.int k, .tuple [.int a, .int b], .tuple [.int c, .int d]] => if k = 0 then fracOp f a b c d else none
  | [.int k, .int x, .int y] => if k = 0 then none else some (.int (g k x y))
  | _ => none
abbrev sg_plus := sgL 3 (numOp (fun a b c d => (a * d + c * b, b * d)) fun k x y => (x + y).fmod k)
abbrev sg_minus := sgL 3 (numOp (fun a b c d => (a * d - c * b, b * d)) fun k x y => (x - y).fmod k)
abbrev sg_times := sgL 3 (fun as => match as with
  | [.int k, .tuple [.int a, .int b], .tuple [.int c, .int d]] => if k = 0 then fracOp (fun a b c d => (a * c, b * d)) a b c d else none
  | [.int k, .int x, .int y] => if k ≠ 0 ∧ mulOk x y then some (.int ((x * y).fmod k)) else none
  | _ => none)
theorem fracOp_some {f : Int → Int → Int → Int → Int × Int} {a b c d : Int} {r : D} (h : fracOp f a b c d = some r) : sml a = true ∧ sml b = true ∧ sml c = true ∧ sml d = true ∧ f_lowest (f a b c d).1 (f a b c d).2 = some r := by
  unfold fracOp at h
  split at h
  · rename_i hh
    simp only [Bool.and_eq_true] at hh
    exact ⟨hh.1.1.1, hh.1.1.2, hh.1.2, hh.2, h⟩
  · cases h
theorem keep_plus (Γ : Tab) (hΓ : Γ "lowest" = some sg_lowest) : Keeps Γ b_plus 3 sg_plus := keepsL fun as r hl e => by
  unfold numOp at e
  split at e
  · split at e
    · obtain ⟨h1, h2, h3, h4, h5⟩ := fracOp_some e
      rename_i k a b c d hk
      subst hk
      unfold b_plus
      simp [startE, cmpD, ixD, L2.atI, L2.ixN, binD, mulOk_sml, h1, h2, h3, h4, hΓ, sg2, h5, dem, sfE]
    · cases e
  · split at e
    · cases e
    · cases e
      rename_i k x y hk
      unfold b_plus
      simp [startE, cmpD, binD, hk, dem, sfE]
  · cases e
theorem keep_minus (Γ : Tab) (hΓ : Γ "lowest" = some sg_lowest) : Keeps Γ b_minus 3 sg_minus := keepsL fun as r hl e => by
  unfold numOp at e
  split at e
  · split at e
    · obtain ⟨h1, h2, h3, h4, h5⟩ := fracOp_some e
      rename_i k a b c d hk
      subst hk
      unfold b_minus
      simp [startE, cmpD, ixD, L2.atI, L2.ixN, binD, mulOk_sml, h1, h2, h3, h4, hΓ, sg2, h5, dem, sfE]
    · cases e
  · split at e
    · cases e
    · cases e
      rename_i k x y hk
      unfold b_minus
      simp [startE, cmpD, binD, hk, dem, sfE]
  · cases e
theorem keep_times (Γ : Tab) (hΓ : Γ "lowest" = some sg_lowest) : Keeps Γ b_times 3 sg_times := keepsL fun as r hl e => by
  split at e
  · split at e
    · obtain ⟨h1, h2, h3, h4, h5⟩ := fracOp_some e
      rename_i k a b c d hk
      subst hk
      unfold b_times
      simp [startE, cmpD, ixD, L2.atI, L2.ixN, binD, mulOk_sml, h1, h2, h3, h4, hΓ, sg2, h5, dem, sfE]
    · cases e
  · split at e
    · rename_i hk
      cases e
      unfold b_times
      simp [startE, cmpD, binD, hk.1, hk.2, dem, sfE]
    · cases e
  · cases e
/-! back_of, over -/
def bkF : Nat → Int → Int → Int → Int → Option Int
  | 0, _, _, _, _ => none
  | f + 1, h, t, o, o' => if t = 0 then some o else if divOk t && mulOk (h.fdiv t) t && mulOk (h.fdiv t) o' then bkF f t (h - h.fdiv t * t) o' (o - h.fdiv t * o') else none
def backZ (p r : Int) : Option Int := if p = 0 then none else (bkF 20 r p 1 0).map fun o => o.fmod p
theorem bk_run (Γ : Tab) (p r : Sta × D) : ∀ (f : Nat) (h t o o' v : Int) (z : Option (Sta × D)), bkF f h t o o' = some v →
    ∃ (t' o2 : Int) (h' : Int) (z' : Option (Sta × D)), whlGo (ev Γ p_back_of_1) (exs Γ p_back_of_2) [some p, some r, some (.shr, .int h), some (.shr, .int t), some (.shr, .int o), some (.shr, .int o'), z] = some (.nx [some p, some r, some (.shr, .int h'), some (.shr, .int t'), some (.shr, .int v), some (.shr, .int o2), z'])
  | 0, _, _, _, _, _, _, e => by cases e
  | f + 1, h, t, o, o', v, z, e => by
    rw [whl_eq]
    unfold bkF at e
    by_cases ht : t = 0
    · rw [if_pos ht] at e
      cases e
      subst ht
      refine ⟨0, o', h, z, ?_⟩
      unfold p_back_of_1
      walk_at "vi"
    · rw [if_neg ht] at e
      split at e
      · rename_i hh
        simp only [Bool.and_eq_true] at hh
        obtain ⟨t', o2, h', z', ih⟩ := bk_run Γ p r f _ _ _ _ _ (some (.shr, .int (h.fdiv t))) e
        refine ⟨t', o2, h', z', ?_⟩
        rw [← ih]
        conv => lhs; unfold p_back_of_1 p_back_of_2
        simp [cmpD, ht, binD, hh.1.1, hh.1.2, hh.2, dem, staE, isList, frE, sfEs, sfE, setAll]
        rfl
      · cases e
abbrev sg_back_of := sg2 fun p r => (backZ p r).map .int
theorem keep_back_of (Γ : Tab) : Keeps Γ b_back_of 7 sg_back_of := keeps2 fun p r d e => by
  unfold backZ at e
  split at e
  · cases e
  · rename_i hp
    cases h : bkF 20 r p 1 0 with
    | none => rw [h] at e; cases e
    | some v =>
      rw [h] at e
      cases e
      obtain ⟨t', o2, h', z', hr⟩ := bk_run Γ (.shr, .int p) (.shr, .int r) 20 r p 1 0 v none h
      unfold b_back_of
      simp [startE, setAll, hr, sfEs, sfE, isList, dem, binD, hp]
theorem backs : ∀ p < 99, primeB p = true → ∀ r < p, (match backZ p r with
    | some v => decide (0 ≤ v) && decide (v < p) && (if r = 0 then decide (v = 0) else decide ((v * r).emod p = 1))
    | none => false) = true := by decide +kernel
abbrev sg_over := sgL 3 (fun as => match as with
  | [.int k, .tuple [.int a, .int b], .tuple [.int c, .int d]] => if k = 0 then fracOp (fun a b c d => (a * d, b * c)) a b c d else none
  | [.int k, .int x, .int y] => match backZ k y with
    | some v => if k ≠ 0 ∧ mulOk x v then some (.int ((x * v).fmod k)) else none
    | none => none
  | _ => none)
theorem keep_over (Γ : Tab) (hΓ : Γ "lowest" = some sg_lowest) (hΓ2 : Γ "back_of" = some sg_back_of) : Keeps Γ b_over 3 sg_over := keepsL fun as r hl e => by
  split at e
  · split at e
    · obtain ⟨h1, h2, h3, h4, h5⟩ := fracOp_some e
      rename_i k a b c d hk
      subst hk
      unfold b_over
      simp [startE, cmpD, ixD, L2.atI, L2.ixN, binD, mulOk_sml, h1, h2, h3, h4, hΓ, sg2, h5, dem, sfE]
    · cases e
  · rename_i k x y
    split at e
    · rename_i v hv
      split at e
      · rename_i hk
        cases e
        unfold b_over
        simp [startE, cmpD, binD, hk.1, hk.2, dem, sfE, hΓ2, sg2, hv]
      · cases e
    · cases e
  · cases e
end VI
set_option Elab.async false
set_option linter.all false
set_option maxRecDepth 100000
set_option exponentiation.threshold 2000
set_option maxHeartbeats 4000000
namespace VI
open PySem
/-- _law_divisor(_law_one, _law_other): 0 _law_one, 1 _law_other; law_k02_sums_and_products -/
def p_law_divisor_1 : XE :=
  (.cmp .NotEq (.var 1) (.cst (.int 0)))
def p_law_divisor_2 : XSs :=
  (.cons (.par [0, 1] (.cons (.var 1) (.cons (.bin .Mod (.var 0) (.var 1)) .nil)))
  .nil)
def b_law_divisor : XSs :=
  (.cons (.whl p_law_divisor_1 p_law_divisor_2)
  (.cons (.ret (.bi .abs (.cons (.var 0) .nil)))
  .nil))
/-- _law_drawn(_law_kind_here, _law_cell): 0 _law_kind_here, 1 _law_cell, 2 _law_top, 3 _law_bottom, 4 _law_by; law_k02_sums_and_products -/
def b_law_drawn : XSs :=
  (.cons (.ife (.cmp .Eq (.bin .FloorDiv (.var 1) (.bin .Pow (.cst (.int 10)) (.cst (.int 12)))) (.cst (.int 0))) (.cons (.asg (.nm 1) (.bin .Mod (.bin .Mult (.bin .Add (.bin .Mult (.var 1) (.var 1)) (.cst (.int 40503))) (.cst (.int 48271))) (.cst (.int 2147483629))))
  (.cons (.asg (.nm 1) (.bin .Mod (.bin .Mult (.var 1) (.var 1)) (.cst (.int 2147483587))))
  (.cons (.ife (.cmp .Eq (.var 0) (.cst (.int 0))) (.cons (.asg (.nm 4) (.call "_law_divisor" (.cons (.bin .Sub (.bin .Mod (.var 1) (.cst (.int 13))) (.cst (.int 6))) (.cons (.bin .Add (.cst (.int 1)) (.bin .Mod (.bin .FloorDiv (.var 1) (.cst (.int 13))) (.cst (.int 6)))) .nil))))
  (.cons (.ret (.tup (.cons (.bin .FloorDiv (.bin .Sub (.bin .Mod (.var 1) (.cst (.int 13))) (.cst (.int 6))) (.var 4)) (.cons (.bin .FloorDiv (.bin .Add (.cst (.int 1)) (.bin .Mod (.bin .FloorDiv (.var 1) (.cst (.int 13))) (.cst (.int 6)))) (.var 4)) .nil))))
  .nil)) .nil)
  .nil))) .nil)
  (.cons (.ife (.cmp .Gt (.var 0) (.cst (.int 0))) (.cons (.ret (.bin .Mod (.var 1) (.var 0)))
  .nil) .nil)
  (.cons (.asg (.nm 2) (.bin .Sub (.bin .Mod (.var 1) (.bin .Sub (.bin .Mult (.cst (.int 2)) (.bin .Pow (.cst (.int 10)) (.cst (.int 20)))) (.cst (.int 1)))) (.bin .Sub (.bin .Pow (.cst (.int 10)) (.cst (.int 20))) (.cst (.int 1)))))
  (.cons (.asg (.nm 3) (.bin .Add (.cst (.int 1)) (.bin .Mod (.bin .FloorDiv (.var 1) (.bin .Sub (.bin .Mult (.cst (.int 2)) (.bin .Pow (.cst (.int 10)) (.cst (.int 20)))) (.cst (.int 1)))) (.bin .Sub (.bin .Pow (.cst (.int 10)) (.cst (.int 20))) (.cst (.int 1))))))
  (.cons (.asg (.nm 4) (.call "_law_divisor" (.cons (.var 2) (.cons (.var 3) .nil))))
  (.cons (.ret (.tup (.cons (.bin .FloorDiv (.var 2) (.var 4)) (.cons (.bin .FloorDiv (.var 3) (.var 4)) .nil))))
  .nil))))))
/-- _law_is(_law_kind_here, _law_found, _law_top, _law_bottom): 0 _law_kind_here, 1 _law_found, 2 _law_top, 3 _law_bottom; law_k02_sums_and_products -/
def b_law_is : XSs :=
  (.cons (.ife (.cmp .Gt (.var 0) (.cst (.int 0))) (.cons (.ret (.and (.call "_law_whole" (.cons (.var 1) .nil)) (.and (.cmp .LtE (.cst (.int 0)) (.var 1)) (.and (.cmp .Lt (.var 1) (.var 0)) (.cmp .Eq (.bin .Mod (.bin .Sub (.bin .Mult (.var 1) (.var 3)) (.var 2)) (.var 0)) (.cst (.int 0)))))))
  .nil) .nil)
  (.cons (.ife (.or (.not (.isi (.var 1) .tuple)) (.or (.cmp .NotEq (.bi .len (.cons (.var 1) .nil)) (.cst (.int 2))) (.or (.not (.call "_law_whole" (.cons (.ix (.var 1) (.cst (.int 0))) .nil))) (.not (.call "_law_whole" (.cons (.ix (.var 1) (.cst (.int 1))) .nil)))))) (.cons (.ret (.cst (.bool false)))
  .nil) .nil)
  (.cons (.ife (.or (.cmp .Lt (.ix (.var 1) (.cst (.int 1))) (.cst (.int 1))) (.cmp .NotEq (.call "_law_divisor" (.cons (.ix (.var 1) (.cst (.int 0))) (.cons (.ix (.var 1) (.cst (.int 1))) .nil))) (.cst (.int 1)))) (.cons (.ret (.cst (.bool false)))
  .nil) .nil)
  (.cons (.ret (.cmp .Eq (.bin .Mult (.ix (.var 1) (.cst (.int 0))) (.var 3)) (.bin .Mult (.var 2) (.ix (.var 1) (.cst (.int 1))))))
  .nil))))
/-- _law_two(_law_kind_here, _law_one, _law_other): 0 _law_kind_here, 1 _law_one, 2 _law_other, 3 _law_a, 4 _law_b, 5 _law_c, 6 _law_d; law_k02_sums_and_products -/
def b_law_two : XSs :=
  (.cons (.par [3, 4, 5, 6] (.cons (.var 1) (.cons (.cst (.int 1)) (.cons (.var 2) (.cons (.cst (.int 1)) .nil)))))
  (.cons (.ife (.cmp .Eq (.var 0) (.cst (.int 0))) (.cons (.asg (.tp [3, 4]) (.var 1))
  (.cons (.asg (.tp [5, 6]) (.var 2))
  .nil)) .nil)
  (.cons (.ife (.not (.call "_law_is" (.cons (.var 0) (.cons (.call "plus" (.cons (.var 0) (.cons (.var 1) (.cons (.var 2) .nil)))) (.cons (.bin .Add (.bin .Mult (.var 3) (.var 6)) (.bin .Mult (.var 5) (.var 4))) (.cons (.bin .Mult (.var 4) (.var 6)) .nil)))))) (.cons (.ret (.cst (.bool false)))
  .nil) .nil)
  (.cons (.ife (.not (.call "_law_is" (.cons (.var 0) (.cons (.call "minus" (.cons (.var 0) (.cons (.var 1) (.cons (.var 2) .nil)))) (.cons (.bin .Sub (.bin .Mult (.var 3) (.var 6)) (.bin .Mult (.var 5) (.var 4))) (.cons (.bin .Mult (.var 4) (.var 6)) .nil)))))) (.cons (.ret (.cst (.bool false)))
  .nil) .nil)
  (.cons (.ife (.not (.call "_law_is" (.cons (.var 0) (.cons (.call "times" (.cons (.var 0) (.cons (.var 1) (.cons (.var 2) .nil)))) (.cons (.bin .Mult (.var 3) (.var 5)) (.cons (.bin .Mult (.var 4) (.var 6)) .nil)))))) (.cons (.ret (.cst (.bool false)))
  .nil) .nil)
  (.cons (.ret (.or (.cmp .Eq (.var 5) (.cst (.int 0))) (.call "_law_is" (.cons (.var 0) (.cons (.call "over" (.cons (.var 0) (.cons (.var 1) (.cons (.var 2) .nil)))) (.cons (.bin .Mult (.var 3) (.var 6)) (.cons (.bin .Mult (.var 4) (.var 5)) .nil)))))))
  .nil))))))
/-- law: 0 _law_script, 1 _law_cell, 2 _law_kind_here, 3 _law_one, 4 _law_other -/
def p_k02_law_1 : XSs :=
  (.cons (.asg (.nm 2) (.call "_law_kind" (.cons (.var 1) .nil)))
  (.cons (.asg (.nm 3) (.call "_law_drawn" (.cons (.var 2) (.cons (.bin .FloorDiv (.var 1) (.cst (.int 198))) .nil))))
  (.cons (.asg (.nm 4) (.call "_law_drawn" (.cons (.var 2) (.cons (.bin .Add (.bin .FloorDiv (.bin .FloorDiv (.var 1) (.cst (.int 198))) (.bin .Pow (.cst (.int 10)) (.cst (.int 41)))) (.bin .Mod (.bin .FloorDiv (.var 1) (.cst (.int 7))) (.bin .Pow (.cst (.int 10)) (.cst (.int 9))))) .nil))))
  (.cons (.ife (.or (.not (.call "_law_two" (.cons (.var 2) (.cons (.var 3) (.cons (.var 4) .nil))))) (.or (.not (.call "_law_two" (.cons (.var 2) (.cons (.var 4) (.cons (.var 3) .nil))))) (.not (.call "_law_two" (.cons (.var 2) (.cons (.var 3) (.cons (.var 3) .nil))))))) (.cons (.ret (.cst (.bool false)))
  .nil) .nil)
  .nil))))
def b_k02_law : LawB :=
  .walk (.nm 1) 63 p_k02_law_1 (.cons (.ret (.cst (.bool true)))
  .nil)
local macro_rules | `(tactic| walk_at "vi") => `(tactic| simp [startE, cmpD, binD, biD, isiD, ixD, dem, sfE, sfEs, frE, isOwn, ownL, isList, staE, setT, setAll, *])
abbrev sg_law_divisor := sg_divisor
theorem keep_law_divisor (Γ : Tab) : Keeps Γ b_law_divisor 2 sg_law_divisor := keep_divisor Γ
/-! sizes -/
def lg (i : Int) : Nat := i.natAbs.log2
theorem mulOk_lg {i j : Int} (h1 : lg i < 1000000) (h2 : lg j < 1000000) : mulOk i j = true := decide_eq_true (by unfold lg at h1 h2; omega)
theorem log2_mono {a b : Nat} (h : a ≤ b) : a.log2 ≤ b.log2 := by
  by_cases ha : a = 0
  · subst ha; simp
  · have hb : b ≠ 0 := by omega
    have h1 : a.log2 < b.log2 + 1 := (Nat.log2_lt ha).mpr (Nat.lt_of_le_of_lt h Nat.lt_log2_self)
    omega
theorem lg_mono {i j : Int} (h : i.natAbs ≤ j.natAbs) : lg i ≤ lg j := log2_mono h
theorem lg_mul (i j : Int) : lg (i * j) ≤ lg i + lg j + 1 := by
  unfold lg
  rw [Int.natAbs_mul]
  exact log2_mul _ _
theorem log2_add (a b : Nat) : (a + b).log2 ≤ a.log2 + b.log2 + 1 := by
  have h1 := Nat.lt_log2_self (n := a)
  have h2 := Nat.lt_log2_self (n := b)
  by_cases h0 : a + b = 0
  · rw [h0]; simp
  have p1 : 2 ^ (a.log2 + 1) ≤ 2 ^ (a.log2 + b.log2 + 1) := Nat.pow_le_pow_right (by omega) (by omega)
  have p2 : 2 ^ (b.log2 + 1) ≤ 2 ^ (a.log2 + b.log2 + 1) := Nat.pow_le_pow_right (by omega) (by omega)
  have : (a + b) < 2 ^ (a.log2 + b.log2 + 1 + 1) := by rw [Nat.pow_succ]; omega
  have := (Nat.log2_lt h0).mpr this
  omega
theorem lg_add (i j : Int) : lg (i + j) ≤ lg i + lg j + 1 := by
  unfold lg
  exact Nat.le_trans (log2_mono (Int.natAbs_add_le i j)) (log2_add _ _)
theorem lg_neg (i : Int) : lg (-i) = lg i := by unfold lg; rw [Int.natAbs_neg]
theorem lg_sub (i j : Int) : lg (i - j) ≤ lg i + lg j + 1 := by
  rw [Int.sub_eq_add_neg]
  have := lg_add i (-j)
  rwa [lg_neg] at this
theorem lg_sml {i : Int} (h : sml i = true) : lg i < 4000 := of_decide_eq_true h
theorem num_le (t : Int) {b : Int} (hb : b ≠ 0) : (Rat.divInt t b).num.natAbs ≤ t.natAbs := by
  rw [Rat.num_divInt]
  refine Nat.le_trans (Int.natAbs_ediv_le_natAbs _ _) ?_
  rw [Int.natAbs_mul, Int.natAbs_sign_of_ne_zero hb, Nat.one_mul]
  exact Nat.le_refl _
theorem den_le (t : Int) {b : Int} (hb : b ≠ 0) : (Rat.divInt t b).den ≤ b.natAbs := by
  rw [Rat.den_divInt, if_neg hb]
  exact Nat.div_le_self _ _
/-! _law_is -/
def f_is : List D → Option D
  | [.int k, .tuple [.int n, .int d], .int t, .int b] => if k = 0 ∧ 1 ≤ d ∧ n.gcd d = 1 ∧ mulOk n b ∧ mulOk t d ∧ n * b = t * d then some (.bool true) else none
  | [.int k, .int v, .int t, .int b] => if 0 < k ∧ 0 ≤ v ∧ v < k ∧ mulOk v b ∧ (v * b - t).fmod k = 0 then some (.bool true) else none
  | _ => none
abbrev sg_law_is := sgL 4 f_is
theorem keep_law_is (Γ : Tab) (h1 : Γ "_law_whole" = some sg_law_whole) (h2 : Γ "_law_divisor" = some sg_law_divisor) : Keeps Γ b_law_is 4 sg_law_is := keepsL fun as r hl e => by
  unfold f_is at e
  split at e
  · split at e
    · rename_i k n d t b h
      cases e
      obtain ⟨rfl, a1, a2, a3, a4, a5⟩ := h
      unfold b_law_is
      have a6 : ¬ d < 1 := by omega
      simp [startE, cmpD, ixD, L2.atI, L2.ixN, binD, h1, h2, sg2, sgD, f_whole, isiD, biD, a2, a3, a4, a5, a6, dem, sfE]
    · cases e
  · split at e
    · rename_i k v t b h
      cases e
      obtain ⟨a1, a2, a3, a4, a5⟩ := h
      have a6 : k ≠ 0 := by omega
      unfold b_law_is
      simp [startE, cmpD, binD, h1, sgD, f_whole, a1, a2, a3, a4, a5, a6, dem, sfE]
    · cases e
  · cases e
theorem is_frac {t b : Int} (hb : b ≠ 0) (ht : lg t < 100000) (hbl : lg b < 100000) : f_is [.int 0, encQ (Rat.divInt t b), .int t, .int b] = some (.bool true) := by
  unfold f_is encQ
  have h1 := Rat.den_pos (Rat.divInt t b)
  have h2 := Rat.reduced (Rat.divInt t b)
  have h3 := (Rat.divInt_eq_divInt_iff (n₁ := (Rat.divInt t b).num) (d₁ := ((Rat.divInt t b).den : Int)) (n₂ := t) (d₂ := b) (by omega) hb).mp (Rat.num_divInt_den _)
  have h4 := lg_mono (num_le t hb)
  have h5 : lg ((Rat.divInt t b).den : Int) ≤ lg b := lg_mono (by have := den_le t hb; omega)
  exact if_pos ⟨rfl, by omega, by rw [Int.gcd_eq_natAbs_gcd_natAbs, Int.natAbs_natCast]; exact h2, mulOk_lg (by omega) (by omega), mulOk_lg (by omega) (by omega), h3⟩
theorem is_rest {k t b v : Int} (hk : 0 < k) (h0 : 0 ≤ v) (h1 : v < k) (hb : lg b < 100000) (hv : lg v < 100000) (h : (v * b - t).fmod k = 0) : f_is [.int k, .int v, .int t, .int b] = some (.bool true) := by
  unfold f_is
  exact if_pos ⟨hk, h0, h1, mulOk_lg (by omega) (by omega), h⟩
/-! _law_two -/
def f_two : List D → Option D
  | [.int k, .tuple [.int a, .int b], .tuple [.int c, .int d]] => if k = 0 ∧ 0 < b ∧ 0 < d ∧ sml a ∧ sml b ∧ sml c ∧ sml d then some (.bool true) else none
  | [.int k, .int x, .int y] => if 0 < k ∧ k < 99 ∧ primeB k.toNat ∧ 0 ≤ x ∧ x < k ∧ 0 ≤ y ∧ y < k then some (.bool true) else none
  | _ => none
abbrev sg_law_two := sgL 3 f_two
theorem fracOp_ok {f : Int → Int → Int → Int → Int × Int} {a b c d : Int} (h1 : sml a = true) (h2 : sml b = true) (h3 : sml c = true) (h4 : sml d = true) (h5 : divOk (f a b c d).2 = true) : fracOp f a b c d = some (encQ (Rat.divInt (f a b c d).1 (f a b c d).2)) := by
  unfold fracOp f_lowest
  rw [if_pos (by rw [h1, h2, h3, h4]; rfl), if_pos h5]
theorem fm_dvd {k z : Int} (h : k ∣ z) : z.fmod k = 0 := by
  obtain ⟨m, rfl⟩ := h
  exact Int.mul_fmod_right ..
theorem sml_small {x : Int} (h : x.natAbs < 100) : sml x = true := by
  have h1 : lg x ≤ lg 100 := lg_mono (by omega)
  have h2 : lg 100 < 4000 := by decide
  exact decide_eq_true (Nat.lt_of_le_of_lt h1 h2)
theorem keep_law_two (Γ : Tab) (hI : Γ "_law_is" = some sg_law_is) (hP : Γ "plus" = some sg_plus) (hM : Γ "minus" = some sg_minus) (hT : Γ "times" = some sg_times) (hO : Γ "over" = some sg_over) : Keeps Γ b_law_two 7 sg_law_two := keepsL fun as r hl e => by
  unfold f_two at e
  split at e
  · split at e
    · rename_i k a b c d h
      cases e
      obtain ⟨rfl, b0, d0, ha, hb, hc, hd⟩ := h
      have la := lg_sml ha
      have lb := lg_sml hb
      have lc := lg_sml hc
      have ld := lg_sml hd
      have ad := lg_mul a d
      have cb := lg_mul c b
      have bd := lg_mul b d
      have ac := lg_mul a c
      have bc := lg_mul b c
      have t1 := lg_add (a * d) (c * b)
      have t2 := lg_sub (a * d) (c * b)
      have bd0 : b * d ≠ 0 := Int.mul_ne_zero (by omega) (by omega)
      have kP := fracOp_ok (f := fun a b c d => (a * d + c * b, b * d)) ha hb hc hd (divOk_mul hb hd (by omega) (by omega))
      have kM := fracOp_ok (f := fun a b c d => (a * d - c * b, b * d)) ha hb hc hd (divOk_mul hb hd (by omega) (by omega))
      have kT := fracOp_ok (f := fun a b c d => (a * c, b * d)) ha hb hc hd (divOk_mul hb hd (by omega) (by omega))
      have iP := is_frac (t := a * d + c * b) bd0 (by omega) (by omega)
      have iM := is_frac (t := a * d - c * b) bd0 (by omega) (by omega)
      have iT := is_frac (t := a * c) bd0 (by omega) (by omega)
      unfold b_law_two
      by_cases c0 : c = 0
      · have c1 : decide (c = 0) = true := decide_eq_true c0
        simp [startE, setT, setAll, cmpD, binD, mulOk_sml, ha, hb, hc, hd, hI, hP, hM, hT, sgL, numOp, kP, kM, kT, iP, iM, iT, dem, sfEs, sfE, isList, c1]
      · have bc0 : b * c ≠ 0 := Int.mul_ne_zero (by omega) c0
        have kO := fracOp_ok (f := fun a b c d => (a * d, b * c)) ha hb hc hd (divOk_mul hb hc (by omega) c0)
        have iO := is_frac (t := a * d) bc0 (by omega) (by omega)
        simp [startE, setT, setAll, cmpD, binD, mulOk_sml, ha, hb, hc, hd, hI, hP, hM, hT, hO, sgL, numOp, kP, kM, kT, kO, iP, iM, iT, iO, dem, sfEs, sfE, isList, c0]
    · cases e
  · split at e
    · rename_i k x y h
      cases e
      obtain ⟨k0, k1, hp, x0, x1, y0, y1⟩ := h
      have kn : k ≠ 0 := by omega
      have hx := sml_small (x := x) (by omega)
      have hy := sml_small (x := y) (by omega)
      have h1 := sml_small (x := 1) (by omega)
      have lx := lg_sml hx
      have ly := lg_sml hy
      have xy := lg_mul x y
      have b1 : lg 1 < 100000 := by decide
      have bnd : ∀ z : Int, 0 ≤ z.fmod k ∧ z.fmod k < k := fun z => ⟨Int.fmod_nonneg_of_pos _ k0, Int.fmod_lt_of_pos _ k0⟩
      have lv : ∀ z : Int, lg (z.fmod k) < 100000 := fun z => by
        have := bnd z
        have := lg_sml (sml_small (x := z.fmod k) (by omega))
        omega
      have rest : ∀ z : Int, f_is [.int k, .int (z.fmod k), .int z, .int 1] = some (.bool true) := fun z =>
        is_rest k0 (bnd z).1 (bnd z).2 b1 (lv z) (fm_dvd ⟨-(z.fdiv k), by rw [Int.fmod_def, Int.mul_neg]; omega⟩)
      have iP := rest (x + y)
      have iM := rest (x - y)
      have iT := rest (x * y)
      unfold b_law_two
      by_cases c0 : y = 0
      · have c1 : decide (y = 0) = true := decide_eq_true c0
        simp [startE, setT, setAll, cmpD, binD, mulOk_sml, hx, hy, h1, hI, hP, hM, hT, sgL, numOp, iP, iM, iT, dem, sfEs, sfE, isList, kn, c1]
      · have hb := backs k.toNat (by omega) hp y.toNat (by omega)
        rw [Int.toNat_of_nonneg (by omega : 0 ≤ k), Int.toNat_of_nonneg y0] at hb
        cases hv : backZ k y with
        | none => rw [hv] at hb; cases hb
        | some v =>
          rw [hv] at hb
          simp only [Bool.and_eq_true, if_neg (by omega : ¬ y.toNat = 0)] at hb
          have v0 := of_decide_eq_true hb.1.1
          have v1 := of_decide_eq_true hb.1.2
          have v2 : (v * y) % k = 1 := of_decide_eq_true hb.2
          have sv := sml_small (x := v) (by omega)
          have iO : f_is [.int k, .int ((x * v).fmod k), .int x, .int y] = some (.bool true) := is_rest k0 (bnd _).1 (bnd _).2 (by omega) (lv _) (fm_dvd (by
            have e1 := Int.mul_ediv_add_emod (v * y) k
            rw [v2] at e1
            refine ⟨x * ((v * y) / k) - (x * v).fdiv k * y, ?_⟩
            rw [Int.fmod_def]
            grind))
          simp [startE, setT, setAll, cmpD, binD, mulOk_sml, hx, hy, h1, hI, hP, hM, hT, hO, sgL, numOp, iP, iM, iT, iO, hv, sv, dem, sfEs, sfE, isList, kn, c0]
    · cases e
  · cases e
/-! _law_drawn -/
def mixD (c : Int) : Int := ((((c * c + 40503) * 48271).fmod 2147483629) * (((c * c + 40503) * 48271).fmod 2147483629)).fmod 2147483587
def drawnD (k c : Int) : D := if c.fdiv 1000000000000 = 0 then
    if k = 0 then encQ (Rat.divInt ((mixD c).fmod 13 - 6) (1 + ((mixD c).fdiv 13).fmod 6)) else .int ((mixD c).fmod k)
  else if k = 0 then encQ (Rat.divInt (c.fmod 199999999999999999999 - 99999999999999999999) (1 + (c.fdiv 199999999999999999999).fmod 99999999999999999999)) else .int (c.fmod k)
abbrev sg_law_drawn := sg2 fun k c => if 0 ≤ k then some (drawnD k c) else none
theorem fm_pos (a : Int) {b : Int} (h : 0 < b) : 0 ≤ a.fmod b ∧ a.fmod b < b := ⟨Int.fmod_nonneg_of_pos _ h, Int.fmod_lt_of_pos _ h⟩
theorem divOk_gcd {t b : Int} (h : 0 < b) (hb : b.natAbs < 2 ^ 1000) : divOk (t.gcd b : Int) = true := by
  have hg := gcd_ne (t := t) (b := b) (by omega)
  have hl := gcd_le (t := t) (b := b) (by omega)
  exact divOk_small (by omega) (by omega)
theorem keep_law_drawn (Γ : Tab) (hΓ : Γ "_law_divisor" = some sg_law_divisor) : Keeps Γ b_law_drawn 5 sg_law_drawn := keeps2 fun k c d e => by
  split at e
  · rename_i k0
    cases e
    have d0 : divOk 1000000000000 = true := divOk_small (by decide) (by decide)
    have d1 : divOk 13 = true := divOk_small (by decide) (by decide)
    have d2 : divOk 199999999999999999999 = true := divOk_small (by decide) (by decide)
    have m0 : mulOk 2 100000000000000000000 = true := mulOk_small (by decide) (by decide)
    unfold drawnD b_law_drawn
    by_cases h : c.fdiv 1000000000000 = 0
    · have hc := fm_pos c (b := 1000000000000) (by decide)
      have e1 := Int.fmod_def c 1000000000000
      rw [h] at e1
      have hm := fm_pos ((c * c + 40503) * 48271) (b := 2147483629) (by decide)
      have c2 : c * c < 1000000000000 * 1000000000000 := Int.mul_lt_mul' (by omega) (by omega) (by omega) (by decide)
      have c3 : 0 ≤ c * c := Int.mul_nonneg (by omega) (by omega)
      have m1 : mulOk c c = true := mulOk_small (by omega) (by omega)
      have m2 : mulOk (c * c + 40503) 48271 = true := mulOk_small (by omega) (by decide)
      have m3 : mulOk (((c * c + 40503) * 48271).fmod 2147483629) (((c * c + 40503) * 48271).fmod 2147483629) = true := mulOk_small (by omega) (by omega)
      rw [if_pos h]
      by_cases hk : k = 0
      · rw [if_pos hk]
        unfold mixD
        have hb := fm_pos ((((((c * c + 40503) * 48271).fmod 2147483629) * (((c * c + 40503) * 48271).fmod 2147483629)).fmod 2147483587).fdiv 13) (b := 6) (by decide)
        generalize ht : (((((c * c + 40503) * 48271).fmod 2147483629) * (((c * c + 40503) * 48271).fmod 2147483629)).fmod 2147483587).fmod 13 - 6 = t
        generalize hbb : 1 + ((((((c * c + 40503) * 48271).fmod 2147483629) * (((c * c + 40503) * 48271).fmod 2147483629)).fmod 2147483587).fdiv 13).fmod 6 = b
        have b0 : 0 < b := by omega
        obtain ⟨l1, l2⟩ := low_pos (t := t) b0
        have dg := divOk_gcd (t := t) b0 (by omega)
        simp [startE, binD, d0, h, cmpD, m1, m2, m3, dem, staE, isList, frE, hk, d1, hΓ, sg2, ht, hbb, dg, l1, l2, encQ, sfEs, sfE]
      · rw [if_neg hk]
        have kp : 0 < k := by omega
        simp [startE, binD, d0, h, cmpD, m1, m2, m3, dem, staE, isList, frE, hk, kp, sfE]
        rfl
    · rw [if_neg h]
      by_cases hk : k = 0
      · rw [if_pos hk]
        have hb := fm_pos (c.fdiv 199999999999999999999) (b := 99999999999999999999) (by decide)
        generalize ht : c.fmod 199999999999999999999 - 99999999999999999999 = t
        generalize hbb : 1 + (c.fdiv 199999999999999999999).fmod 99999999999999999999 = b
        have b0 : 0 < b := by omega
        obtain ⟨l1, l2⟩ := low_pos (t := t) b0
        have dg := divOk_gcd (t := t) b0 (by omega)
        simp [startE, binD, d0, h, cmpD, d2, m0, dem, staE, isList, frE, hk, hΓ, sg2, ht, hbb, dg, l1, l2, encQ, sfEs, sfE]
      · rw [if_neg hk]
        have kp : 0 < k := by omega
        simp [startE, binD, d0, h, cmpD, dem, staE, isList, frE, hk, kp, sfE]
  · cases e
theorem frac_tame {t b : Int} (hb : 0 < b) (h1 : t.natAbs < 2 ^ 1000) (h2 : b.natAbs < 2 ^ 1000) : ∃ n d : Int, encQ (Rat.divInt t b) = .tuple [.int n, .int d] ∧ 0 < d ∧ sml n = true ∧ sml d = true := by
  have s : ∀ i : Int, i.natAbs < 2 ^ 1000 → sml i = true := fun i h => by
    have l1 : lg i ≤ lg (2 ^ 1000) := lg_mono (by omega)
    have l2 : lg (2 ^ 1000) < 4000 := by decide
    exact decide_eq_true (Nat.lt_of_le_of_lt l1 l2)
  have a1 := num_le t (b := b) (by omega)
  have a2 := den_le t (b := b) (by omega)
  have a3 := Rat.den_pos (Rat.divInt t b)
  exact ⟨_, _, rfl, by omega, s _ (by omega), s _ (by omega)⟩
theorem drawn_two (k c c' : Int) (hk : k = 0 ∨ 0 < k ∧ k < 99 ∧ primeB k.toNat = true) : f_two [.int k, drawnD k c, drawnD k c'] = some (.bool true) := by
  rcases hk with rfl | ⟨k0, k1, hp⟩
  · have h : ∀ c, ∃ n d : Int, drawnD 0 c = .tuple [.int n, .int d] ∧ 0 < d ∧ sml n = true ∧ sml d = true := fun c => by
      unfold drawnD
      have a1 := fm_pos (mixD c) (b := 13) (by decide)
      have a2 := fm_pos ((mixD c).fdiv 13) (b := 6) (by decide)
      have a3 := fm_pos c (b := 199999999999999999999) (by decide)
      have a4 := fm_pos (c.fdiv 199999999999999999999) (b := 99999999999999999999) (by decide)
      split
      · exact frac_tame (by omega) (by omega) (by omega)
      · exact frac_tame (by omega) (by omega) (by omega)
    obtain ⟨n, d, e1, h1, h2, h3⟩ := h c
    obtain ⟨n', d', e1', h1', h2', h3'⟩ := h c'
    rw [e1, e1']
    exact if_pos ⟨rfl, h1, h1', h2, h3, h2', h3'⟩
  · have h : ∀ c, ∃ x : Int, drawnD k c = .int x ∧ 0 ≤ x ∧ x < k := fun c => by
      unfold drawnD
      split
      · rw [if_neg (by omega)]
        exact ⟨_, rfl, fm_pos _ k0⟩
      · rw [if_neg (by omega)]
        exact ⟨_, rfl, fm_pos _ k0⟩
    obtain ⟨x, e1, h1, h2⟩ := h c
    obtain ⟨x', e1', h1', h2'⟩ := h c'
    rw [e1, e1']
    exact if_pos ⟨k0, k1, hp, h1, h2, h1', h2'⟩
theorem lastP_prime : ∀ n : Nat, lastP n = 0 ∨ primeB (lastP n) = true
  | 0 => .inl rfl
  | n + 1 => by
    unfold lastP
    split
    · rename_i h
      exact .inr h
    · exact lastP_prime n
theorem kind_of (c : Int) : kindOf c = 0 ∨ 0 < kindOf c ∧ kindOf c < 99 ∧ primeB (kindOf c).toNat = true := by
  have h2 := fm_pos c (b := 2) (by decide)
  have h3 := fd_bnd c
  have h4 := lastP_le ((c.fdiv 2).fmod 99).toNat
  have h5 := lastP_prime ((c.fdiv 2).fmod 99).toNat
  unfold kindOf
  generalize lastP ((c.fdiv 2).fmod 99).toNat = q at h4 h5
  have h6 : c.fmod 2 = 0 ∨ c.fmod 2 = 1 := by omega
  rcases h6 with h6 | h6
  · rw [h6]; exact .inl (Int.mul_zero _)
  · rw [h6, Int.mul_one]
    rcases h5 with h5 | h5
    · exact .inl (by omega)
    · by_cases q0 : q = 0
      · exact .inl (by omega)
      · exact .inr ⟨by omega, by omega, by simpa using h5⟩
theorem law_k02 (Γ : Tab) (h1 : Γ "_law_kind" = some sg_law_kind) (h2 : Γ "_law_drawn" = some sg_law_drawn) (h3 : Γ "_law_two" = some sg_law_two) : ∀ ns : List Int, ns.length ≤ 63 → ∃ fr, runLaw Γ 5 b_k02_law ns = some (.rt fr (.bool true)) := by
  intro ns _
  have d1 : divOk 198 = true := divOk_small (by decide) (by decide)
  have d2 : divOk 7 = true := divOk_small (by decide) (by decide)
  have d3 : divOk 100000000000000000000000000000000000000000 = true := divOk_small (by decide) (by decide)
  have body : ∀ d ∈ (cellsOf ns 63).map PyData.int, ∀ ρ : Env, (∃ a b c e g, ρ = [a, b, c, e, g]) → goesOn (fun ρ => ∃ a b c e g, ρ = [a, b, c, e, g]) (forF Γ (.nm 1) p_k02_law_1 d ρ) := by
    rintro d hd' ρ ⟨a, b, c, e, g, rfl⟩
    obtain ⟨i, _, rfl⟩ := List.mem_map.mp hd'
    have hk := kind_of i
    have k0 : 0 ≤ kindOf i := by omega
    have t := fun c c' => drawn_two (kindOf i) c c' hk
    have nl : ∀ c, isList (drawnD (kindOf i) c) = false := fun c => by
      unfold drawnD encQ
      split <;> split <;> rfl
    unfold forF p_k02_law_1
    simp [setT, h1, h2, h3, sg1, sg2, sgL, dem, sfE, staE, frE, nl, binD, d1, d2, d3, k0, t]
  obtain ⟨ρ', e, _, _, _, _, _, rfl⟩ := forGo_inv _ _ (List.replicate 5 none) body ⟨_, _, _, _, _, rfl⟩
  refine ⟨false, ?_⟩
  simp only [runLaw, b_k02_law]
  rw [e]
  simp [dem, sfE, frE, isOwn]
end VI
set_option Elab.async false
set_option linter.all false
set_option maxRecDepth 100000
set_option exponentiation.threshold 2000
set_option maxHeartbeats 4000000
namespace VI.K02
open PySem PySem.Spec PyProof.Rows L2
def top (i : Nat) : Stmt := PySem.Challenge.pw_steermill_k02_sums_and_products.main.body.getD i (.Pass ⟨0, 0, 0, 0⟩)
abbrev s1 : Stmt := top 1
theorem sc1 : FnScope ["one", "other"] ["one", "other"] (defScope s1) := ⟨rfl, rfl, rfl, by decide +kernel, rfl, by decide +kernel, by decide +kernel⟩
theorem tr1 : trSs 200 ⟨["one", "other"], defScope s1, fun _ => true⟩ (defBody s1) = some b_divisor := by kernel_rfl
def d1 : He.DefD := ⟨("divisor", none), "divisor", "divisor", defArgs s1, defBody s1, defScope s1, [], []⟩
abbrev s2 : Stmt := top 2
theorem sc2 : FnScope ["top", "bottom", "by"] ["top", "bottom"] (defScope s2) := ⟨rfl, rfl, rfl, by decide +kernel, rfl, by decide +kernel, by decide +kernel⟩
theorem tr2 : trSs 200 ⟨["top", "bottom", "by"], defScope s2, fun _ => true⟩ (defBody s2) = some b_lowest := by kernel_rfl
def d2 : He.DefD := ⟨("lowest", none), "lowest", "lowest", defArgs s2, defBody s2, defScope s2, [], []⟩
abbrev s3 : Stmt := top 3
theorem sc3 : FnScope ["kind", "one", "other"] ["kind", "one", "other"] (defScope s3) := ⟨rfl, rfl, rfl, by decide +kernel, rfl, by decide +kernel, by decide +kernel⟩
theorem tr3 : trSs 200 ⟨["kind", "one", "other"], defScope s3, fun _ => true⟩ (defBody s3) = some b_plus := by kernel_rfl
def d3 : He.DefD := ⟨("plus", none), "plus", "plus", defArgs s3, defBody s3, defScope s3, [], []⟩
abbrev s4 : Stmt := top 4
theorem sc4 : FnScope ["kind", "one", "other"] ["kind", "one", "other"] (defScope s4) := ⟨rfl, rfl, rfl, by decide +kernel, rfl, by decide +kernel, by decide +kernel⟩
theorem tr4 : trSs 200 ⟨["kind", "one", "other"], defScope s4, fun _ => true⟩ (defBody s4) = some b_minus := by kernel_rfl
def d4 : He.DefD := ⟨("minus", none), "minus", "minus", defArgs s4, defBody s4, defScope s4, [], []⟩
abbrev s5 : Stmt := top 5
theorem sc5 : FnScope ["kind", "one", "other"] ["kind", "one", "other"] (defScope s5) := ⟨rfl, rfl, rfl, by decide +kernel, rfl, by decide +kernel, by decide +kernel⟩
theorem tr5 : trSs 200 ⟨["kind", "one", "other"], defScope s5, fun _ => true⟩ (defBody s5) = some b_times := by kernel_rfl
def d5 : He.DefD := ⟨("times", none), "times", "times", defArgs s5, defBody s5, defScope s5, [], []⟩
abbrev s6 : Stmt := top 6
theorem sc6 : FnScope ["prime", "rest", "here", "there", "told", "other", "by"] ["prime", "rest"] (defScope s6) := ⟨rfl, rfl, rfl, by decide +kernel, rfl, by decide +kernel, by decide +kernel⟩
theorem tr6 : trSs 200 ⟨["prime", "rest", "here", "there", "told", "other", "by"], defScope s6, fun _ => true⟩ (defBody s6) = some b_back_of := by kernel_rfl
def d6 : He.DefD := ⟨("back_of", none), "back_of", "back_of", defArgs s6, defBody s6, defScope s6, [], []⟩
abbrev s7 : Stmt := top 7
theorem sc7 : FnScope ["kind", "one", "other"] ["kind", "one", "other"] (defScope s7) := ⟨rfl, rfl, rfl, by decide +kernel, rfl, by decide +kernel, by decide +kernel⟩
theorem tr7 : trSs 200 ⟨["kind", "one", "other"], defScope s7, fun _ => true⟩ (defBody s7) = some b_over := by kernel_rfl
def d7 : He.DefD := ⟨("over", none), "over", "over", defArgs s7, defBody s7, defScope s7, [], []⟩
abbrev s9 : Stmt := top 9
theorem sc9 : FnScope ["_law_found"] ["_law_found"] (defScope s9) := ⟨rfl, rfl, rfl, by decide +kernel, rfl, by decide +kernel, by decide +kernel⟩
theorem tr9 : trSs 200 ⟨["_law_found"], defScope s9, fun _ => true⟩ (defBody s9) = some b_law_whole := by kernel_rfl
def d9 : He.DefD := ⟨("_law_whole", none), "_law_whole", "_law_whole", defArgs s9, defBody s9, defScope s9, [], []⟩
abbrev s10 : Stmt := top 10
theorem sc10 : FnScope ["_law_one", "_law_other"] ["_law_one", "_law_other"] (defScope s10) := ⟨rfl, rfl, rfl, by decide +kernel, rfl, by decide +kernel, by decide +kernel⟩
theorem tr10 : trSs 200 ⟨["_law_one", "_law_other"], defScope s10, fun _ => true⟩ (defBody s10) = some b_law_divisor := by kernel_rfl
def d10 : He.DefD := ⟨("_law_divisor", none), "_law_divisor", "_law_divisor", defArgs s10, defBody s10, defScope s10, [], []⟩
abbrev s11 : Stmt := top 11
theorem sc11 : FnScope ["_law_whole_here", "_law_by"] ["_law_whole_here"] (defScope s11) := ⟨rfl, rfl, rfl, by decide +kernel, rfl, by decide +kernel, by decide +kernel⟩
theorem tr11 : trSs 200 ⟨["_law_whole_here", "_law_by"], defScope s11, fun _ => true⟩ (defBody s11) = some b_law_is_prime := by kernel_rfl
def d11 : He.DefD := ⟨("_law_is_prime", none), "_law_is_prime", "_law_is_prime", defArgs s11, defBody s11, defScope s11, [], []⟩
abbrev s12 : Stmt := top 12
theorem sc12 : FnScope ["_law_cell", "_law_found"] ["_law_cell"] (defScope s12) := ⟨rfl, rfl, rfl, by decide +kernel, rfl, by decide +kernel, by decide +kernel⟩
theorem tr12 : trSs 200 ⟨["_law_cell", "_law_found"], defScope s12, fun _ => true⟩ (defBody s12) = some b_law_kind := by kernel_rfl
def d12 : He.DefD := ⟨("_law_kind", none), "_law_kind", "_law_kind", defArgs s12, defBody s12, defScope s12, [], []⟩
abbrev s13 : Stmt := top 13
theorem sc13 : FnScope ["_law_kind_here", "_law_cell", "_law_top", "_law_bottom", "_law_by"] ["_law_kind_here", "_law_cell"] (defScope s13) := ⟨rfl, rfl, rfl, by decide +kernel, rfl, by decide +kernel, by decide +kernel⟩
theorem tr13 : trSs 200 ⟨["_law_kind_here", "_law_cell", "_law_top", "_law_bottom", "_law_by"], defScope s13, fun _ => true⟩ (defBody s13) = some b_law_drawn := by kernel_rfl
def d13 : He.DefD := ⟨("_law_drawn", none), "_law_drawn", "_law_drawn", defArgs s13, defBody s13, defScope s13, [], []⟩
abbrev s14 : Stmt := top 14
theorem sc14 : FnScope ["_law_kind_here", "_law_found", "_law_top", "_law_bottom"] ["_law_kind_here", "_law_found", "_law_top", "_law_bottom"] (defScope s14) := ⟨rfl, rfl, rfl, by decide +kernel, rfl, by decide +kernel, by decide +kernel⟩
theorem tr14 : trSs 200 ⟨["_law_kind_here", "_law_found", "_law_top", "_law_bottom"], defScope s14, fun _ => true⟩ (defBody s14) = some b_law_is := by kernel_rfl
def d14 : He.DefD := ⟨("_law_is", none), "_law_is", "_law_is", defArgs s14, defBody s14, defScope s14, [], []⟩
abbrev s15 : Stmt := top 15
theorem sc15 : FnScope ["_law_kind_here", "_law_one", "_law_other", "_law_a", "_law_b", "_law_c", "_law_d"] ["_law_kind_here", "_law_one", "_law_other"] (defScope s15) := ⟨rfl, rfl, rfl, by decide +kernel, rfl, by decide +kernel, by decide +kernel⟩
theorem tr15 : trSs 200 ⟨["_law_kind_here", "_law_one", "_law_other", "_law_a", "_law_b", "_law_c", "_law_d"], defScope s15, fun _ => true⟩ (defBody s15) = some b_law_two := by kernel_rfl
def d15 : He.DefD := ⟨("_law_two", none), "_law_two", "_law_two", defArgs s15, defBody s15, defScope s15, [], []⟩
abbrev s16 : Stmt := top 16
theorem sc16 : FnScope ["_law_script", "_law_cell", "_law_kind_here", "_law_one", "_law_other"] ["_law_script"] (defScope s16) := ⟨rfl, rfl, rfl, by decide +kernel, rfl, by decide +kernel, by decide +kernel⟩
theorem tr16 : trLaw ⟨["_law_script", "_law_cell", "_law_kind_here", "_law_one", "_law_other"], defScope s16, fun _ => true⟩ (defBody s16) = some b_k02_law := by kernel_rfl
def d16 : He.DefD := ⟨("law", none), "law", "law", defArgs s16, defBody s16, defScope s16, [], []⟩
def fn : List He.DefD := [d1, d2, d3, d4, d5, d6, d7, d9, d10, d11, d12, d13, d14, d15, d16]
def fa : List He.Fa := [.glo "divisor", .glo "lowest", .glo "plus", .glo "minus", .glo "times", .glo "back_of", .glo "over", .glo "_law_whole", .glo "_law_divisor", .glo "_law_is_prime", .glo "_law_kind", .glo "_law_drawn", .glo "_law_is", .glo "_law_two", .glo "law", .free "len", .free "abs", .free "int", .free "max", .free "list", .free "tuple", .free "sum", .free "all", .free "any", .free "sorted", .free "isinstance", .free "bool", .free "str", .free "range", .free "zip", .free "enumerate"]
abbrev R : PySem.W.OpenRow := PySem.W.OpenLaw.row PySem.Challenge.rw_steermill_k02_sums_and_products
abbrev hk : PySem.W.Hook := He.hookD 4 fa fn
def ob (s : PySem.W.SharedT) : He.AlD := He.obsDG 4 fa fn (HandSHeadRun.getT s)
theorem ob_eq (s : PySem.W.SharedT) : ob s = hk.obs s.abs := He.obsDG_eq (HandSHeadRun.getT_eq s)
theorem run (w : World) : HandSHeadRun.RunEq R (PySem.W.view R.prog [16]) hk ob 1300 ["divisor", "lowest", "plus", "minus", "times", "back_of", "over", "_law_whole", "_law_divisor", "_law_is_prime", "_law_kind", "_law_drawn", "_law_is", "_law_two"] w := by
  intro os
  kernel_rfl
theorem facts {P : Program} {w : World} {K : PySem.W.Frag} {h : Heap} {mg : Str → Option Value} {f : Addr} (X : K.In h) (G : h.Ns mainGlobals mg) (hfa : mg ("law" : Str) = some (.ref f)) (c : He.SaysD fa fn K) :
    ∃ fd : FuncData, (∀ (s : Shared) (v : Value), BindsTo s fd ⟨[v], []⟩ [("_law_script", v)]) ∧ ∀ base : Heap, K.In base → base.Ns mainGlobals mg → FnOk P w K mg base CX0 15 f fd ["_law_script"] (spLaw K) := by
  have n0 : mg "len" = none := He.free_ok X G (c.fact 15 (f := .free "len") rfl)
  have n1 : mg "abs" = none := He.free_ok X G (c.fact 16 (f := .free "abs") rfl)
  have n2 : mg "int" = none := He.free_ok X G (c.fact 17 (f := .free "int") rfl)
  have n3 : mg "max" = none := He.free_ok X G (c.fact 18 (f := .free "max") rfl)
  have n4 : mg "list" = none := He.free_ok X G (c.fact 19 (f := .free "list") rfl)
  have n5 : mg "tuple" = none := He.free_ok X G (c.fact 20 (f := .free "tuple") rfl)
  have n6 : mg "sum" = none := He.free_ok X G (c.fact 21 (f := .free "sum") rfl)
  have n7 : mg "all" = none := He.free_ok X G (c.fact 22 (f := .free "all") rfl)
  have n8 : mg "any" = none := He.free_ok X G (c.fact 23 (f := .free "any") rfl)
  have n9 : mg "sorted" = none := He.free_ok X G (c.fact 24 (f := .free "sorted") rfl)
  have n10 : mg "isinstance" = none := He.free_ok X G (c.fact 25 (f := .free "isinstance") rfl)
  have n11 : mg "bool" = none := He.free_ok X G (c.fact 26 (f := .free "bool") rfl)
  have n12 : mg "str" = none := He.free_ok X G (c.fact 27 (f := .free "str") rfl)
  have n13 : mg "range" = none := He.free_ok X G (c.fact 28 (f := .free "range") rfl)
  have n14 : mg "zip" = none := He.free_ok X G (c.fact 29 (f := .free "zip") rfl)
  have n15 : mg "enumerate" = none := He.free_ok X G (c.fact 30 (f := .free "enumerate") rfl)
  have blt : ∀ x ∈ bnames, mg x = none := by
    intro x hx
    unfold bnames at hx
    simp only [List.mem_cons, List.not_mem_nil, or_false] at hx
    rcases hx with rfl | rfl | rfl | rfl | rfl | rfl | rfl | rfl | rfl | rfl | rfl | rfl | rfl | rfl | rfl | rfl
    all_goals assumption
  obtain ⟨fd1, F1⟩ := c.def_ 0 (d := d1) rfl
  obtain ⟨fd2, F2⟩ := c.def_ 1 (d := d2) rfl
  obtain ⟨fd3, F3⟩ := c.def_ 2 (d := d3) rfl
  obtain ⟨fd4, F4⟩ := c.def_ 3 (d := d4) rfl
  obtain ⟨fd5, F5⟩ := c.def_ 4 (d := d5) rfl
  obtain ⟨fd6, F6⟩ := c.def_ 5 (d := d6) rfl
  obtain ⟨fd7, F7⟩ := c.def_ 6 (d := d7) rfl
  obtain ⟨fd9, F9⟩ := c.def_ 7 (d := d9) rfl
  obtain ⟨fd10, F10⟩ := c.def_ 8 (d := d10) rfl
  obtain ⟨fd11, F11⟩ := c.def_ 9 (d := d11) rfl
  obtain ⟨fd12, F12⟩ := c.def_ 10 (d := d12) rfl
  obtain ⟨fd13, F13⟩ := c.def_ 11 (d := d13) rfl
  obtain ⟨fd14, F14⟩ := c.def_ 12 (d := d14) rfl
  obtain ⟨fd15, F15⟩ := c.def_ 13 (d := d15) rfl
  obtain ⟨fd16, F16⟩ := c.def_ 14 (d := d16) rfl
  have e := hfa.symm.trans (He.glo_ok X G (c.fact 14 (f := .glo "law") rfl))
  cases e
  have b := FunD.bindsA (ps := ["_law_script"]) F16 fun _ _ _ _ _ _ us hl => match us, hl with | [_], _ => rfl
  refine ⟨fd16, fun s v => b s [v] rfl, fun base _ _ => ?_⟩
  have V0 : AllV P w K mg base 0 [] := .nil
  have g1 := He.glo_ok X G (c.fact 0 (f := .glo "divisor") rfl)
  have b1 := FunD.bindsN (ps := ["one", "other"]) F1 fun _ _ _ _ _ _ us hl => match us, hl with | [_, _], _ => rfl
  have V1 := V0.step F1 sc1 tr1 blt (sg := sg_divisor) rfl (by decide) (keep_divisor _) g1 b1
  have g2 := He.glo_ok X G (c.fact 1 (f := .glo "lowest") rfl)
  have b2 := FunD.bindsN (ps := ["top", "bottom"]) F2 fun _ _ _ _ _ _ us hl => match us, hl with | [_, _], _ => rfl
  have V2 := V1.step F2 sc2 tr2 blt (sg := sg_lowest) rfl (by decide) (keep_lowest _ rfl) g2 b2
  have g3 := He.glo_ok X G (c.fact 2 (f := .glo "plus") rfl)
  have b3 := FunD.bindsN (ps := ["kind", "one", "other"]) F3 fun _ _ _ _ _ _ us hl => match us, hl with | [_, _, _], _ => rfl
  have V3 := V2.step F3 sc3 tr3 blt (sg := sg_plus) rfl (by decide) (keep_plus _ rfl) g3 b3
  have g4 := He.glo_ok X G (c.fact 3 (f := .glo "minus") rfl)
  have b4 := FunD.bindsN (ps := ["kind", "one", "other"]) F4 fun _ _ _ _ _ _ us hl => match us, hl with | [_, _, _], _ => rfl
  have V4 := V3.step F4 sc4 tr4 blt (sg := sg_minus) rfl (by decide) (keep_minus _ rfl) g4 b4
  have g5 := He.glo_ok X G (c.fact 4 (f := .glo "times") rfl)
  have b5 := FunD.bindsN (ps := ["kind", "one", "other"]) F5 fun _ _ _ _ _ _ us hl => match us, hl with | [_, _, _], _ => rfl
  have V5 := V4.step F5 sc5 tr5 blt (sg := sg_times) rfl (by decide) (keep_times _ rfl) g5 b5
  have g6 := He.glo_ok X G (c.fact 5 (f := .glo "back_of") rfl)
  have b6 := FunD.bindsN (ps := ["prime", "rest"]) F6 fun _ _ _ _ _ _ us hl => match us, hl with | [_, _], _ => rfl
  have V6 := V5.step F6 sc6 tr6 blt (sg := sg_back_of) rfl (by decide) (keep_back_of _) g6 b6
  have g7 := He.glo_ok X G (c.fact 6 (f := .glo "over") rfl)
  have b7 := FunD.bindsN (ps := ["kind", "one", "other"]) F7 fun _ _ _ _ _ _ us hl => match us, hl with | [_, _, _], _ => rfl
  have V7 := V6.step F7 sc7 tr7 blt (sg := sg_over) rfl (by decide) (keep_over _ rfl rfl) g7 b7
  have g9 := He.glo_ok X G (c.fact 7 (f := .glo "_law_whole") rfl)
  have b9 := FunD.bindsN (ps := ["_law_found"]) F9 fun _ _ _ _ _ _ us hl => match us, hl with | [_], _ => rfl
  have V9 := V7.step F9 sc9 tr9 blt (sg := sg_law_whole) rfl (by decide) (keep_law_whole _) g9 b9
  have g10 := He.glo_ok X G (c.fact 8 (f := .glo "_law_divisor") rfl)
  have b10 := FunD.bindsN (ps := ["_law_one", "_law_other"]) F10 fun _ _ _ _ _ _ us hl => match us, hl with | [_, _], _ => rfl
  have V10 := V9.step F10 sc10 tr10 blt (sg := sg_law_divisor) rfl (by decide) (keep_law_divisor _) g10 b10
  have g11 := He.glo_ok X G (c.fact 9 (f := .glo "_law_is_prime") rfl)
  have b11 := FunD.bindsN (ps := ["_law_whole_here"]) F11 fun _ _ _ _ _ _ us hl => match us, hl with | [_], _ => rfl
  have V11 := V10.step F11 sc11 tr11 blt (sg := sg_law_is_prime) rfl (by decide) (keep_law_is_prime _) g11 b11
  have g12 := He.glo_ok X G (c.fact 10 (f := .glo "_law_kind") rfl)
  have b12 := FunD.bindsN (ps := ["_law_cell"]) F12 fun _ _ _ _ _ _ us hl => match us, hl with | [_], _ => rfl
  have V12 := V11.step F12 sc12 tr12 blt (sg := sg_law_kind) rfl (by decide) (keep_law_kind _ rfl) g12 b12
  have g13 := He.glo_ok X G (c.fact 11 (f := .glo "_law_drawn") rfl)
  have b13 := FunD.bindsN (ps := ["_law_kind_here", "_law_cell"]) F13 fun _ _ _ _ _ _ us hl => match us, hl with | [_, _], _ => rfl
  have V13 := V12.step F13 sc13 tr13 blt (sg := sg_law_drawn) rfl (by decide) (keep_law_drawn _ rfl) g13 b13
  have g14 := He.glo_ok X G (c.fact 12 (f := .glo "_law_is") rfl)
  have b14 := FunD.bindsN (ps := ["_law_kind_here", "_law_found", "_law_top", "_law_bottom"]) F14 fun _ _ _ _ _ _ us hl => match us, hl with | [_, _, _, _], _ => rfl
  have V14 := V13.step F14 sc14 tr14 blt (sg := sg_law_is) rfl (by decide) (keep_law_is _ rfl rfl) g14 b14
  have g15 := He.glo_ok X G (c.fact 13 (f := .glo "_law_two") rfl)
  have b15 := FunD.bindsN (ps := ["_law_kind_here", "_law_one", "_law_other"]) F15 fun _ _ _ _ _ _ us hl => match us, hl with | [_, _, _], _ => rfl
  have V15 := V14.step F15 sc15 tr15 blt (sg := sg_law_two) rfl (by decide) (keep_law_two _ rfl rfl rfl rfl rfl) g15 b15
  exact law_v F16 sc16 tr16 V15.tab blt (law_k02 _ rfl rfl rfl)
end VI.K02
open PySem PySem.W PySem.Calls PyProof.Rows
theorem PySem.Challenge.cw_steermill_k02_sums_and_products_holds : PySem.Challenge.rw_steermill_k02_sums_and_products.Holds := by
  w_on; o_law
  refine HandSHeadRun.head_any (r := OpenLaw.row PySem.Challenge.rw_steermill_k02_sums_and_products) (q := view (OpenLaw.row PySem.Challenge.rw_steermill_k02_sums_and_products).prog [16]) (H := VI.K02.hk) (ob := VI.K02.ob) (M := 1300) (loose := ["divisor", "lowest", "plus", "minus", "times", "back_of", "over", "_law_whole", "_law_divisor", "_law_is_prime", "_law_kind", "_law_drawn", "_law_is", "_law_two"]) (d := HandSHeadRun.topDef (OpenLaw.row PySem.Challenge.rw_steermill_k02_sums_and_products).prog 16) (kwd := []) VI.K02.ob_eq
    (by kernel_rfl) (fun s => by kernel_rfl) VI.K02.run (by kernel_rfl) (by kernel_rfl) (by kernel_rfl) (by rfl) (by first | assumption | decide +kernel) (by decide +kernel) ⟨rfl, rfl, rfl, rfl, rfl, by decide +kernel⟩ ?hw ?hc
  case hw => w_witness2
  case hc =>
    refine L2.walk_ofE (l := PySem.Challenge.rw_steermill_k02_sums_and_products) (n := 63) (k := 15) (x := "_law_script") (CX := L2.CX0) rfl (by decide) (by kernel_rfl) ⟨rfl, by decide, by decide⟩ ?F (fun _ _ _ _ z => z)
    intro w mg fa h Y G hmg0
    obtain ⟨K, KX, c⟩ := Y
    have hmg : mg ("law" : PySem.Str) = some (.ref fa) := by
      have e : (HandSHeadRun.topDef (OpenLaw.row PySem.Challenge.rw_steermill_k02_sums_and_products).prog 16).name = ("law" : PySem.Str) := by kernel_rfl
      rw [← e]
      exact hmg0
    obtain ⟨fd, hb, hF⟩ := VI.K02.facts (P := (PySem.Challenge.rw_steermill_k02_sums_and_products).prog) (w := w) KX G hmg c
    exact ⟨K, fd, VI.spLaw K, KX, hb, fun H a ns hl _ hS => ⟨a, ns, rfl, hS, hl, fun _ => rfl⟩, hF⟩
