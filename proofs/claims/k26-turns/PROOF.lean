import PyProof.Rows.All
import Wide.All
import OpenK.AllK
import Wide.FinOn
import HandS.ForMost
import HandS.Deep
import HandS.Wide
import HandS.Flow
import HandS.Style
import HandS.IsInst
import HandS.SortInts
import HandS.RaiseMore
import PyProof.ReprRoads
import HandS.More
import KE.KStateDown
import HandS.Words
import HandS.WordsExc
import HandS.Defaults
import HandS.Head0
import HandS.Head1
import HandS.Head2
import HandS.HeadEnd
import HandS.EndBits
import HandS.HeadHook1
import HandS.HeadHook2
import PySem.Challenge.RW_drawnbywheels_k26_turns
set_option Elab.async false
set_option linter.all false
set_option maxRecDepth 100000
/-! PF: a small language of pure data, with a calculus of wishes; lists that a slot owns may be changed. -/
namespace PF
open PySem

/-- what an expression gives: data; a new list; the list that slot j owns -/
inductive AV where
  | d (x : PyData) | o (ds : List PyData) | b (j : Nat)
abbrev AEnv := List (Option AV)

/-- what a def promises -/
structure ASp where
  run : List AV → (AV → List AV → Prop) → (Str → Prop) → Prop
  mono : ∀ vs Q Q' X X', (∀ r as, Q r as → Q' r as) → (∀ c, X c → X' c) → run vs Q X → run vs Q' X'

inductive BOp where
  | add | sub | mul | fdiv | mod | pow | shl | band
  deriving DecidableEq
inductive COp where
  | eq | ne | lt | le | gt | ge | isin | notin | is | isnot
  deriving DecidableEq
inductive BI where
  | len | abs | max2 | min2 | int | sum | any | all | min1 | max1 | list | tuple | sorted | repr | bool
  deriving DecidableEq
inductive Ty where
  | int | bool | str | list | tuple
  deriving DecidableEq
inductive Tg where
  | nm (i : Nat) | tp (is : List Nat)
  deriving DecidableEq

mutual
inductive E where
  | var (i : Nat) | int (i : Int) | bool (b : Bool) | none | str (s : Str)
  | glob (x : Str) (v : PyData)
  | bin (op : BOp) (a b : E) | neg (a : E) | rep (a n : E)
  | not (a : E) | and (a b : E) | or (a b : E)
  | cmp (op : COp) (a b : E) | chain (o1 o2 : COp) (a b c : E)
  | ife (c a b : E)
  | tup (es : Es) | lst (es : Es)
  | ix (a i : E)
  | slL (a lo : E) | slU (a hi : E) | slLU (a lo hi : E) | slRev (a : E)
  | call (x : Str) (sp : ASp) (es : Es)
  | callK (x : Str) (sp : ASp) (ps ks : List Str) (es : Es)
  | callO (x : Str) (sp : ASp) (e : E)
  | bi (f : BI) (es : Es)
  | inst (a : E) (ts : List Ty)
  | comp (elt : E) (cond : Option Unit) (c : E) (tg : Tg) (it : It) (own : List (Str × Nat))
inductive Es where
  | nil | cons (e : E) (es : Es)
inductive It where
  | seq (e : E) | range1 (a : E) | range2 (a b : E) | enum (e : E) | zip (a b : E)
end
mutual
inductive S where
  | asg (i : Nat) (e : E)
  | asgF (i : Nat) (e : E)
  | par (is : List Nat) (es : Es)
  | unp (is : List Nat) (e : E)
  | setIx (j : Nat) (i e : E)
  | aug (i : Nat) (op : BOp) (e : E)
  | append (j : Nat) (e : E)
  | insert (j : Nat) (i e : E)
  | expr (e : E)
  | ret (e : E) | retN
  | ite (c : E) (a b : Ss)
  | forS (tg : Tg) (it : It) (body : Ss)
  | whl (c : E) (body : Ss)
  | pass | brk | cont | raise (x : Str)
  | frz (j : Nat)
inductive Ss where
  | nil | cons (s : S) (ss : Ss)
end

/-! ### slots -/
def getE : AEnv → Nat → Option AV
  | [], _ => Option.none
  | x :: _, 0 => x
  | _ :: l, n + 1 => getE l n
def setE : AEnv → Nat → Option AV → AEnv
  | [], _, _ => []
  | _ :: l, 0, v => v :: l
  | x :: l, n + 1, v => x :: setE l n v
def wipeE (env : AEnv) : List (Str × Nat) → AEnv
  | [] => env
  | p :: r => setE (wipeE env r) p.2 Option.none
def backE (old env : AEnv) : List (Str × Nat) → AEnv
  | [] => env
  | p :: r => setE (backE old env r) p.2 (getE old p.2)
/-- what is read -/
def rdK (env : AEnv) (v : AV) (k : PyData → Prop) : Prop :=
  match v with
  | .d x => k x
  | .o ds => k (.list ds)
  | .b j => match getE env j with
    | some (.o ds) => k (.list ds)
    | _ => False
/-- what is kept: data, or a new list that is not changed any more -/
def dataK (v : AV) (k : PyData → Prop) : Prop :=
  match v with
  | .d x => k x
  | .o ds => k (.list ds)
  | .b _ => False
def datasK : List AV → (List PyData → Prop) → Prop
  | [], k => k []
  | v :: vs, k => dataK v fun x => datasK vs fun xs => k (x :: xs)
def truth : PyData → Option Bool
  | .none => some false
  | .bool b => some b
  | .int i => some (i != 0)
  | .list xs => some (!xs.isEmpty)
  | .tuple xs => some (!xs.isEmpty)
  | _ => Option.none
def truthK (env : AEnv) (v : AV) (k : Bool → Prop) : Prop :=
  rdK env v fun x => match truth x with
    | some b => k b
    | Option.none => False

/-! ### operators -/
def mulOk (i j : Int) : Prop := i.natAbs.log2 + j.natAbs.log2 < 1000000
def divOk (j : Int) : Prop := j ≠ 0 ∧ j.natAbs.log2 < 9000
def powOk (i n : Int) : Prop := 0 ≤ n ∧ (Builtin.Int.intBits i : Int) * n ≤ 2 ^ 27
def binK (op : BOp) (x y : PyData) (k : AV → Prop) : Prop :=
  match op, x, y with
  | .add, .int i, .int j => k (.d (.int (i + j)))
  | .sub, .int i, .int j => k (.d (.int (i - j)))
  | .mul, .int i, .int j => mulOk i j ∧ k (.d (.int (i * j)))
  | .fdiv, .int i, .int j => divOk j ∧ k (.d (.int (i.fdiv j)))
  | .mod, .int i, .int j => j ≠ 0 ∧ k (.d (.int (i.fmod j)))
  | .pow, .int i, .int n => powOk i n ∧ k (.d (.int (i ^ n.toNat)))
  | .add, .list a, .list b => a.length + b.length ≤ sizeLine ∧ k (.o (a ++ b))
  | _, _, _ => False
def cmpK (op : COp) (x y : PyData) (k : Bool → Prop) : Prop :=
  match op with
  | .eq => SeqAt.shaped x = true ∧ SeqAt.shaped y = true ∧ k (PyData.eqv x y)
  | .ne => SeqAt.shaped x = true ∧ SeqAt.shaped y = true ∧ k (!PyData.eqv x y)
  | .lt => match x, y with | .int i, .int j => k (decide (i < j)) | _, _ => False
  | .le => match x, y with | .int i, .int j => k (decide (i ≤ j)) | _, _ => False
  | .gt => match x, y with | .int i, .int j => k (decide (j < i)) | _, _ => False
  | .ge => match x, y with | .int i, .int j => k (decide (j ≤ i)) | _, _ => False
  | .isin => match y with
    | .list ys => SeqAt.shaped x = true ∧ SeqAt.shaped (.list ys) = true ∧ k (ys.any fun z => PyData.eqv z x)
    | _ => False
  | .notin => match y with
    | .list ys => SeqAt.shaped x = true ∧ SeqAt.shaped (.list ys) = true ∧ k (!ys.any fun z => PyData.eqv z x)
    | _ => False
  | .is => match x, y with
    | .none, .none => k true
    | _, .none => k false
    | .bool a, .bool b => k (decide (a = b))
    | _, _ => False
  | .isnot => match x, y with
    | .none, .none => k false
    | _, .none => k true
    | .bool a, .bool b => k (!decide (a = b))
    | _, _ => False
def ixK (x y : PyData) (k : PyData → Prop) : Prop :=
  match x, y with
  | .list xs, .int i => match L2.atI xs i with | some z => k z | Option.none => False
  | .tuple xs, .int i => match L2.atI xs i with | some z => k z | Option.none => False
  | _, _ => False
def cutD (xs : List PyData) (lo hi : Option Int) : List PyData := (xs.drop (HT.sIx xs.length 0 lo)).take (HT.sIx xs.length xs.length hi - HT.sIx xs.length 0 lo)
def slK (x : PyData) (lo hi : Option Int) (k : AV → Prop) : Prop :=
  match x with
  | .list xs => k (.o (cutD xs lo hi))
  | _ => False
def tyOf : PyData → List Ty
  | .bool _ => [.bool, .int]
  | .int _ => [.int]
  | .str _ => [.str]
  | .list _ => [.list]
  | .tuple _ => [.tuple]
  | _ => []
def isTy (x : PyData) (ts : List Ty) : Bool := ts.any fun t => (tyOf x).contains t
def boolsOf : List PyData → Option (List Bool)
  | [] => some []
  | .bool b :: r => (boolsOf r).map (b :: ·)
  | _ :: _ => Option.none
def intsOf : List PyData → Option (List Int)
  | [] => some []
  | .int i :: r => (intsOf r).map (i :: ·)
  | _ :: _ => Option.none
def biK (f : BI) (xs : List PyData) (k : AV → Prop) : Prop :=
  match f, xs with
  | .len, [.list a] => k (.d (.int a.length))
  | .len, [.tuple a] => k (.d (.int a.length))
  | .abs, [.int i] => k (.d (.int (if i < 0 then -i else i)))
  | .max2, [.int i, .int j] => k (.d (.int (if j > i then j else i)))
  | .min2, [.int i, .int j] => k (.d (.int (if j < i then j else i)))
  | .int, [.int i] => k (.d (.int i))
  | .int, [.bool b] => k (.d (.int (if b then 1 else 0)))
  | .list, [.list a] => k (.o a)
  | .list, [.tuple a] => k (.o a)
  | .tuple, [.list a] => k (.d (.tuple a))
  | .tuple, [.tuple a] => k (.d (.tuple a))
  | .sum, [.list a] => match intsOf a with | some ns => k (.d (.int ns.sum)) | Option.none => False
  | .any, [.list a] => match boolsOf a with | some bs => k (.d (.bool (bs.any id))) | Option.none => False
  | .all, [.list a] => match boolsOf a with | some bs => k (.d (.bool (bs.all id))) | Option.none => False
  | .min1, [.list a] => match intsOf a with | some ns => 0 < ns.length ∧ ∀ m, m ∈ ns → (∀ y, y ∈ ns → m ≤ y) → k (.d (.int m)) | Option.none => False
  | .max1, [.list a] => match intsOf a with | some ns => 0 < ns.length ∧ ∀ m, m ∈ ns → (∀ y, y ∈ ns → y ≤ m) → k (.d (.int m)) | Option.none => False
  | .sorted, [.list a] => match intsOf a with | some ns => ∀ ns' : List Int, ns'.Perm ns → ns'.Pairwise (· ≤ ·) → k (.o (ns'.map .int)) | Option.none => False
  | .repr, [x] => (x.showable = true ∧ x.hasDict = false ∧ x.shown.length ≤ sizeLine ∧ x.depth ≤ 64) ∧ k (.d (.str x.shown))
  | _, _ => False

/-! ### targets and walks -/
def setMany : List Nat → List PyData → AEnv → AEnv
  | i :: is, x :: xs, env => setMany is xs (setE env i (some (.d x)))
  | _, _, env => env
def tgK (tg : Tg) (x : PyData) (env : AEnv) (k : AEnv → Prop) : Prop :=
  match tg with
  | .nm i => k (setE env i (some (.d x)))
  | .tp is => match x with
    | .tuple xs => xs.length = is.length ∧ k (setMany is xs env)
    | _ => False
def rangeL (lo hi : Int) : List PyData := (List.range (hi - lo).toNat).map fun (i : Nat) => .int (lo + (i : Int))
def rangeK (lo hi : Int) (k : List PyData → Prop) : Prop := (-1000000000 ≤ lo ∧ lo ≤ 1000000000 ∧ -1000000000 ≤ hi ∧ hi ≤ 1000000000 ∧ (hi - lo).toNat < sizeLine) ∧ k (rangeL lo hi)
def enumL (i : Nat) : List PyData → List PyData
  | [] => []
  | x :: xs => .tuple [.int i, x] :: enumL (i + 1) xs
def zipL : List PyData → List PyData → List PyData
  | x :: xs, y :: ys => .tuple [x, y] :: zipL xs ys
  | _, _ => []
/-- the items of what is walked -/
def seqK (v : AV) (k : List PyData → Prop) : Prop :=
  match v with
  | .d (.list xs) => k xs
  | .d (.tuple xs) => k xs
  | .o xs => k xs
  | _ => False
def lstK (v : AV) (k : List PyData → Prop) : Prop :=
  match v with
  | .d (.list xs) => k xs
  | .o xs => k xs
  | _ => False

/-! ### the ends of a statement -/
structure AEnds where
  nx : AEnv → Prop
  rt : AV → AEnv → Prop
  bk : AEnv → Prop := fun _ => False
  ct : AEnv → Prop := fun _ => False
abbrev XQ := Str → AEnv → Prop

/-- none of these slots owns a list -/
def noOwn (env : AEnv) : List (Str × Nat) → Prop
  | [] => True
  | p :: r => (match getE env p.2 with | some (.o _) => False | _ => True) ∧ noOwn env r
def compW (cond : Option Unit) (ec ee : AEnv → (AV → AEnv → Prop) → Prop) (tg : Tg) (own : List (Str × Nat)) : List PyData → AEnv → List PyData → (List PyData → AEnv → Prop) → Prop
  | [], env, acc, Q => Q acc env
  | x :: xs, env, acc, Q => tgK tg x (wipeE env own) fun env1 =>
    match cond with
    | Option.none => ee env1 fun v env3 => dataK v fun y => compW cond ec ee tg own xs env3 (acc ++ [y]) Q
    | some _ => ec env1 fun c env2 => truthK env2 c fun b =>
      if b = true then ee env2 fun v env3 => dataK v fun y => compW cond ec ee tg own xs env3 (acc ++ [y]) Q
      else compW cond ec ee tg own xs env2 acc Q
def forW (body : AEnv → AEnds → Prop) (tg : Tg) (D : AEnds) : List PyData → AEnv → Prop
  | [], env => D.nx env
  | x :: xs, env => tgK tg x env fun env1 => body env1 { D with nx := forW body tg D xs, ct := forW body tg D xs, bk := D.nx }
def whileW (c : AEnv → (AV → AEnv → Prop) → Prop) (body : AEnv → AEnds → Prop) (D : AEnds) (env : AEnv) : Prop :=
  ∃ W : Nat → AEnv → Prop, (∃ m, W m env) ∧ ∀ m env, W m env → c env fun v env1 => truthK env1 v fun b =>
    if b = true then ∃ N : AEnv → Prop, (∀ env', N env' → ∃ m', m' < m ∧ W m' env') ∧ body env1 { D with nx := N, ct := N, bk := D.nx } else D.nx env1

def rdsK (env : AEnv) : List AV → (List PyData → Prop) → Prop
  | [], k => k []
  | v :: vs, k => rdK env v fun x => rdsK env vs fun xs => k (x :: xs)
/-- arguments as a def gets them; at most one is lent -/
def lendK (env : AEnv) : List AV → (List AV → Prop) → Prop
  | [], k => k []
  | .d x :: r, k => lendK env r fun as => k (.d x :: as)
  | .o ds :: r, k => lendK env r fun as => k (.d (.list ds) :: as)
  | .b j :: r, k => match getE env j with
    | some (.o ds) => lendK env r fun as => k (.o ds :: as)
    | _ => False
def lent : List AV → List Nat
  | [] => []
  | .b j :: r => j :: lent r
  | _ :: r => lent r
def backL (env : AEnv) : List AV → List AV → AEnv
  | .b j :: r, .o ds :: as => backL (setE env j (some (.o ds))) r as
  | _ :: r, _ :: as => backL env r as
  | _, _ => env
def callK (sp : ASp) (vs : List AV) (env : AEnv) (Q : AV → AEnv → Prop) (X : XQ) : Prop :=
  (lent vs).length ≤ 1 ∧ lendK env vs fun as => sp.run as (fun r as' => Q r (backL env vs as')) (fun c => X c env)
/-- keywords put in the order of the parameters -/
def reorder (ps ks : List Str) (vs : List AV) : Option (List AV) := ps.mapM fun p => (ks.zip vs).lookup p

mutual
def wE : E → AEnv → (AV → AEnv → Prop) → XQ → Prop
  | .var i, env, Q, _ => match getE env i with
    | some (.d x) => Q (.d x) env
    | some (.o _) => Q (.b i) env
    | _ => False
  | .int i, env, Q, _ => Q (.d (.int i)) env
  | .bool b, env, Q, _ => Q (.d (.bool b)) env
  | .none, env, Q, _ => Q (.d .none) env
  | .str s, env, Q, _ => Q (.d (.str s)) env
  | .glob _ v, env, Q, _ => Q (.d v) env
  | .bin op a b, env, Q, X => wE a env (fun x env1 => wE b env1 (fun y env2 => rdK env2 x fun dx => rdK env2 y fun dy => binK op dx dy fun r => Q r env2) X) X
  | .neg a, env, Q, X => wE a env (fun x env1 => match x with | .d (.int i) => Q (.d (.int (-i))) env1 | _ => False) X
  | .rep a n, env, Q, X => wE a env (fun x env1 => wE n env1 (fun y env2 => match x, y with | .o ds, .d (.int n) => (-(2 ^ 63) ≤ n ∧ n < 2 ^ 63 ∧ ds.length * n.toNat ≤ sizeLine) ∧ Q (.o (List.replicate n.toNat ds).flatten) env2 | _, _ => False) X) X
  | .not a, env, Q, X => wE a env (fun x env1 => truthK env1 x fun b => Q (.d (.bool (!b))) env1) X
  | .and a b, env, Q, X => wE a env (fun x env1 => truthK env1 x fun t => if t = true then wE b env1 Q X else Q x env1) X
  | .or a b, env, Q, X => wE a env (fun x env1 => truthK env1 x fun t => if t = true then Q x env1 else wE b env1 Q X) X
  | .cmp op a b, env, Q, X => wE a env (fun x env1 => wE b env1 (fun y env2 => rdK env2 x fun dx => rdK env2 y fun dy => cmpK op dx dy fun r => Q (.d (.bool r)) env2) X) X
  | .chain o1 o2 a b c, env, Q, X => wE a env (fun x env1 => wE b env1 (fun y env2 => rdK env2 x fun dx => rdK env2 y fun dy => cmpK o1 dx dy fun r =>
      if r = true then wE c env2 (fun z env3 => rdK env3 y fun dy => rdK env3 z fun dz => cmpK o2 dy dz fun r2 => Q (.d (.bool r2)) env3) X else Q (.d (.bool false)) env2) X) X
  | .ife c a b, env, Q, X => wE c env (fun x env1 => truthK env1 x fun t => if t = true then wE a env1 Q X else wE b env1 Q X) X
  | .tup es, env, Q, X => wEs es env (fun vs env1 => datasK vs fun ds => Q (.d (.tuple ds)) env1) X
  | .lst es, env, Q, X => wEs es env (fun vs env1 => datasK vs fun ds => Q (.o ds) env1) X
  | .ix a i, env, Q, X => wE a env (fun x env1 => wE i env1 (fun y env2 => rdK env2 x fun dx => rdK env2 y fun dy => ixK dx dy fun z => Q (.d z) env2) X) X
  | .slL a lo, env, Q, X => wE a env (fun x env1 => wE lo env1 (fun y env2 => match y with | .d (.int i) => rdK env2 x fun dx => slK dx (some i) Option.none fun r => Q r env2 | _ => False) X) X
  | .slU a hi, env, Q, X => wE a env (fun x env1 => wE hi env1 (fun y env2 => match y with | .d (.int i) => rdK env2 x fun dx => slK dx Option.none (some i) fun r => Q r env2 | _ => False) X) X
  | .slLU a lo hi, env, Q, X => wE a env (fun x env1 => wE lo env1 (fun y env2 => match y with | .d (.int i) => wE hi env2 (fun z env3 => match z with | .d (.int j) => rdK env3 x fun dx => slK dx (some i) (some j) fun r => Q r env3 | _ => False) X | _ => False) X) X
  | .slRev a, env, Q, X => wE a env (fun x env1 => rdK env1 x fun dx => match dx with | .list xs => Q (.o xs.reverse) env1 | _ => False) X
  | .call _ sp es, env, Q, X => wEs es env (fun vs env1 => callK sp vs env1 Q X) X
  | .callK _ sp ps ks es, env, Q, X => wEs es env (fun vs env1 => match reorder ps ks vs with | some us => callK sp us env1 Q X | Option.none => False) X
  | .callO _ sp a, env, Q, X => wE a env (fun v env1 => match v with | .o ds => sp.run [.o ds] (fun r _ => match r with | .d x => Q (.d x) env1 | _ => False) (fun c => X c env1) | _ => False) X
  | .bi f es, env, Q, X => wEs es env (fun vs env1 => rdsK env1 vs fun ds => biK f ds fun r => Q r env1) X
  | .inst a ts, env, Q, X => wE a env (fun x env1 => rdK env1 x fun dx => Q (.d (.bool (isTy dx ts))) env1) X
  | .comp elt cond c tg it own, env, Q, X => wIt it env (fun items env1 => noOwn env1 own ∧ compW cond (fun e q => wE c e q X) (fun e q => wE elt e q X) tg own items env1 [] fun ds env2 => Q (.o ds) (backE env1 env2 own)) X
def wEs : Es → AEnv → (List AV → AEnv → Prop) → XQ → Prop
  | .nil, env, Q, _ => Q [] env
  | .cons e es, env, Q, X => wE e env (fun v env1 => wEs es env1 (fun vs env2 => Q (v :: vs) env2) X) X
def wIt : It → AEnv → (List PyData → AEnv → Prop) → XQ → Prop
  | .seq e, env, Q, X => wE e env (fun v env1 => seqK v fun xs => Q xs env1) X
  | .range1 a, env, Q, X => wE a env (fun v env1 => match v with | .d (.int n) => rangeK 0 n fun xs => Q xs env1 | _ => False) X
  | .range2 a b, env, Q, X => wE a env (fun v env1 => wE b env1 (fun u env2 => match v, u with | .d (.int m), .d (.int n) => rangeK m n fun xs => Q xs env2 | _, _ => False) X) X
  | .enum e, env, Q, X => wE e env (fun v env1 => lstK v fun xs => Q (enumL 0 xs) env1) X
  | .zip a b, env, Q, X => wE a env (fun v env1 => wE b env1 (fun u env2 => lstK v fun xs => lstK u fun ys => Q (zipL xs ys) env2) X) X
end

mutual
def wS (X : XQ) : S → AEnv → AEnds → Prop
  | .asg i e, env, D => wE e env (fun v env1 => match v with | .b _ => False | v => D.nx (setE env1 i (some v))) X
  | .asgF i e, env, D => wE e env (fun v env1 => dataK v fun x => D.nx (setE env1 i (some (.d x)))) X
  | .par is es, env, D => wEs es env (fun vs env1 => datasK vs fun xs => xs.length = is.length ∧ D.nx (setMany is xs env1)) X
  | .unp is e, env, D => wE e env (fun v env1 => match v with | .d x => tgK (.tp is) x env1 D.nx | _ => False) X
  | .setIx j i e, env, D => wE e env (fun v env1 => dataK v fun x => match getE env1 j with
      | some (.o _) => wE i env1 (fun w env2 => match w, getE env2 j with
        | .d (.int n), some (.o ds) => (0 ≤ n ∧ n < ds.length) ∧ D.nx (setE env2 j (some (.o (ds.set n.toNat x))))
        | _, _ => False) X
      | _ => False) X
  | .aug i op e, env, D => match getE env i with
      | some (.d x) => wE e env (fun v env1 => match v with | .d y => binK op x y (fun r => match r with | .d z => D.nx (setE env1 i (some (.d z))) | _ => False) | _ => False) X
      | _ => False
  | .append j e, env, D => match getE env j with
      | some (.o _) => wE e env (fun v env1 => dataK v fun x => match getE env1 j with
        | some (.o ds) => ds.length < sizeLine ∧ D.nx (setE env1 j (some (.o (ds ++ [x]))))
        | _ => False) X
      | _ => False
  | .insert j i e, env, D => match getE env j with
      | some (.o _) => wE i env (fun w env1 => wE e env1 (fun v env2 => dataK v fun x => match w, getE env2 j with
        | .d (.int n), some (.o ds) => (0 ≤ n ∧ n < 2 ^ 63 ∧ ds.length < sizeLine) ∧ D.nx (setE env2 j (some (.o (ds.take n.toNat ++ x :: ds.drop n.toNat))))
        | _, _ => False) X) X
      | _ => False
  | .expr e, env, D => wE e env (fun _ env1 => D.nx env1) X
  | .ret e, env, D => wE e env (fun v env1 => D.rt v env1) X
  | .retN, env, D => D.rt (.d .none) env
  | .ite c a b, env, D => wE c env (fun v env1 => truthK env1 v fun t => if t = true then wSs X a env1 D else wSs X b env1 D) X
  | .forS tg it body, env, D => wIt it env (fun items env1 => forW (fun e D' => wSs X body e D') tg D items env1) X
  | .whl c body, env, D => whileW (fun e q => wE c e q X) (fun e D' => wSs X body e D') D env
  | .pass, env, D => D.nx env
  | .brk, env, D => D.bk env
  | .cont, env, D => D.ct env
  | .raise x, env, _ => X x env
  | .frz j, env, D => match getE env j with
      | some (.o ds) => D.nx (setE env j (some (.d (.list ds))))
      | _ => False
def wSs (X : XQ) : Ss → AEnv → AEnds → Prop
  | .nil, env, D => D.nx env
  | .cons s ss, env, D => wS X s env { D with nx := fun env1 => wSs X ss env1 D }
end
end PF

set_option maxRecDepth 100000
set_option maxHeartbeats 4000000
namespace PF
open PySem
theorem rdK_mono {env : AEnv} {v : AV} {k k' : PyData → Prop} (h : ∀ x, k x → k' x) (q : rdK env v k) : rdK env v k' := by
  unfold rdK at q ⊢
  split at q
  · exact h _ q
  · exact h _ q
  · split at q
    · exact h _ q
    · exact q
def rdV (env : AEnv) : AV → Option PyData
  | .d x => some x
  | .o ds => some (.list ds)
  | .b j => match getE env j with
    | some (.o ds) => some (.list ds)
    | _ => Option.none
theorem rdK_iff {env : AEnv} {v : AV} {k : PyData → Prop} : rdK env v k ↔ ∃ x, rdV env v = some x ∧ k x := by
  cases v with
  | d x => exact ⟨fun h => ⟨x, rfl, h⟩, fun ⟨y, e, h⟩ => by cases e; exact h⟩
  | o x => exact ⟨fun h => ⟨_, rfl, h⟩, fun ⟨y, e, h⟩ => by cases e; exact h⟩
  | b j =>
    unfold rdK rdV
    simp only
    generalize getE env j = g
    match g with
    | some (.o ds) => exact ⟨fun h => ⟨_, rfl, h⟩, fun ⟨y, e, h⟩ => by cases e; exact h⟩
    | some (.d x) => exact ⟨fun h => h.elim, fun ⟨y, e, h⟩ => by cases e⟩
    | some (.b x) => exact ⟨fun h => h.elim, fun ⟨y, e, h⟩ => by cases e⟩
    | Option.none => exact ⟨fun h => h.elim, fun ⟨y, e, h⟩ => by cases e⟩
theorem truthK_iff {env : AEnv} {v : AV} {k : Bool → Prop} : truthK env v k ↔ ∃ b, (rdV env v).bind truth = some b ∧ k b := by
  unfold truthK
  rw [rdK_iff]
  constructor
  · rintro ⟨x, e, h⟩
    cases ht : truth x with
    | none => rw [ht] at h; exact h.elim
    | some b => rw [ht] at h; exact ⟨b, by rw [e]; exact ht, h⟩
  · rintro ⟨b, e, h⟩
    cases hr : rdV env v with
    | none => rw [hr] at e; cases e
    | some x =>
      rw [hr] at e
      have e : truth x = some b := e
      exact ⟨x, rfl, by rw [e]; exact h⟩
theorem dataK_mono {v : AV} {k k' : PyData → Prop} (h : ∀ x, k x → k' x) (q : dataK v k) : dataK v k' := by
  unfold dataK at q ⊢
  split at q
  · exact h _ q
  · exact h _ q
  · exact q
theorem datasK_mono : ∀ {vs : List AV} {k k' : List PyData → Prop}, (∀ x, k x → k' x) → datasK vs k → datasK vs k'
  | [], _, _, h, q => h _ q
  | v :: vs, _, _, h, q => dataK_mono (fun x q => datasK_mono (fun xs q => h _ q) q) q
theorem rdsK_mono {env : AEnv} : ∀ {vs : List AV} {k k' : List PyData → Prop}, (∀ x, k x → k' x) → rdsK env vs k → rdsK env vs k'
  | [], _, _, h, q => h _ q
  | v :: vs, _, _, h, q => rdK_mono (fun x q => rdsK_mono (fun xs q => h _ q) q) q
theorem truthK_mono {env : AEnv} {v : AV} {k k' : Bool → Prop} (h : ∀ x, k x → k' x) (q : truthK env v k) : truthK env v k' :=
  rdK_mono (fun x q => by
    split at q
    · exact h _ q
    · exact q) q
theorem binK_mono {op : BOp} {x y : PyData} {k k' : AV → Prop} (h : ∀ r, k r → k' r) (q : binK op x y k) : binK op x y k' := by
  unfold binK at q ⊢
  split at q <;> first | exact h _ q | exact ⟨q.1, h _ q.2⟩ | exact q
theorem cmpK_mono {op : COp} {x y : PyData} {k k' : Bool → Prop} (h : ∀ r, k r → k' r) (q : cmpK op x y k) : cmpK op x y k' := by
  unfold cmpK at q ⊢
  split at q <;> (try split at q) <;> first | exact h _ q | exact ⟨q.1, q.2.1, h _ q.2.2⟩ | exact q
theorem ixK_mono {x y : PyData} {k k' : PyData → Prop} (h : ∀ r, k r → k' r) (q : ixK x y k) : ixK x y k' := by
  unfold ixK at q ⊢
  split at q <;> (try split at q) <;> first | exact h _ q | exact q
theorem slK_mono {x : PyData} {lo hi : Option Int} {k k' : AV → Prop} (h : ∀ r, k r → k' r) (q : slK x lo hi k) : slK x lo hi k' := by
  unfold slK at q ⊢
  split at q <;> first | exact h _ q | exact q
theorem biK_mono {f : BI} {xs : List PyData} {k k' : AV → Prop} (h : ∀ r, k r → k' r) (q : biK f xs k) : biK f xs k' := by
  unfold biK at q ⊢
  split at q <;> first | exact h _ q | exact ⟨q.1, h _ q.2⟩ | (split at q <;> first | exact h _ q | exact ⟨q.1, fun m h1 h2 => h _ (q.2 m h1 h2)⟩ | exact fun m h1 h2 => h _ (q m h1 h2) | exact q) | exact q
theorem tgK_mono {tg : Tg} {x : PyData} {env : AEnv} {k k' : AEnv → Prop} (h : ∀ r, k r → k' r) (q : tgK tg x env k) : tgK tg x env k' := by
  unfold tgK at q ⊢
  split at q
  · exact h _ q
  · split at q
    · exact ⟨q.1, h _ q.2⟩
    · exact q
theorem seqK_mono {v : AV} {k k' : List PyData → Prop} (h : ∀ xs, k xs → k' xs) (q : seqK v k) : seqK v k' := by
  unfold seqK at q ⊢
  split at q <;> first | exact h _ q | exact q
theorem lstK_mono {v : AV} {k k' : List PyData → Prop} (h : ∀ xs, k xs → k' xs) (q : lstK v k) : lstK v k' := by
  unfold lstK at q ⊢
  split at q <;> first | exact h _ q | exact q
theorem lendK_mono {env : AEnv} : ∀ {vs : List AV} {k k' : List AV → Prop}, (∀ x, k x → k' x) → lendK env vs k → lendK env vs k'
  | [], _, _, h, q => h _ q
  | .d x :: r, _, _, h, q => lendK_mono (vs := r) (fun as q => h _ q) q
  | .o ds :: r, _, _, h, q => lendK_mono (vs := r) (fun as q => h _ q) q
  | .b j :: r, _, _, h, q => by
    unfold lendK at q ⊢
    split at q
    · exact lendK_mono (fun as q => h _ q) q
    · exact q
theorem callK_mono {sp : ASp} {vs : List AV} {env : AEnv} {Q Q' : AV → AEnv → Prop} {X : XQ} (h : ∀ r e, Q r e → Q' r e) (q : callK sp vs env Q X) : callK sp vs env Q' X :=
  ⟨q.1, lendK_mono (fun as q => sp.mono _ _ _ _ _ (fun r as z => h _ _ z) (fun _ z => z) q) q.2⟩
theorem compW_mono {cond : Option Unit} {ec ee : AEnv → (AV → AEnv → Prop) → Prop} {tg : Tg} {own : List (Str × Nat)} (hc : ∀ env Q Q', (∀ r e, Q r e → Q' r e) → ec env Q → ec env Q') (he : ∀ env Q Q', (∀ r e, Q r e → Q' r e) → ee env Q → ee env Q') :
    ∀ {items : List PyData} {env : AEnv} {acc : List PyData} {Q Q' : List PyData → AEnv → Prop}, (∀ r e, Q r e → Q' r e) → compW cond ec ee tg own items env acc Q → compW cond ec ee tg own items env acc Q'
  | [], _, _, _, _, h, q => h _ _ q
  | x :: xs, env, acc, Q, Q', h, q => by
    refine tgK_mono (fun env1 q => ?_) q
    cases cond with
    | none => exact he _ _ _ (fun v e3 q => dataK_mono (fun y q => compW_mono hc he h q) q) q
    | some u =>
      refine hc _ _ _ (fun c e2 q => truthK_mono (fun b q => ?_) q) q
      cases b with
      | true =>
        rw [if_pos rfl] at q ⊢
        exact he _ _ _ (fun v e3 q => dataK_mono (fun y q => compW_mono hc he h q) q) q
      | false =>
        rw [if_neg Bool.false_ne_true] at q ⊢
        exact compW_mono hc he h q
theorem ite_mono {b : Bool} {A A' B B' : Prop} (h1 : A → A') (h2 : B → B') (q : if b = true then A else B) : if b = true then A' else B' := by
  cases b with
  | true => rw [if_pos rfl] at q ⊢; exact h1 q
  | false => rw [if_neg Bool.false_ne_true] at q ⊢; exact h2 q
mutual
theorem wE_mono : ∀ (e : E) {env : AEnv} {Q Q' : AV → AEnv → Prop} {X : XQ}, (∀ r e, Q r e → Q' r e) → wE e env Q X → wE e env Q' X
  | .var i, env, Q, Q', X, h, q => by
    unfold wE at q ⊢
    split at q <;> first | exact h _ _ q | exact q
  | .int _, _, _, _, _, h, q => h _ _ q
  | .bool _, _, _, _, _, h, q => h _ _ q
  | .none, _, _, _, _, h, q => h _ _ q
  | .str _, _, _, _, _, h, q => h _ _ q
  | .glob _ _, _, _, _, _, h, q => h _ _ q
  | .bin op a b, _, _, _, _, h, q => wE_mono a (fun _ _ q => wE_mono b (fun _ _ q => rdK_mono (fun _ q => rdK_mono (fun _ q => binK_mono (fun _ q => h _ _ q) q) q) q) q) q
  | .neg a, _, _, _, _, h, q => wE_mono a (fun _ _ q => by
      split at q
      · exact h _ _ q
      · exact q) q
  | .rep a n, _, _, _, _, h, q => wE_mono a (fun _ _ q => wE_mono n (fun _ _ q => by
      split at q
      · exact ⟨q.1, h _ _ q.2⟩
      · exact q) q) q
  | .not a, _, _, _, _, h, q => wE_mono a (fun _ _ q => truthK_mono (fun _ q => h _ _ q) q) q
  | .and a b, _, _, _, _, h, q => wE_mono a (fun _ _ q => truthK_mono (fun _ q => ite_mono (fun q => wE_mono b h q) (fun q => h _ _ q) q) q) q
  | .or a b, _, _, _, _, h, q => wE_mono a (fun _ _ q => truthK_mono (fun _ q => ite_mono (fun q => h _ _ q) (fun q => wE_mono b h q) q) q) q
  | .cmp op a b, _, _, _, _, h, q => wE_mono a (fun _ _ q => wE_mono b (fun _ _ q => rdK_mono (fun _ q => rdK_mono (fun _ q => cmpK_mono (fun _ q => h _ _ q) q) q) q) q) q
  | .chain o1 o2 a b c, _, _, _, _, h, q => wE_mono a (fun _ _ q => wE_mono b (fun _ _ q => rdK_mono (fun _ q => rdK_mono (fun _ q => cmpK_mono (fun _ q => ite_mono (fun q => wE_mono c (fun _ _ q => rdK_mono (fun _ q => rdK_mono (fun _ q => cmpK_mono (fun _ q => h _ _ q) q) q) q) q) (fun q => h _ _ q) q) q) q) q) q) q
  | .ife c a b, _, _, _, _, h, q => wE_mono c (fun _ _ q => truthK_mono (fun _ q => ite_mono (fun q => wE_mono a h q) (fun q => wE_mono b h q) q) q) q
  | .tup es, _, _, _, _, h, q => wEs_mono es (fun _ _ q => datasK_mono (fun _ q => h _ _ q) q) q
  | .lst es, _, _, _, _, h, q => wEs_mono es (fun _ _ q => datasK_mono (fun _ q => h _ _ q) q) q
  | .ix a i, _, _, _, _, h, q => wE_mono a (fun _ _ q => wE_mono i (fun _ _ q => rdK_mono (fun _ q => rdK_mono (fun _ q => ixK_mono (fun _ q => h _ _ q) q) q) q) q) q
  | .slL a lo, _, _, _, _, h, q => wE_mono a (fun _ _ q => wE_mono lo (fun _ _ q => by
      split at q
      · exact rdK_mono (fun _ q => slK_mono (fun _ q => h _ _ q) q) q
      · exact q) q) q
  | .slU a hi, _, _, _, _, h, q => wE_mono a (fun _ _ q => wE_mono hi (fun _ _ q => by
      split at q
      · exact rdK_mono (fun _ q => slK_mono (fun _ q => h _ _ q) q) q
      · exact q) q) q
  | .slLU a lo hi, _, _, _, _, h, q => wE_mono a (fun _ _ q => wE_mono lo (fun _ _ q => by
      split at q
      · refine wE_mono hi (fun _ _ q => ?_) q
        split at q
        · exact rdK_mono (fun _ q => slK_mono (fun _ q => h _ _ q) q) q
        · exact q
      · exact q) q) q
  | .slRev a, _, _, _, _, h, q => wE_mono a (fun _ _ q => rdK_mono (fun _ q => by
      split at q
      · exact h _ _ q
      · exact q) q) q
  | .call _ sp es, _, _, _, _, h, q => wEs_mono es (fun _ _ q => callK_mono h q) q
  | .callK _ sp ps ks es, _, _, _, _, h, q => wEs_mono es (fun _ _ q => by
      split at q
      · exact callK_mono h q
      · exact q) q
  | .callO _ sp a, _, _, _, _, h, q => wE_mono a (fun v _ q => by
      split at q
      · exact sp.mono _ _ _ _ _ (fun r _ z => by
          split at z
          · exact h _ _ z
          · exact z) (fun _ z => z) q
      · exact q) q
  | .bi f es, _, _, _, _, h, q => wEs_mono es (fun _ _ q => rdsK_mono (fun _ q => biK_mono (fun _ q => h _ _ q) q) q) q
  | .inst a ts, _, _, _, _, h, q => wE_mono a (fun _ _ q => rdK_mono (fun _ q => h _ _ q) q) q
  | .comp elt cond c tg it own, env, Q, Q', X, h, q => by
    unfold wE at q ⊢
    refine wIt_mono it (fun items e1 q => ⟨q.1, ?_⟩) q
    refine compW_mono (ec := fun e q => wE c e q X) (ee := fun e q => wE elt e q X) (fun env Q Q' h q => wE_mono c h q) (fun env Q Q' h q => wE_mono elt h q) (fun r e q => h _ _ q) q.2
theorem wEs_mono : ∀ (es : Es) {env : AEnv} {Q Q' : List AV → AEnv → Prop} {X : XQ}, (∀ r e, Q r e → Q' r e) → wEs es env Q X → wEs es env Q' X
  | .nil, _, _, _, _, h, q => h _ _ q
  | .cons e es, _, _, _, _, h, q => wE_mono e (fun _ _ q => wEs_mono es (fun _ _ q => h _ _ q) q) q
theorem wIt_mono : ∀ (it : It) {env : AEnv} {Q Q' : List PyData → AEnv → Prop} {X : XQ}, (∀ r e, Q r e → Q' r e) → wIt it env Q X → wIt it env Q' X
  | .seq e, _, _, _, _, h, q => wE_mono e (fun _ _ q => seqK_mono (fun _ q => h _ _ q) q) q
  | .range1 a, _, _, _, _, h, q => wE_mono a (fun _ _ q => by
      split at q
      · exact ⟨q.1, h _ _ q.2⟩
      · exact q) q
  | .range2 a b, _, _, _, _, h, q => wE_mono a (fun _ _ q => wE_mono b (fun _ _ q => by
      split at q
      · exact ⟨q.1, h _ _ q.2⟩
      · exact q) q) q
  | .enum e, _, _, _, _, h, q => wE_mono e (fun _ _ q => lstK_mono (fun _ q => h _ _ q) q) q
  | .zip a b, _, _, _, _, h, q => wE_mono a (fun _ _ q => wE_mono b (fun _ _ q => lstK_mono (fun _ q => lstK_mono (fun _ q => h _ _ q) q) q) q) q
end
structure AEnds.Le (D D' : AEnds) : Prop where
  nx : ∀ e, D.nx e → D'.nx e
  rt : ∀ v e, D.rt v e → D'.rt v e
  bk : ∀ e, D.bk e → D'.bk e
  ct : ∀ e, D.ct e → D'.ct e
theorem forW_mono {body : AEnv → AEnds → Prop} {tg : Tg} (hb : ∀ env D D', D.Le D' → body env D → body env D') {D D' : AEnds} (h : D.Le D') : ∀ {items : List PyData} {env : AEnv}, forW body tg D items env → forW body tg D' items env
  | [], _, q => h.nx _ q
  | x :: xs, env, q => by
    unfold forW at q ⊢
    refine tgK_mono (fun env1 q => ?_) q
    refine hb env1 { D with nx := forW body tg D xs, ct := forW body tg D xs, bk := D.nx } _ ⟨fun _ q => forW_mono hb h q, h.rt, h.nx, fun _ q => forW_mono hb h q⟩ q
mutual
theorem wS_mono {X : XQ} : ∀ (s : S) {env : AEnv} {D D' : AEnds}, D.Le D' → wS X s env D → wS X s env D'
  | .asg i e, _, _, _, h, q => wE_mono e (fun _ _ q => by
      split at q
      · exact q
      · exact h.nx _ q) q
  | .asgF i e, _, _, _, h, q => wE_mono e (fun _ _ q => dataK_mono (fun _ q => h.nx _ q) q) q
  | .par is es, _, _, _, h, q => wEs_mono es (fun _ _ q => datasK_mono (fun _ q => ⟨q.1, h.nx _ q.2⟩) q) q
  | .unp is e, _, _, _, h, q => wE_mono e (fun _ _ q => by
      split at q
      · exact tgK_mono (fun _ q => h.nx _ q) q
      · exact q) q
  | .setIx j i e, _, _, _, h, q => wE_mono e (fun _ _ q => dataK_mono (fun _ q => by
      split at q
      · refine wE_mono i (fun _ _ q => ?_) q
        split at q
        · exact ⟨q.1, h.nx _ q.2⟩
        · exact q
      · exact q) q) q
  | .aug i op e, env, D, D', h, q => by
    unfold wS at q ⊢
    split at q
    · refine wE_mono e (fun _ _ q => ?_) q
      split at q
      · refine binK_mono (fun _ q => ?_) q
        split at q
        · exact h.nx _ q
        · exact q
      · exact q
    · exact q
  | .append j e, env, D, D', h, q => by
    unfold wS at q ⊢
    split at q
    · refine wE_mono e (fun _ _ q => dataK_mono (fun _ q => ?_) q) q
      split at q
      · exact ⟨q.1, h.nx _ q.2⟩
      · exact q
    · exact q
  | .insert j i e, env, D, D', h, q => by
    unfold wS at q ⊢
    split at q
    · refine wE_mono i (fun _ _ q => wE_mono e (fun _ _ q => dataK_mono (fun _ q => ?_) q) q) q
      split at q
      · exact ⟨q.1, h.nx _ q.2⟩
      · exact q
    · exact q
  | .expr e, _, _, _, h, q => wE_mono e (fun _ _ q => h.nx _ q) q
  | .ret e, _, _, _, h, q => wE_mono e (fun _ _ q => h.rt _ _ q) q
  | .retN, _, _, _, h, q => h.rt _ _ q
  | .ite c a b, _, _, _, h, q => wE_mono c (fun _ _ q => truthK_mono (fun _ q => ite_mono (fun q => wSs_mono a h q) (fun q => wSs_mono b h q) q) q) q
  | .forS tg it body, env, D, D', h, q => by
    unfold wS at q ⊢
    exact wIt_mono it (fun _ _ q => forW_mono (body := fun e D' => wSs X body e D') (fun env D D' h q => wSs_mono body h q) h q) q
  | .whl c body, env, D, D', h, q => by
    unfold wS whileW at q ⊢
    obtain ⟨W, w0, turn⟩ := q
    refine ⟨W, w0, fun m env w => wE_mono c (fun _ _ q => truthK_mono (fun _ q => ite_mono (fun q => ?_) (fun q => h.nx _ q) q) q) (turn m env w)⟩
    obtain ⟨N, hN, q⟩ := q
    exact ⟨N, hN, wSs_mono body (D := { D with nx := N, ct := N, bk := D.nx }) ⟨fun _ z => z, h.rt, h.nx, fun _ z => z⟩ q⟩
  | .pass, _, _, _, h, q => h.nx _ q
  | .brk, _, _, _, h, q => h.bk _ q
  | .cont, _, _, _, h, q => h.ct _ q
  | .raise x, _, _, _, h, q => q
  | .frz j, env, D, D', h, q => by
    unfold wS at q ⊢
    split at q
    · exact h.nx _ q
    · exact q
theorem wSs_mono {X : XQ} : ∀ (ss : Ss) {env : AEnv} {D D' : AEnds}, D.Le D' → wSs X ss env D → wSs X ss env D'
  | .nil, _, _, _, h, q => h.nx _ q
  | .cons s ss, env, D, D', h, q => wS_mono s (D := { D with nx := fun env1 => wSs X ss env1 D }) (D' := { D' with nx := fun env1 => wSs X ss env1 D' }) ⟨fun _ q => wSs_mono ss h q, h.rt, h.bk, h.ct⟩ q
end
end PF

set_option maxRecDepth 100000
set_option maxHeartbeats 4000000
namespace PF
open PySem L2
/-! ### the heap without some addresses; data in it -/
def Wo (H : Hp) (O : List Addr) : Hp := fun a => if a ∈ O then none else H a
theorem wo_out {H : Hp} {O : List Addr} {a : Addr} (h : a ∉ O) : Wo H O a = H a := by unfold Wo; rw [if_neg h]
theorem wo_some {H : Hp} {O : List Addr} {a : Addr} {o : HO} (h : Wo H O a = some o) : a ∉ O ∧ H a = some o := by
  unfold Wo at h
  split at h
  · cases h
  · exact ⟨by assumption, h⟩
theorem sq_t {K : PySem.W.Frag} {H H' : Hp} {a : Addr} {xs : List V} (e : Same H H') (h : SqT K H a xs) : SqT K H' a xs := by
  rcases h with (h | ⟨o, h⟩) | h
  · exact .inl (.inl (e _ _ h))
  · exact .inl (.inr ⟨o, e _ _ h⟩)
  · exact .inr h
mutual
theorem dp_mono {K : PySem.W.Frag} {H H' : Hp} (e : Same H H') : ∀ {v : V} {d : PyData}, Dp K H v d → Dp K H' v d
  | _, _, .non => .non
  | _, _, .bl b => .bl b
  | _, _, .int i => .int i
  | _, _, .str x => .str x
  | _, _, .lst h t => .lst (e.seq h) (dps_mono e t)
  | _, _, .tup h t => .tup (sq_t e h) (dps_mono e t)
theorem dps_mono {K : PySem.W.Frag} {H H' : Hp} (e : Same H H') : ∀ {vs : List V} {ds : List PyData}, DpAll K H vs ds → DpAll K H' vs ds
  | _, _, .nil => .nil
  | _, _, .cons h t => .cons (dp_mono e h) (dps_mono e t)
end
def Chg (O : List Addr) (H H' : Hp) : Prop := ∀ a o, H a = some o → a ∉ O → H' a = some o
theorem Chg.refl {O : List Addr} {H : Hp} : Chg O H H := fun _ _ h _ => h
theorem Chg.trans {O : List Addr} {H H1 H2 : Hp} (a : Chg O H H1) (b : Chg O H1 H2) : Chg O H H2 := fun c o h n => b c o (a c o h n) n
theorem Chg.wo {O : List Addr} {H H' : Hp} (c : Chg O H H') : Same (Wo H O) (Wo H' O) := fun a o h => by
  obtain ⟨n, e⟩ := wo_some h
  rw [wo_out n]
  exact c a o e n
theorem Chg.wo2 {O O' : List Addr} {H H' : Hp} (c : Chg O H H') (hs : ∀ a, a ∈ O → a ∈ O') : Same (Wo H O') (Wo H' O') := fun a o h => by
  obtain ⟨n, e⟩ := wo_some h
  rw [wo_out n]
  exact c a o e fun z => n (hs a z)
theorem wo_sub {H : Hp} {O O' : List Addr} (hs : ∀ a, a ∈ O → a ∈ O') : Same (Wo H O') (Wo H O) := fun a o h => by
  obtain ⟨n, e⟩ := wo_some h
  rw [wo_out fun z => n (hs a z)]
  exact e
theorem wo_all {H : Hp} {O : List Addr} : Same (Wo H O) H := fun a o h => (wo_some h).2
theorem wo_cons {H : Hp} {O : List Addr} {p : Addr} : Same (Wo H (p :: O)) (Wo H O) := wo_sub fun _ h => List.mem_cons_of_mem _ h
/-- a new object beside -/
theorem chg_new {O : List Addr} {H : Hp} {p : Addr} {o : HO} (h : H p = none) : Chg O H (upd H p o) := fun a u e _ => by rw [upd_ne (ne_of_none e h)]; exact e
theorem wo_new {H : Hp} {O : List Addr} {p : Addr} {o : HO} (h : H p = none) : Same (Wo H O) (Wo (upd H p o) (p :: O)) := fun a u e => by
  obtain ⟨n, e⟩ := wo_some e
  have ne := ne_of_none e h
  rw [wo_out (by simp only [List.mem_cons, not_or]; exact ⟨ne, n⟩), upd_ne ne]
  exact e

theorem dps_len {K : PySem.W.Frag} {H : Hp} : ∀ {vs : List V} {ds : List PyData}, DpAll K H vs ds → vs.length = ds.length
  | _, _, .nil => rfl
  | _, _, .cons _ t => by rw [List.length_cons, List.length_cons, dps_len t]
theorem dps_get {K : PySem.W.Frag} {H : Hp} : ∀ {vs : List V} {ds : List PyData} {i : Nat} {d : PyData}, DpAll K H vs ds → ds[i]? = some d → ∃ v, vs[i]? = some v ∧ Dp K H v d
  | _, _, _, _, .nil, e => by simp at e
  | _, _, 0, _, .cons h _, e => by simp at e; subst e; exact ⟨_, rfl, h⟩
  | _, _, i + 1, d, .cons _ t, e => by
    obtain ⟨v, h1, h2⟩ := dps_get (i := i) (d := d) t (by simpa using e)
    exact ⟨v, by simpa using h1, h2⟩
theorem dps_getV {K : PySem.W.Frag} {H : Hp} : ∀ {vs : List V} {ds : List PyData} {i : Nat} {v : V}, DpAll K H vs ds → vs[i]? = some v → ∃ d, ds[i]? = some d ∧ Dp K H v d
  | _, _, _, _, .nil, e => by simp at e
  | _, _, 0, _, .cons h _, e => by simp at e; subst e; exact ⟨_, rfl, h⟩
  | _, _, i + 1, d, .cons _ t, e => by
    obtain ⟨v, h1, h2⟩ := dps_getV (i := i) (v := d) t (by simpa using e)
    exact ⟨v, by simpa using h1, h2⟩
theorem dps_append {K : PySem.W.Frag} {H : Hp} : ∀ {vs us : List V} {ds es : List PyData}, DpAll K H vs ds → DpAll K H us es → DpAll K H (vs ++ us) (ds ++ es)
  | _, _, _, _, .nil, q => q
  | _, _, _, _, .cons h t, q => .cons h (dps_append t q)
theorem dps_set {K : PySem.W.Frag} {H : Hp} {v : V} {d : PyData} (h : Dp K H v d) : ∀ {vs : List V} {ds : List PyData} (j : Nat), DpAll K H vs ds → DpAll K H (vs.set j v) (ds.set j d)
  | _, _, _, .nil => .nil
  | _, _, 0, .cons _ t => .cons h t
  | _, _, j + 1, .cons q t => .cons q (dps_set h j t)
theorem dps_take {K : PySem.W.Frag} {H : Hp} : ∀ {vs : List V} {ds : List PyData} (n : Nat), DpAll K H vs ds → DpAll K H (vs.take n) (ds.take n)
  | _, _, 0, _ => .nil
  | _, _, _ + 1, .nil => .nil
  | _, _, n + 1, .cons r t => .cons r (dps_take n t)
theorem dps_drop {K : PySem.W.Frag} {H : Hp} : ∀ {vs : List V} {ds : List PyData} (n : Nat), DpAll K H vs ds → DpAll K H (vs.drop n) (ds.drop n)
  | _, _, 0, r => r
  | _, _, _ + 1, .nil => .nil
  | _, _, n + 1, .cons _ t => dps_drop n t
theorem dps_rev {K : PySem.W.Frag} {H : Hp} : ∀ {vs : List V} {ds : List PyData}, DpAll K H vs ds → DpAll K H vs.reverse ds.reverse
  | _, _, .nil => .nil
  | _, _, .cons h t => by rw [List.reverse_cons, List.reverse_cons]; exact dps_append (dps_rev t) (.cons h .nil)
theorem dps_flat {K : PySem.W.Frag} {H : Hp} {vs : List V} {ds : List PyData} (h : DpAll K H vs ds) : ∀ n : Nat, DpAll K H (List.replicate n vs).flatten (List.replicate n ds).flatten
  | 0 => .nil
  | n + 1 => by rw [List.replicate_succ, List.replicate_succ, List.flatten_cons, List.flatten_cons]; exact dps_append h (dps_flat h n)

/-! ### slots -/
theorem getE_len : ∀ {env : AEnv} {i : Nat} {v : AV}, getE env i = some v → i < env.length
  | [], _, _, h => by cases h
  | _ :: _, 0, _, _ => by simp
  | _ :: l, i + 1, v, h => by have := getE_len (env := l) (i := i) h; simp; omega
theorem setE_len : ∀ (env : AEnv) (i : Nat) (v : Option AV), (setE env i v).length = env.length
  | [], _, _ => rfl
  | _ :: _, 0, _ => rfl
  | _ :: l, i + 1, v => by show (setE l i v).length + 1 = l.length + 1; rw [setE_len l i v]
theorem get_set : ∀ (env : AEnv) (i j : Nat) (v : Option AV), getE (setE env i v) j = if j = i then (if i < env.length then v else none) else getE env j
  | [], i, j, v => by simp [setE, getE]
  | x :: l, 0, 0, v => by simp [setE, getE]
  | x :: l, 0, j + 1, v => by simp [setE, getE]
  | x :: l, i + 1, 0, v => by simp [setE, getE]
  | x :: l, i + 1, j + 1, v => by
    show getE (setE l i v) j = _
    rw [get_set l i j v]
    simp [getE]
theorem get_set_same {env : AEnv} {i : Nat} {v : Option AV} (h : i < env.length) : getE (setE env i v) i = v := by rw [get_set, if_pos rfl, if_pos h]
theorem get_set_ne {env : AEnv} {i j : Nat} {v : Option AV} (h : j ≠ i) : getE (setE env i v) j = getE env j := by rw [get_set, if_neg h]

/-! ### what an environment stands for -/
/-- a def's entry: what was owned by others, the heap, the lent parameters -/
structure Fi where
  O0 : List Addr
  H0 : Hp
  par : Nat → Option Addr
def Fi.lent (F : Fi) (a : Addr) : Prop := ∃ i, F.par i = some a
structure EnvOk (K : PySem.W.Frag) (F : Fi) (O : List Addr) (H : Hp) (σ : L2.St) (env : AEnv) : Prop where
  len : σ.length = env.length
  dat : ∀ i x, getE env i = some (.d x) → ∃ v, σ[i]? = some (some v) ∧ Dp K (Wo H O) v x
  own : ∀ i ds, getE env i = some (.o ds) → ∃ p vs, σ[i]? = some (some (.ref p)) ∧ p ∈ O ∧ H p = some (.lst vs) ∧ DpAll K (Wo H O) vs ds
  nob : ∀ i j, getE env i ≠ some (.b j)
  inj : ∀ i j ds ds' p, getE env i = some (.o ds) → getE env j = some (.o ds') → σ[i]? = some (some (.ref p)) → σ[j]? = some (some (.ref p)) → i = j
  live : ∀ p ∈ O, H p ≠ none
  sub : ∀ p ∈ F.O0, p ∈ O
  new : ∀ p ∈ O, p ∈ F.O0 ∨ F.H0 p = none
  keep : ∀ a o, F.H0 a = some o → ¬ F.lent a → H a = some o
  ownF : ∀ i ds p, getE env i = some (.o ds) → σ[i]? = some (some (.ref p)) → F.lent p ∨ F.H0 p = none
  par : ∀ i p, F.par i = some p → σ[i]? = some (some (.ref p)) ∧ ∃ ds, getE env i = some (.o ds)
section
variable {K : PySem.W.Frag} {F : Fi} {O : List Addr} {H H' : Hp} {σ : L2.St} {env : AEnv}
theorem EnvOk.notO (e : EnvOk K F O H σ env) {p : Addr} (h : H p = none) : p ∉ O := fun z => e.live p z h
/-- nothing but new objects: the environment stands as it was -/
theorem EnvOk.grow (e : EnvOk K F O H σ env) (s : Same H H') : EnvOk K F O H' σ env where
  len := e.len
  dat := fun i x h => by
    obtain ⟨v, h1, h2⟩ := e.dat i x h
    exact ⟨v, h1, dp_mono (Chg.wo fun a o z _ => s a o z) h2⟩
  own := fun i ds h => by
    obtain ⟨p, vs, h1, h2, h3, h4⟩ := e.own i ds h
    exact ⟨p, vs, h1, h2, s _ _ h3, dps_mono (Chg.wo fun a o z _ => s a o z) h4⟩
  nob := e.nob
  inj := e.inj
  live := fun p hp z => by
    cases q : H p with
    | none => exact e.live p hp q
    | some o => rw [s _ _ q] at z; cases z
  sub := e.sub
  new := e.new
  keep := fun a o h n => s _ _ (e.keep a o h n)
  ownF := e.ownF
  par := e.par
/-- the list that a slot owns is another one -/
theorem EnvOk.put (e : EnvOk K F O H σ env) {j : Nat} {ds ds' : List PyData} {p : Addr} {vs' : List V} (h : getE env j = some (.o ds)) (hp : σ[j]? = some (some (.ref p))) (hk : Chg O H H') (ho : ∀ a o, H a = some o → a ≠ p → H' a = some o) (hq : H' p = some (.lst vs')) (hd : DpAll K (Wo H' O) vs' ds') :
    EnvOk K F O H' σ (setE env j (some (.o ds'))) := by
  have hj := getE_len h
  obtain ⟨p', vs, h1, h2, h3, h4⟩ := e.own j ds h
  rw [hp] at h1; cases h1
  have ge : ∀ i v, getE (setE env j (some (.o ds'))) i = some v → (i = j ∧ v = .o ds') ∨ (i ≠ j ∧ getE env i = some v) := fun i v q => by
    by_cases hi : i = j
    · subst hi; rw [get_set_same hj] at q; cases q; exact .inl ⟨rfl, rfl⟩
    · rw [get_set_ne hi] at q; exact .inr ⟨hi, q⟩
  refine ⟨by rw [setE_len]; exact e.len, fun i x q => ?_, fun i xs q => ?_, fun i k q => ?_, fun i k xs ys a q1 q2 r1 r2 => ?_, fun a ha z => ?_, e.sub, e.new, fun a o q n => ?_, fun i xs a q r => ?_, fun i a q => ?_⟩
  · rcases ge i _ q with ⟨_, z⟩ | ⟨_, q⟩
    · cases z
    · obtain ⟨v, e1, e2⟩ := e.dat i x q
      exact ⟨v, e1, dp_mono hk.wo e2⟩
  · rcases ge i _ q with ⟨rfl, z⟩ | ⟨hi, q⟩
    · cases z; exact ⟨p, vs', hp, h2, hq, hd⟩
    · obtain ⟨a, us, r1, r2, r3, r4⟩ := e.own i xs q
      have ne : a ≠ p := fun z => by subst z; exact hi (e.inj i j _ _ _ q h r1 hp)
      exact ⟨a, us, r1, r2, ho _ _ r3 ne, dps_mono hk.wo r4⟩
  · rcases ge i _ q with ⟨_, z⟩ | ⟨_, q⟩
    · cases z
    · exact e.nob i k q
  · rcases ge i _ q1 with ⟨hi, _⟩ | ⟨_, z1⟩ <;> rcases ge k _ q2 with ⟨hk2, _⟩ | ⟨_, z2⟩
    · rw [hi, hk2]
    · rw [hi] at r1 ⊢; exact e.inj _ _ _ _ _ h z2 r1 r2
    · rw [hk2] at r2 ⊢; exact e.inj _ _ _ _ _ z1 h r1 r2
    · exact e.inj _ _ _ _ _ z1 z2 r1 r2
  · by_cases hap : a = p
    · subst hap; rw [hq] at z; cases z
    · cases q : H a with
      | none => exact e.live a ha q
      | some o => rw [ho _ _ q hap] at z; cases z
  · have ne : a ≠ p := fun z => by
      subst z
      rcases e.ownF j ds a h hp with r | r
      · exact n r
      · rw [r] at q; cases q
    exact ho _ _ (e.keep a o q n) ne
  · rcases ge i _ q with ⟨rfl, _⟩ | ⟨_, q⟩
    · rw [hp] at r; cases r; exact e.ownF _ _ _ h hp
    · exact e.ownF _ _ _ q r
  · obtain ⟨r1, xs, r2⟩ := e.par i a q
    refine ⟨r1, ?_⟩
    by_cases hi : i = j
    · subst hi; exact ⟨ds', get_set_same hj⟩
    · exact ⟨xs, by rw [get_set_ne hi]; exact r2⟩
end

/-! ### what an answer stands for -/
def Res (K : PySem.W.Frag) (O : List Addr) (H H' : Hp) (σ : L2.St) (v : V) : AV → Prop
  | .d x => Dp K (Wo H' O) v x
  | .o ds => ∃ p vs, v = .ref p ∧ H p = none ∧ p ∉ O ∧ H' p = some (.lst vs) ∧ DpAll K (Wo H' (p :: O)) vs ds
  | .b j => ∃ p, v = .ref p ∧ σ[j]? = some (some (.ref p))
/-- the environment does not hang on the list at p -/
structure Av (K : PySem.W.Frag) (O : List Addr) (p : Addr) (H : Hp) (σ : L2.St) (env : AEnv) : Prop where
  dat : ∀ j x, getE env j = some (.d x) → ∃ v, σ[j]? = some (some v) ∧ Dp K (Wo H (p :: O)) v x
  own : ∀ j xs, getE env j = some (.o xs) → ∃ a us, σ[j]? = some (some (.ref a)) ∧ a ∈ O ∧ H a = some (.lst us) ∧ DpAll K (Wo H (p :: O)) us xs
def AvR (K : PySem.W.Frag) (O : List Addr) (H : Hp) (σ : L2.St) (env : AEnv) (v : V) : AV → Prop
  | .o _ => ∀ p, v = .ref p → Av K O p H σ env
  | _ => True
def ResAll (K : PySem.W.Frag) (O : List Addr) (H H' : Hp) (σ : L2.St) : List V → List AV → Prop
  | [], [] => True
  | v :: vs, r :: rs => Res K O H H' σ v r ∧ ResAll K O H H' σ vs rs
  | _, _ => False
/-- what is read: a list or a tuple by its place, its items without the owned ones -/
def RdD (K : PySem.W.Frag) (O : List Addr) (H : Hp) (v : V) : PyData → Prop
  | .list xs => ∃ p vs, v = .ref p ∧ SqL K H p vs ∧ DpAll K (Wo H O) vs xs
  | .tuple xs => ∃ p vs, v = .ref p ∧ SqT K (Wo H O) p vs ∧ DpAll K (Wo H O) vs xs
  | x => Dp K H v x
section
variable {K : PySem.W.Frag} {F : Fi} {O : List Addr} {H H0 H' : Hp} {σ : L2.St} {env : AEnv} {v : V} {r : AV}
theorem rdD_of {x : PyData} (h : Dp K (Wo H O) v x) : RdD K O H v x := by
  cases h with
  | non => exact .non
  | bl b => exact .bl b
  | int i => exact .int i
  | str s => exact .str s
  | lst h t => exact ⟨_, _, rfl, wo_all.seq h, t⟩
  | tup h t => exact ⟨_, _, rfl, h, t⟩
theorem RdD.dp {x : PyData} (h : RdD K O H v x) : Dp K H v x := by
  cases x with
  | list xs => obtain ⟨p, vs, rfl, a, b⟩ := h; exact .lst a (dps_mono wo_all b)
  | tuple xs => obtain ⟨p, vs, rfl, a, b⟩ := h; exact .tup (sq_t wo_all a) (dps_mono wo_all b)
  | none => exact h
  | bool b => exact h
  | int i => exact h
  | str s => exact h
  | dict k => exact h
theorem Res.chg (h : Res K O H0 H σ v r) (c : Chg O H H') : Res K O H0 H' σ v r := by
  cases r with
  | d x => exact dp_mono c.wo h
  | o ds =>
    obtain ⟨p, vs, e, n, no, hp, hd⟩ := h
    exact ⟨p, vs, e, n, no, c _ _ hp no, dps_mono (c.wo2 fun _ z => List.mem_cons_of_mem _ z) hd⟩
  | b j => exact h
/-- seen from an earlier heap -/
theorem Res.back {H1 : Hp} (h : Res K O H1 H σ v r) (c : Chg O H0 H1) : Res K O H0 H σ v r := by
  cases r with
  | d x => exact h
  | o ds =>
    obtain ⟨p, vs, e, n, no, hp, hd⟩ := h
    refine ⟨p, vs, e, ?_, no, hp, hd⟩
    cases q : H0 p with
    | none => rfl
    | some o => rw [c _ _ q no] at n; cases n
  | b j => exact h
theorem ResAll.chg : ∀ {vs : List V} {rs : List AV}, ResAll K O H0 H σ vs rs → Chg O H H' → ResAll K O H0 H' σ vs rs
  | [], [], _, _ => trivial
  | _ :: _, _ :: _, h, c => ⟨h.1.chg c, ResAll.chg h.2 c⟩
theorem ResAll.back {H1 : Hp} : ∀ {vs : List V} {rs : List AV}, ResAll K O H1 H σ vs rs → Chg O H0 H1 → ResAll K O H0 H σ vs rs
  | [], [], _, _ => trivial
  | _ :: _, _ :: _, h, c => ⟨h.1.back c, ResAll.back h.2 c⟩
theorem res_data {k : PyData → Prop} (h : Res K O H0 H σ v r) (q : dataK r k) : ∃ x, k x ∧ Dp K (Wo H O) v x := by
  cases r with
  | d x => exact ⟨x, q, h⟩
  | o ds =>
    obtain ⟨p, vs, rfl, n, no, hp, hd⟩ := h
    exact ⟨.list ds, q, .lst (.inl (.inl (by rw [wo_out no]; exact hp))) (dps_mono wo_cons hd)⟩
  | b j => exact q.elim
theorem res_datas : ∀ {vs : List V} {rs : List AV} {k : List PyData → Prop}, ResAll K O H0 H σ vs rs → datasK rs k → ∃ xs, k xs ∧ DpAll K (Wo H O) vs xs
  | [], [], k, _, q => ⟨[], q, .nil⟩
  | v :: vs, r :: rs, k, h, q => by
    obtain ⟨x, q, hx⟩ := res_data h.1 q
    obtain ⟨xs, q, hxs⟩ := res_datas h.2 q
    exact ⟨x :: xs, q, .cons hx hxs⟩
theorem res_rd {k : PyData → Prop} (e : EnvOk K F O H σ env) (h : Res K O H0 H σ v r) (q : rdK env r k) : ∃ x, k x ∧ RdD K O H v x := by
  cases r with
  | d x => exact ⟨x, q, rdD_of h⟩
  | o ds =>
    obtain ⟨p, vs, rfl, n, no, hp, hd⟩ := h
    exact ⟨.list ds, q, p, vs, rfl, .inl (.inl hp), dps_mono wo_cons hd⟩
  | b j =>
    unfold rdK at q
    simp only at q
    split at q
    · rename_i ds hg
      obtain ⟨p, rfl, hs⟩ := h
      obtain ⟨p', vs, h1, h2, h3, h4⟩ := e.own j ds hg
      rw [hs] at h1; cases h1
      exact ⟨.list ds, q, p, vs, rfl, .inl (.inl h3), h4⟩
    · exact q.elim
theorem res_rds (e : EnvOk K F O H σ env) : ∀ {vs : List V} {rs : List AV} {k : List PyData → Prop}, ResAll K O H0 H σ vs rs → rdsK env rs k → ∃ xs, k xs ∧ vs.length = xs.length ∧ ∀ (i : Nat) (v : V) (x : PyData), vs[i]? = some v → xs[i]? = some x → RdD K O H v x
  | [], [], k, _, q => ⟨[], q, rfl, fun i v x h => by simp at h⟩
  | v :: vs, r :: rs, k, h, q => by
    obtain ⟨x, q, hx⟩ := res_rd e h.1 q
    obtain ⟨xs, q, hl, hxs⟩ := res_rds e h.2 q
    refine ⟨x :: xs, q, by simp [hl], fun i w y h1 h2 => ?_⟩
    cases i with
    | zero => simp at h1 h2; subst h1; subst h2; exact hx
    | succ i => exact hxs i w y (by simpa using h1) (by simpa using h2)
/-- a new list, a new tuple -/
theorem res_new {vs : List V} {ds : List PyData} {p : Addr} (e : EnvOk K F O H σ env) (hp : H p = none) (c : Chg O H0 H) (h : DpAll K (Wo H O) vs ds) : Res K O H0 (upd H p (.lst vs)) σ (.ref p) (.o ds) := by
  have no := e.notO hp
  refine ⟨p, vs, rfl, ?_, no, upd_same, dps_mono (wo_new hp) h⟩
  cases q : H0 p with
  | none => rfl
  | some o => rw [c _ _ q no] at hp; cases hp
theorem av_new {p : Addr} {o : HO} (e : EnvOk K F O H σ env) (hp : H p = none) : Av K O p (upd H p o) σ env := by
  refine ⟨fun j x h => ?_, fun j xs h => ?_⟩
  · obtain ⟨v, h1, h2⟩ := e.dat j x h
    exact ⟨v, h1, dp_mono (wo_new hp) h2⟩
  · obtain ⟨a, us, h1, h2, h3, h4⟩ := e.own j xs h
    exact ⟨a, us, h1, h2, by rw [upd_ne (ne_of_none h3 hp)]; exact h3, dps_mono (wo_new hp) h4⟩
theorem avR_new {p : Addr} {vs : List V} {ds : List PyData} (e : EnvOk K F O H σ env) (hp : H p = none) : AvR K O (upd H p (.lst vs)) σ env (.ref p) (.o ds) := fun q z => by
  cases z
  exact av_new e hp
theorem dp_tup {vs : List V} {ds : List PyData} {p : Addr} (no : p ∉ O) (hp : H p = none) (h : DpAll K (Wo H O) vs ds) : Dp K (Wo (upd H p (.tup vs)) O) (.ref p) (.tuple ds) :=
  .tup (.inl (.inl (by rw [wo_out no, upd_same]))) (dps_mono (chg_new hp).wo h)
theorem same_new {p : Addr} {o : HO} (h : H p = none) : Same H (upd H p o) := fun a u e => by rw [upd_ne (ne_of_none e h)]; exact e
theorem RdD.int {i : Int} (h : RdD K O H v (.int i)) : v = .int i := by
  cases (show Dp K H v (.int i) from h); rfl
theorem RdD.bool {i : Bool} (h : RdD K O H v (.bool i)) : v = .bl i := by
  cases (show Dp K H v (.bool i) from h); rfl
theorem RdD.none (h : RdD K O H v .none) : v = .non := by
  cases (show Dp K H v .none from h); rfl
theorem RdD.str {i : Str} (h : RdD K O H v (.str i)) : v = .str i := by
  cases (show Dp K H v (.str i) from h); rfl
end
end PF

set_option maxRecDepth 100000
set_option maxHeartbeats 4000000
namespace PF
open PySem PySem.Spec PyProof.Rows L2
abbrev X0 : XQ := fun _ _ => False
/-! ### readings by wishes -/
def TEof (K : PySem.W.Frag) (e : E) : TE := fun σ H Q => ∃ (F : Fi) (O : List Addr) (env : AEnv), EnvOk K F O H σ env ∧ wE e env (fun r env' => ∀ v H', EnvOk K F O H' σ env' → Chg O H H' → Res K O H H' σ v r → AvR K O H' σ env' v r → Q v H') X0
def TTof (K : PySem.W.Frag) (e : E) : TT := fun σ H Q => ∃ (F : Fi) (O : List Addr) (env : AEnv), EnvOk K F O H σ env ∧ wE e env (fun r env' => truthK env' r fun b => ∀ H', EnvOk K F O H' σ env' → Chg O H H' → Q b H') X0
def TAof (K : PySem.W.Frag) (es : Es) : TA := fun σ H Q => ∃ (F : Fi) (O : List Addr) (env : AEnv), EnvOk K F O H σ env ∧ wEs es env (fun rs env' => ∀ vs H', EnvOk K F O H' σ env' → Chg O H H' → ResAll K O H H' σ vs rs → Q vs H') X0
section
variable {X : Cx} {e : Expr} {K : PySem.W.Frag} {F : Fi}
theorem pe_weak {t t' : TE} (h : PE X e t) (hw : ∀ σ H Q, t' σ H Q → t σ H Q) : PE X e t' := ⟨fun pins s σ H Q I q => h.run pins s σ H Q I (hw σ H Q q)⟩
theorem pt_weak {t t' : TT} (h : PT X e t) (hw : ∀ σ H Q, t' σ H Q → t σ H Q) : PT X e t' := ⟨fun pins s σ H Q I q => h.run pins s σ H Q I (hw σ H Q q)⟩
theorem pw_weak {t t' : TT} (h : PW X e t) (hw : ∀ σ H Q, t' σ H Q → t σ H Q) : PW X e t' := ⟨fun wh pins s σ H Q I q => h.run wh pins s σ H Q I (hw σ H Q q)⟩
theorem pa_weak {es : List Expr} {t t' : TA} (h : PA X es t) (hw : ∀ σ H Q, t' σ H Q → t σ H Q) : PA X es t' := ⟨fun pos pins s σ H Q I q => h.run pos pins s σ H Q I (hw σ H Q q)⟩
theorem ps_weak {st : Stmt} {t t' : TS} (h : PS X st t) (hw : ∀ D σ H, t' D σ H → t D σ H) : PS X st t' := ⟨fun pins s σ H D I q => h.run pins s σ H D I (hw D σ H q)⟩
theorem pss_weak {st : List Stmt} {t t' : TS} (h : PSs X st t) (hw : ∀ D σ H, t' D σ H → t D σ H) : PSs X st t' := ⟨fun pins s σ H D I q => h.run pins s σ H D I (hw D σ H q)⟩
/-- one part evaluated, then the rest -/
theorem te_then {a : E} {σ : L2.St} {H : Hp} {O : List Addr} {env : AEnv} {q : AV → AEnv → Prop} {Q : VK} (eo : EnvOk K F O H σ env) (hw : wE a env q X0)
    (k : ∀ r env1 v H1, q r env1 → EnvOk K F O H1 σ env1 → Chg O H H1 → Res K O H H1 σ v r → AvR K O H1 σ env1 v r → Q v H1) : TEof K a σ H Q :=
  ⟨F, O, env, eo, wE_mono a (fun r env1 h v H1 e1 c1 r1 a1 => k r env1 v H1 h e1 c1 r1 a1) hw⟩
theorem ta_then {es : Es} {σ : L2.St} {H : Hp} {O : List Addr} {env : AEnv} {q : List AV → AEnv → Prop} {Q : List V → Hp → Prop} (eo : EnvOk K F O H σ env) (hw : wEs es env q X0)
    (k : ∀ rs env1 vs H1, q rs env1 → EnvOk K F O H1 σ env1 → Chg O H H1 → ResAll K O H H1 σ vs rs → Q vs H1) : TAof K es σ H Q :=
  ⟨F, O, env, eo, wEs_mono es (fun r env1 h v H1 e1 c1 r1 => k r env1 v H1 h e1 c1 r1) hw⟩
theorem tt_then {a : E} {σ : L2.St} {H : Hp} {O : List Addr} {env : AEnv} {q : Bool → AEnv → Prop} {Q : Bool → Hp → Prop} (eo : EnvOk K F O H σ env) (hw : wE a env (fun r env' => truthK env' r fun b => q b env') X0)
    (k : ∀ b env1 H1, q b env1 → EnvOk K F O H1 σ env1 → Chg O H H1 → Q b H1) : TTof K a σ H Q :=
  ⟨F, O, env, eo, wE_mono a (fun r env1 h => truthK_mono (fun b h H1 e1 c1 => k b env1 H1 h e1 c1) h) hw⟩
end

section
variable {X : Cx} {F : Fi} {a b c : Expr} {pos : Pos}
/-! ### names, constants -/
theorem te_var {i : Nat} {x : Str} (hN : X.N[i]? = some x) (hv : Vis X.env.scope x) (hd : (x == ("__debug__" : Str)) = false) (hcd : (x == ("__classdict__" : Str)) = false) : PE X (.Name x pos) (TEof X.K (.var i)) :=
  pe_weak (pe_var hN hv hd hcd) fun σ H Q ⟨F, O, env, eo, hw⟩ => by
    unfold wE at hw
    split at hw
    · rename_i y hg
      obtain ⟨v, h1, h2⟩ := eo.dat i y hg
      exact ⟨v, h1, hw v H eo .refl h2 trivial⟩
    · rename_i ds hg
      obtain ⟨p, vs, h1, h2, h3, h4⟩ := eo.own i ds hg
      exact ⟨_, h1, hw _ H eo .refl ⟨p, rfl, h1⟩ trivial⟩
    · exact hw.elim
theorem te_int {i : Int} {j : Nat} : PE X (.Constant (.int i) j pos) (TEof X.K (.int i)) := pe_weak pe_int fun σ H Q ⟨F, O, env, eo, hw⟩ => hw _ H eo .refl (.int i) trivial
theorem te_bool {i : Bool} {j : Nat} : PE X (.Constant (.bool i) j pos) (TEof X.K (.bool i)) := pe_weak pe_bl fun σ H Q ⟨F, O, env, eo, hw⟩ => hw _ H eo .refl (.bl i) trivial
theorem te_none {j : Nat} : PE X (.Constant .none j pos) (TEof X.K .none) := pe_weak pe_non fun σ H Q ⟨F, O, env, eo, hw⟩ => hw _ H eo .refl .non trivial
theorem te_str {i : Str} {j : Nat} : PE X (.Constant (.str i) j pos) (TEof X.K (.str i)) := pe_weak pe_str fun σ H Q ⟨F, O, env, eo, hw⟩ => hw _ H eo .refl (.str i) trivial
/-- a module's constant -/
def GlobOk (K : PySem.W.Frag) (mg : Str → Option Value) (x : Str) (d : PyData) : Prop := ∃ v u, mg x = some u ∧ RelV v u ∧ ∀ H, Dp K H v d
theorem te_glob {x : Str} {d : PyData} (g : GlobOk X.K X.mg x d) (hg : Gl X x) (hd : (x == ("__debug__" : Str)) = false) : PE X (.Name x pos) (TEof X.K (.glob x d)) := by
  obtain ⟨v, u, h1, h2, h3⟩ := g
  exact pe_weak (pe_glob hg h1 h2 hd) fun σ H Q ⟨F, O, env, eo, hw⟩ => hw _ H eo .refl (h3 _) trivial

/-! ### two-place operators -/
theorem op_fdivA : OpR X (binaryOp .FloorDiv) (rI (fun _ j => divOk j) fun i j => .int (i.fdiv j)) := opI fun _ _ _ _ _ _ _ hc q => floordiv_int hc.1 q (.inl (PyProof.noPylong_of_log2 hc.2))
theorem op_powA : OpR X (binaryOp .Pow) (rI powOk fun i j => .int (i ^ j.toNat)) := opI fun _ _ _ _ _ _ _ hc q => pow_int hc.1 hc.2 q
/-- list + list, whatever lists they are -/
def rCatA (K : PySem.W.Frag) : R2 := fun x y H Q => ∃ l b xs zs, x = .ref l ∧ y = .ref b ∧ SqL K H l xs ∧ SqL K H b zs ∧ xs.length + zs.length ≤ sizeLine ∧ ∀ p, H p = none → Q (.ref p) (upd H p (.lst (xs ++ zs)))
theorem op_catA : OpR X (binaryOp .Add) (rCatA X.K) := by
  intro pins s σ H x y v u Q I rx ry h
  obtain ⟨l, b, xs, zs, rfl, rfl, hH, hB, hz, q⟩ := h
  cases rx
  cases ry
  obtain ⟨its, r, ⟨⟨cls, dd, data, sl⟩, n, e, hc, hd, hs⟩, _⟩ := I.list hH
  obtain ⟨its2, r2, ⟨⟨cls2, dd2, data2, sl2⟩, n2, e2, hc2, hd2, hs2⟩, _⟩ := I.list hB
  simp only at hc hd hs hc2 hd2 hs2
  subst hc hd hs hc2 hd2 hs2
  have hl := r.length
  have hl2 := r2.length
  refine concat_meets ⟨_, e, rfl⟩ ⟨_, e2, rfl⟩ noFill_list_add seq_list_add PySem.F.slot_list_add PySem.F.entry_list_add (PySem.F.args_list_add_2 _ _) (list_addW l b its.toArray its2.toArray n n2 none none sl sl2 (by rw [List.size_toArray, List.size_toArray]; omega)) ⟨e, e2, ?_⟩
  have ea : its.toArray ++ its2.toArray = (its ++ its2).toArray := by simp
  rw [ea]
  exact ⟨.ref _, _, I.lnew (t' := s.toks) (r.append r2) (by rw [List.length_append]; omega), rfl, q _ I.fresh⟩
def opOf : BOp → Operator
  | .add => .Add | .sub => .Sub | .mul => .Mult | .fdiv => .FloorDiv | .mod => .Mod | .pow => .Pow | .shl => .LShift | .band => .BitAnd
/-- the wish of an operator by values -/
def rBin (K : PySem.W.Frag) : BOp → R2
  | .add => fun x y H Q => rI0 (fun i j => .int (i + j)) x y H Q ∨ rCatA K x y H Q
  | .sub => rI0 fun i j => .int (i - j)
  | .mul => rI CMulW (fun i j => .int (i * j))
  | .fdiv => rI (fun _ j => divOk j) fun i j => .int (i.fdiv j)
  | .mod => rI (fun _ j => j ≠ 0) fun i j => .int (i.fmod j)
  | .pow => rI powOk fun i j => .int (i ^ j.toNat)
  | _ => fun _ _ _ _ => False
theorem op_bin (op : BOp) : OpR X (binaryOp (opOf op)) (rBin X.K op) := by
  cases op with
  | add => exact op_add.or op_catA
  | sub => exact op_sub
  | mul => exact op_mulW
  | fdiv => exact op_fdivA
  | mod => exact op_modN
  | pow => exact op_powA
  | shl => exact fun _ _ _ _ _ _ _ _ _ _ _ _ h => h.elim
  | band => exact fun _ _ _ _ _ _ _ _ _ _ _ _ h => h.elim
variable {ea eb ec : E}
theorem bin_rd {K : PySem.W.Frag} {O : List Addr} {H0 H : Hp} {σ : L2.St} {env : AEnv} {op : BOp} {x y : V} {dx dy : PyData} {Q' : AV → Prop} {Q : VK} (eo : EnvOk K F O H σ env) (hc : Chg O H0 H) (hx : RdD K O H x dx) (hy : RdD K O H y dy) (hq : binK op dx dy Q')
    (k : ∀ r v H', Q' r → EnvOk K F O H' σ env → Chg O H0 H' → Res K O H0 H' σ v r → AvR K O H' σ env v r → Q v H') : rBin K op x y H Q := by
  unfold binK at hq
  split at hq
  · cases hx.int; cases hy.int; exact .inl ⟨_, _, rfl, rfl, k _ _ _ hq eo hc (.int _) trivial⟩
  · cases hx.int; cases hy.int; exact ⟨_, _, rfl, rfl, k _ _ _ hq eo hc (.int _) trivial⟩
  · cases hx.int; cases hy.int; exact ⟨_, _, rfl, rfl, hq.1, k _ _ _ hq.2 eo hc (.int _) trivial⟩
  · cases hx.int; cases hy.int; exact ⟨_, _, rfl, rfl, hq.1, k _ _ _ hq.2 eo hc (.int _) trivial⟩
  · cases hx.int; cases hy.int; exact ⟨_, _, rfl, rfl, hq.1, k _ _ _ hq.2 eo hc (.int _) trivial⟩
  · cases hx.int; cases hy.int; exact ⟨_, _, rfl, rfl, hq.1, k _ _ _ hq.2 eo hc (.int _) trivial⟩
  · obtain ⟨p, vs, rfl, s1, d1⟩ := hx
    obtain ⟨p2, vs2, rfl, s2, d2⟩ := hy
    refine .inr ⟨p, p2, vs, vs2, rfl, rfl, s1, s2, by rw [dps_len d1, dps_len d2]; exact hq.1, fun z hz => ?_⟩
    exact k _ _ _ hq.2 (eo.grow (same_new hz)) (hc.trans (chg_new hz)) (res_new eo hz hc (dps_append d1 d2)) (avR_new eo hz)
  · exact hq.elim
theorem te_bin (op : BOp) (ha : PE X a (TEof X.K ea)) (hb : PE X b (TEof X.K eb)) : PE X (.BinOp a (opOf op) b pos) (TEof X.K (.bin op ea eb)) :=
  pe_weak (pe_op (op_bin op) ha hb) fun σ H Q ⟨F, O, env, eo, hw⟩ => te_then eo hw fun r1 env1 v1 H1 q1 e1 c1 s1 a1 => te_then e1 q1 fun r2 env2 v2 H2 q2 e2 c2 s2 a2 => by
    obtain ⟨dx, q2, hx⟩ := res_rd e2 (s1.chg c2) q2
    obtain ⟨dy, q2, hy⟩ := res_rd e2 s2 q2
    exact bin_rd e2 (c1.trans c2) hx hy q2 fun r v H' q e c s a => q v H' e c s a
theorem te_neg (ha : PE X a (TEof X.K ea)) : PE X (.UnaryOp .USub a pos) (TEof X.K (.neg ea)) :=
  pe_weak (pe_un un_neg ha) fun σ H Q ⟨F, O, env, eo, hw⟩ => te_then eo hw fun r1 env1 v1 H1 q1 e1 c1 s1 a1 => by
    split at q1
    · cases (show Dp X.K _ v1 (.int _) from s1)
      exact ⟨_, rfl, q1 _ _ e1 c1 (.int _) trivial⟩
    · exact q1.elim
theorem te_rep (ha : PE X a (TEof X.K ea)) (hb : PE X b (TEof X.K eb)) : PE X (.BinOp a .Mult b pos) (TEof X.K (.rep ea eb)) :=
  pe_weak (pe_op op_rep ha hb) fun σ H Q ⟨F, O, env, eo, hw⟩ => te_then eo hw fun r1 env1 v1 H1 q1 e1 c1 s1 a1 => te_then e1 q1 fun r2 env2 v2 H2 q2 e2 c2 s2 a2 => by
    split at q2
    · cases (show Dp X.K _ v2 (.int _) from s2)
      have s1' := s1.chg c2
      obtain ⟨p, vs, rfl, n, no, hp, hd⟩ := s1'
      obtain ⟨⟨b1, b2, b3⟩, q2⟩ := q2
      refine ⟨p, _, vs, rfl, rfl, hp, b1, b2, by rw [dps_len hd]; exact b3, fun z hz => ?_⟩
      exact q2 _ _ (e2.grow (same_new hz)) ((c1.trans c2).trans (chg_new hz)) (res_new e2 hz (c1.trans c2) (dps_mono wo_cons (dps_flat hd _))) (avR_new e2 hz)
    · exact q2.elim

/-! ### comparisons -/
def isNoneD : PyData → Bool
  | .none => true
  | _ => false
theorem is_none_of {K : PySem.W.Frag} {H : Hp} {v : V} {x : PyData} (h : Dp K H v x) : decide (v = .non) = isNoneD x := by
  cases h <;> rfl
theorem isNoneD_no {x : PyData} (h : x = .none → False) : isNoneD x = false := by
  cases x <;> first | rfl | exact (h rfl).elim
def copOf : COp → CmpOp
  | .eq => .Eq | .ne => .NotEq | .lt => .Lt | .le => .LtE | .gt => .Gt | .ge => .GtE | .isin => .In | .notin => .NotIn | .is => .Is | .isnot => .IsNot
def rCmp (K : PySem.W.Frag) : COp → R2
  | .eq => rEqD K
  | .ne => rNeD K
  | .lt => rI0 fun i j => .bl (decide (i < j))
  | .le => rI0 fun i j => .bl (decide (i ≤ j))
  | .gt => rI0 fun i j => .bl (decide (j < i))
  | .ge => rI0 fun i j => .bl (decide (j ≤ i))
  | .isin => rInD K
  | .notin => rNotInD K
  | .is => fun x y H Q => (y = .non ∧ Q (.bl (decide (x = .non))) H) ∨ rIsB x y H Q
  | .isnot => fun x y H Q => (y = .non ∧ Q (.bl (!decide (x = .non))) H) ∨ rNotB x y H Q
theorem op_cmp (op : COp) (hu : X.A.units + 65 < cLine) : OpR X (compareOp (copOf op)) (rCmp X.K op) := by
  cases op with
  | eq => exact op_eqD (by omega)
  | ne => exact op_neD (by omega)
  | lt => exact op_lt
  | le => exact op_le
  | gt => exact op_gt
  | ge => exact op_ge
  | isin => exact op_inD hu
  | notin => exact op_notInD hu
  | is => exact op_isN.or op_isBl
  | isnot => exact op_notN.or op_notBl
theorem cmp_rd {K : PySem.W.Frag} {O : List Addr} {H : Hp} {op : COp} {x y : V} {dx dy : PyData} {Q' : Bool → Prop} {Q : VK} (hx : RdD K O H x dx) (hy : RdD K O H y dy) (hq : cmpK op dx dy Q') (k : ∀ r, Q' r → Q (.bl r) H) : rCmp K op x y H Q := by
  unfold cmpK at hq
  split at hq
  · exact ⟨dx, dy, hx.dp, hy.dp, hq.1, hq.2.1, k _ hq.2.2⟩
  · exact ⟨dx, dy, hx.dp, hy.dp, hq.1, hq.2.1, k _ hq.2.2⟩
  · split at hq
    · cases hx.int; cases hy.int; exact ⟨_, _, rfl, rfl, k _ hq⟩
    · exact hq.elim
  · split at hq
    · cases hx.int; cases hy.int; exact ⟨_, _, rfl, rfl, k _ hq⟩
    · exact hq.elim
  · split at hq
    · cases hx.int; cases hy.int; exact ⟨_, _, rfl, rfl, k _ hq⟩
    · exact hq.elim
  · split at hq
    · cases hx.int; cases hy.int; exact ⟨_, _, rfl, rfl, k _ hq⟩
    · exact hq.elim
  · split at hq
    · exact ⟨dx, _, hx.dp, hy.dp, hq.1, hq.2.1, k _ hq.2.2⟩
    · exact hq.elim
  · split at hq
    · exact ⟨dx, _, hx.dp, hy.dp, hq.1, hq.2.1, k _ hq.2.2⟩
    · exact hq.elim
  · have ex := is_none_of hx.dp
    split at hq
    · cases hy.none; exact .inl ⟨rfl, by rw [ex]; exact k _ hq⟩
    · rename_i hne
      cases hy.none
      refine .inl ⟨rfl, ?_⟩
      rw [ex]
      rw [isNoneD_no hne]
      exact k _ hq
    · cases hx.bool; cases hy.bool; exact .inr ⟨_, _, rfl, rfl, k _ hq⟩
    · exact hq.elim
  · have ex := is_none_of hx.dp
    split at hq
    · cases hy.none; exact .inl ⟨rfl, by rw [ex]; exact k _ hq⟩
    · rename_i hne
      cases hy.none
      refine .inl ⟨rfl, ?_⟩
      rw [ex]
      rw [isNoneD_no hne]
      exact k _ hq
    · cases hx.bool; cases hy.bool; exact .inr ⟨_, _, rfl, rfl, k _ hq⟩
    · exact hq.elim
theorem tcmp {op : COp} {σ : L2.St} {H : Hp} {Q : VK} (h : TEof X.K (.cmp op ea eb) σ H Q) : tOp (rCmp X.K op) (TEof X.K ea) (TEof X.K eb) σ H Q := by
  obtain ⟨F, O, env, eo, hw⟩ := h
  refine te_then eo hw fun r1 env1 v1 H1 q1 e1 c1 s1 a1 => te_then e1 q1 fun r2 env2 v2 H2 q2 e2 c2 s2 a2 => ?_
  obtain ⟨dx, q2, hx⟩ := res_rd e2 (s1.chg c2) q2
  obtain ⟨dy, q2, hy⟩ := res_rd e2 s2 q2
  exact cmp_rd hx hy q2 fun r q => q _ _ e2 (c1.trans c2) (.bl _) trivial
theorem te_cmp (op : COp) (hu : X.A.units + 65 < cLine) (ha : PE X a (TEof X.K ea)) (hb : PE X b (TEof X.K eb)) (hm : behindInMarks (copOf op) b = false) : PE X (.Compare a [copOf op] [b] pos) (TEof X.K (.cmp op ea eb)) :=
  pe_weak (pe_cmpR (op_cmp op hu) ha hb hm) fun σ H Q h => tcmp h
theorem tt_te {e : E} {σ : L2.St} {H : Hp} {Q : Bool → Hp → Prop} {op : COp} (h : TTof X.K (.cmp op ea eb) σ H Q) : TEof X.K (.cmp op ea eb) σ H fun x H' => ∃ k, x = .bl k ∧ Q k H' := by
  obtain ⟨F, O, env, eo, hw⟩ := h
  refine ⟨F, O, env, eo, ?_⟩
  unfold wE at hw ⊢
  refine wE_mono ea (fun r1 env1 q => wE_mono eb (fun r2 env2 q => rdK_mono (fun dx q => rdK_mono (fun dy q => cmpK_mono (fun b q v H' e c s _ => ?_) q) q) q) q) hw
  cases (show Dp X.K _ v (.bool _) from s)
  exact ⟨_, rfl, q _ e c⟩
theorem tt_cmp (op : COp) (hu : X.A.units + 65 < cLine) (ha : PE X a (TEof X.K ea)) (hb : PE X b (TEof X.K eb)) (hm : behindInMarks (copOf op) b = false) : PT X (.Compare a [copOf op] [b] pos) (TTof X.K (.cmp op ea eb)) :=
  pt_weak (pt_cmpR (op_cmp op hu) ha hb hm) fun σ H Q h => tcmp (tt_te (e := .none) h)
theorem tchain {o1 o2 : COp} {σ : L2.St} {H : Hp} {Q : VK} (h : TEof X.K (.chain o1 o2 ea eb ec) σ H Q) : tChain (rCmp X.K o1) (rCmp X.K o2) (TEof X.K ea) (TEof X.K eb) (TEof X.K ec) σ H Q := by
  obtain ⟨F, O, env, eo, hw⟩ := h
  refine te_then eo hw fun r1 env1 v1 H1 q1 e1 c1 s1 a1 => te_then e1 q1 fun r2 env2 v2 H2 q2 e2 c2 s2 a2 => ?_
  obtain ⟨dx, q2, hx⟩ := res_rd e2 (s1.chg c2) q2
  obtain ⟨dy, q2, hy⟩ := res_rd e2 s2 q2
  refine cmp_rd hx hy q2 fun r q => ⟨r, rfl, ?_⟩
  cases r with
  | true =>
    rw [if_pos rfl] at q ⊢
    refine te_then e2 q fun r3 env3 v3 H3 q3 e3 c3 s3 a3 => ?_
    obtain ⟨dy, q3, hy⟩ := res_rd e3 (s2.chg c3) q3
    obtain ⟨dz, q3, hz⟩ := res_rd e3 s3 q3
    exact cmp_rd hy hz q3 fun r q => q _ _ e3 ((c1.trans c2).trans c3) (.bl _) trivial
  | false =>
    rw [if_neg Bool.false_ne_true] at q ⊢
    exact q _ _ e2 (c1.trans c2) (.bl _) trivial
theorem te_chain (o1 o2 : COp) (hu : X.A.units + 65 < cLine) (ha : PE X a (TEof X.K ea)) (hb : PE X b (TEof X.K eb)) (hc : PE X c (TEof X.K ec)) (hm : lastMarks [copOf o1, copOf o2] [b, c] = false) : PE X (.Compare a [copOf o1, copOf o2] [b, c] pos) (TEof X.K (.chain o1 o2 ea eb ec)) :=
  pe_weak (pe_chain (op_cmp o1 hu) (op_cmp o2 hu) ha hb hc hm) fun σ H Q h => tchain h
/-! ### truth, and, or, not, if -/
theorem tru_of {K : PySem.W.Frag} {O : List Addr} {H : Hp} {v : V} {x : PyData} {b : Bool} (h : RdD K O H v x) (e : truth x = some b) : TruV K v H b := by
  cases x with
  | none => cases h.none; cases e; rfl
  | bool c => cases h.bool; cases e; rfl
  | int i => cases h.int; cases e; rfl
  | str s => cases e
  | dict k => cases e
  | list xs =>
    obtain ⟨p, vs, rfl, s1, d1⟩ := h
    have e : some (!xs.isEmpty) = some b := e
    cases e
    refine .inl ⟨vs, s1, ?_⟩
    cases d1 <;> rfl
  | tuple xs =>
    obtain ⟨p, vs, rfl, s1, d1⟩ := h
    have e : some (!xs.isEmpty) = some b := e
    cases e
    refine .inr (.inl ⟨vs, sq_t wo_all s1, ?_⟩)
    cases d1 <;> rfl
theorem res_truth {K : PySem.W.Frag} {O : List Addr} {H0 H : Hp} {σ : L2.St} {env : AEnv} {v : V} {r : AV} {k : Bool → Prop} (e : EnvOk K F O H σ env) (h : Res K O H0 H σ v r) (q : truthK env r k) : ∃ b, k b ∧ TruV K v H b := by
  obtain ⟨x, q, hx⟩ := res_rd e h q
  cases ht : truth x with
  | none => rw [ht] at q; exact q.elim
  | some b => rw [ht] at q; exact ⟨b, q, tru_of hx ht⟩
theorem te_not (ha : PE X a (TEof X.K ea)) : PE X (.UnaryOp .Not a pos) (TEof X.K (.not ea)) :=
  pe_weak (pe_notT ha) fun σ H Q ⟨F, O, env, eo, hw⟩ => te_then eo hw fun r1 env1 v1 H1 q1 e1 c1 s1 a1 => by
    obtain ⟨k, q, hk⟩ := res_truth e1 s1 q1
    exact ⟨k, hk, q _ _ e1 c1 (.bl _) trivial⟩
theorem te_and {rest : List Expr} (ha : PE X a (TEof X.K ea)) (hb : PE X (.BoolOp .And (b :: rest) pos) (TEof X.K eb)) : PE X (.BoolOp .And (a :: b :: rest) pos) (TEof X.K (.and ea eb)) :=
  pe_weak (pe_andT ha hb) fun σ H Q ⟨F, O, env, eo, hw⟩ => te_then eo hw fun r1 env1 v1 H1 q1 e1 c1 s1 a1 => by
    obtain ⟨k, q, hk⟩ := res_truth e1 s1 q1
    refine ⟨k, hk, ite_mono (fun q => ?_) (fun q => ?_) q⟩
    · exact te_then e1 q fun r2 env2 v2 H2 q2 e2 c2 s2 a2 => q2 v2 H2 e2 (c1.trans c2) (s2.back c1) a2
    · exact q v1 H1 e1 c1 s1 a1
theorem te_or {rest : List Expr} (ha : PE X a (TEof X.K ea)) (hb : PE X (.BoolOp .Or (b :: rest) pos) (TEof X.K eb)) : PE X (.BoolOp .Or (a :: b :: rest) pos) (TEof X.K (.or ea eb)) :=
  pe_weak (pe_orT ha hb) fun σ H Q ⟨F, O, env, eo, hw⟩ => te_then eo hw fun r1 env1 v1 H1 q1 e1 c1 s1 a1 => by
    obtain ⟨k, q, hk⟩ := res_truth e1 s1 q1
    refine ⟨k, hk, ite_mono (fun q => ?_) (fun q => ?_) q⟩
    · exact q v1 H1 e1 c1 s1 a1
    · exact te_then e1 q fun r2 env2 v2 H2 q2 e2 c2 s2 a2 => q2 v2 H2 e2 (c1.trans c2) (s2.back c1) a2
theorem te_ife (hc : PT X c (TTof X.K ec)) (ha : PE X a (TEof X.K ea)) (hb : PE X b (TEof X.K eb)) : PE X (.IfExp c a b pos) (TEof X.K (.ife ec ea eb)) :=
  pe_weak (pe_ifExp hc ha hb) fun σ H Q ⟨F, O, env, eo, hw⟩ => tt_then (q := fun t env1 => if t = true then wE ea env1 _ X0 else wE eb env1 _ X0) eo hw fun t env1 H1 q1 e1 c1 =>
    ite_mono (fun q => te_then e1 q fun r2 env2 v2 H2 q2 e2 c2 s2 a2 => q2 v2 H2 e2 (c1.trans c2) (s2.back c1) a2) (fun q => te_then e1 q fun r2 env2 v2 H2 q2 e2 c2 s2 a2 => q2 v2 H2 e2 (c1.trans c2) (s2.back c1) a2) q1
/-- any value as a test -/
theorem tt_any {e : E} (ha : PE X a (TEof X.K e)) (he : ∀ whole, isTrue a X.env whole = (do let v ← whole; standAt a.pos; holding [v] (truthy v))) : PT X a (TTof X.K e) :=
  pt_weak (pt_truth ha he) fun σ H Q ⟨F, O, env, eo, hw⟩ => te_then eo hw fun r1 env1 v1 H1 q1 e1 c1 s1 a1 => by
    obtain ⟨k, q, hk⟩ := res_truth e1 s1 q1
    exact ⟨k, hk, q _ e1 c1⟩
theorem tt_not (ha : PT X a (TTof X.K ea)) : PT X (.UnaryOp .Not a pos) (TTof X.K (.not ea)) :=
  pt_weak (pt_not ha) fun σ H Q ⟨F, O, env, eo, hw⟩ => by
    refine ⟨F, O, env, eo, ?_⟩
    unfold wE at hw
    refine wE_mono ea (fun r1 env1 q => truthK_mono (fun b q H' e c => ?_) q) hw
    exact q H' e c
theorem tw_and {rest : List Expr} (ha : PT X a (TTof X.K ea)) (hb : PW X (.BoolOp .And (b :: rest) pos) (TTof X.K eb)) : PW X (.BoolOp .And (a :: b :: rest) pos) (TTof X.K (.and ea eb)) :=
  pw_weak (pw_and ha hb) fun σ H Q ⟨F, O, env, eo, hw⟩ => by
    refine ⟨F, O, env, eo, ?_⟩
    unfold wE at hw
    refine wE_mono ea (fun r1 env1 q => ?_) hw
    rw [truthK_iff] at q ⊢
    obtain ⟨t, et, q⟩ := q
    refine ⟨t, et, fun H' e c => ?_⟩
    cases t with
    | true =>
      simp only [if_true] at q ⊢
      exact ⟨F, O, env1, e, wE_mono eb (fun r2 env2 q => truthK_mono (fun b q H2 e2 c2 => q H2 e2 (c.trans c2)) q) q⟩
    | false =>
      simp only [Bool.false_eq_true, if_false] at q ⊢
      obtain ⟨t', et', q⟩ := truthK_iff.mp q
      rw [et] at et'; cases et'
      exact q H' e c
theorem tw_or {rest : List Expr} (ha : PT X a (TTof X.K ea)) (hb : PW X (.BoolOp .Or (b :: rest) pos) (TTof X.K eb)) : PW X (.BoolOp .Or (a :: b :: rest) pos) (TTof X.K (.or ea eb)) :=
  pw_weak (pw_or ha hb) fun σ H Q ⟨F, O, env, eo, hw⟩ => by
    refine ⟨F, O, env, eo, ?_⟩
    unfold wE at hw
    refine wE_mono ea (fun r1 env1 q => ?_) hw
    rw [truthK_iff] at q ⊢
    obtain ⟨t, et, q⟩ := q
    refine ⟨t, et, fun H' e c => ?_⟩
    cases t with
    | false =>
      simp only [Bool.false_eq_true, if_false] at q ⊢
      exact ⟨F, O, env1, e, wE_mono eb (fun r2 env2 q => truthK_mono (fun b q H2 e2 c2 => q H2 e2 (c.trans c2)) q) q⟩
    | true =>
      simp only [if_true] at q ⊢
      obtain ⟨t', et', q⟩ := truthK_iff.mp q
      rw [et] at et'; cases et'
      exact q H' e c
theorem tt_chain (o1 o2 : COp) (hu : X.A.units + 65 < cLine) (ha : PE X a (TEof X.K ea)) (hb : PE X b (TEof X.K eb)) (hc : PE X c (TEof X.K ec)) (hm : lastMarks [copOf o1, copOf o2] [b, c] = false) : PT X (.Compare a [copOf o1, copOf o2] [b, c] pos) (TTof X.K (.chain o1 o2 ea eb ec)) :=
  pt_weak (pt_chain (op_cmp o1 hu) (op_cmp o2 hu) ha hb hc hm) fun σ H Q ⟨F, O, env, eo, hw⟩ => tchain (Q := fun x H' => ∃ k, x = .bl k ∧ Q k H') (by
    refine ⟨F, O, env, eo, ?_⟩
    unfold wE at hw ⊢
    refine wE_mono ea (fun r1 env1 q => wE_mono eb (fun r2 env2 q => rdK_mono (fun dx q => rdK_mono (fun dy q => cmpK_mono (fun b q => ite_mono (fun q => ?_) (fun q => ?_) q) q) q) q) q) hw
    · refine wE_mono ec (fun r1 env1 q => rdK_mono (fun dx q => rdK_mono (fun dy q => cmpK_mono (fun b q v H' e c s _ => ?_) q) q) q) q
      cases (show Dp X.K _ v (.bool _) from s)
      exact ⟨_, rfl, q _ e c⟩
    · intro v H' e c s _
      cases (show Dp X.K _ v (.bool _) from s)
      exact ⟨_, rfl, q _ e c⟩)
/-! ### displays, arguments -/
theorem ta_nil : PA X [] (TAof X.K .nil) := pa_weak pa_nil fun σ H Q ⟨F, O, env, eo, hw⟩ => hw [] H eo .refl trivial
theorem ta_cons {es : List Expr} {ees : Es} (ha : PE X a (TEof X.K ea)) (hr : PA X es (TAof X.K ees)) (hs : starEach (a :: es) X.env = (false, eval a X.env) :: starEach es X.env) : PA X (a :: es) (TAof X.K (.cons ea ees)) :=
  pa_weak (pa_cons ha hr hs) fun σ H Q ⟨F, O, env, eo, hw⟩ => te_then eo hw fun r1 env1 v1 H1 q1 e1 c1 s1 a1 => ta_then e1 q1 fun rs env2 vs H2 q2 e2 c2 s2 =>
    q2 (v1 :: vs) H2 e2 (c1.trans c2) ⟨s1.chg c2, s2.back c1⟩
theorem te_tup {es : List Expr} {ees : Es} {k : Nat} (h : PA X es (TAof X.K ees)) (hn : ∀ (σ : L2.St) (H : Hp) (Q : List V → Hp → Prop), TAof X.K ees σ H Q → TAof X.K ees σ H fun vs H' => vs.length ≤ sizeLine ∧ Q vs H') : PE X (.Tuple es k pos) (TEof X.K (.tup ees)) :=
  pe_weak (pe_tup h) fun σ H Q ⟨F, O, env, eo, hw⟩ => hn _ _ _ (ta_then eo hw fun rs env1 vs H1 q1 e1 c1 s1 => by
    obtain ⟨xs, q, hx⟩ := res_datas s1 q1
    intro p hp
    have no := e1.notO hp
    exact q _ _ (e1.grow (same_new hp)) (c1.trans (chg_new hp)) (dp_tup no hp hx) trivial)
theorem te_lst {es : List Expr} {ees : Es} (h : PA X es (TAof X.K ees)) (hn : ∀ (σ : L2.St) (H : Hp) (Q : List V → Hp → Prop), TAof X.K ees σ H Q → TAof X.K ees σ H fun vs H' => vs.length ≤ sizeLine ∧ Q vs H') : PE X (.List es pos) (TEof X.K (.lst ees)) :=
  pe_weak (pe_lst h) fun σ H Q ⟨F, O, env, eo, hw⟩ => hn _ _ _ (ta_then eo hw fun rs env1 vs H1 q1 e1 c1 s1 => by
    obtain ⟨xs, q, hx⟩ := res_datas s1 q1
    intro p hp
    exact q _ _ (e1.grow (same_new hp)) (c1.trans (chg_new hp)) (res_new e1 hp c1 hx) (avR_new e1 hp))
def lenEs : Es → Nat
  | .nil => 0
  | .cons _ es => lenEs es + 1
theorem wEs_len : ∀ {es : Es} {env : AEnv} {Q : List AV → AEnv → Prop} {X : XQ}, wEs es env Q X → wEs es env (fun rs e => rs.length = lenEs es ∧ Q rs e) X
  | .nil, _, _, _, h => ⟨rfl, h⟩
  | .cons e es, _, _, _, h => wE_mono e (fun v e1 q => wEs_mono es (fun vs e2 q => ⟨by rw [List.length_cons, q.1]; rfl, q.2⟩) (wEs_len q)) h
theorem resAll_len {K : PySem.W.Frag} {O : List Addr} {H H' : Hp} {σ : L2.St} : ∀ {vs : List V} {rs : List AV}, ResAll K O H H' σ vs rs → vs.length = rs.length
  | [], [], _ => rfl
  | _ :: _, _ :: _, h => by rw [List.length_cons, List.length_cons, resAll_len h.2]
theorem ta_len {ees : Es} (hl : lenEs ees ≤ sizeLine) (σ : L2.St) (H : Hp) (Q : List V → Hp → Prop) (h : TAof X.K ees σ H Q) : TAof X.K ees σ H fun vs H' => vs.length ≤ sizeLine ∧ Q vs H' := by
  obtain ⟨F, O, env, eo, hw⟩ := h
  refine ⟨F, O, env, eo, wEs_mono ees (fun rs e1 q vs H' e c s => ⟨?_, q.2 vs H' e c s⟩) (wEs_len hw)⟩
  rw [resAll_len s, q.1]
  exact hl
/-! ### subscripts, slices -/
theorem dps_at {K : PySem.W.Frag} {H : Hp} {vs : List V} {ds : List PyData} {i : Int} {d : PyData} (h : DpAll K H vs ds) (e : atI ds i = some d) : ∃ v, atI vs i = some v ∧ Dp K H v d := by
  unfold atI at e ⊢
  rw [dps_len h]
  cases hj : ixN ds.length i with
  | none => rw [hj] at e; cases e
  | some j => rw [hj] at e; exact dps_get h e
theorem te_ix (ha : PE X a (TEof X.K ea)) (hb : PE X b (TEof X.K eb)) (hs : PlainIx b) : PE X (.Subscript a b pos) (TEof X.K (.ix ea eb)) :=
  pe_weak (pe_ix ix_seq ha hb hs) fun σ H Q ⟨F, O, env, eo, hw⟩ => te_then eo hw fun r1 env1 v1 H1 q1 e1 c1 s1 a1 => te_then e1 q1 fun r2 env2 v2 H2 q2 e2 c2 s2 a2 => by
    obtain ⟨dx, q2, hx⟩ := res_rd e2 (s1.chg c2) q2
    obtain ⟨dy, q2, hy⟩ := res_rd e2 s2 q2
    unfold ixK at q2
    split at q2
    · split at q2
      · rename_i hz
        cases hy.int
        obtain ⟨p, vs, rfl, sq, d1⟩ := hx
        obtain ⟨v, hv, hd⟩ := dps_at d1 hz
        exact .inl ⟨p, vs, _, v, rfl, rfl, sq, hv, q2 _ _ e2 (c1.trans c2) hd trivial⟩
      · exact q2.elim
    · split at q2
      · rename_i hz
        cases hy.int
        obtain ⟨p, vs, rfl, sq, d1⟩ := hx
        obtain ⟨v, hv, hd⟩ := dps_at d1 hz
        exact .inr (.inl ⟨p, vs, _, v, rfl, rfl, sq_t wo_all sq, hv, q2 _ _ e2 (c1.trans c2) hd trivial⟩)
      · exact q2.elim
    · exact q2.elim
theorem sl_rd {K : PySem.W.Frag} {O : List Addr} {H0 H : Hp} {σ : L2.St} {env : AEnv} {x : V} {dx : PyData} {lo hi : Option Int} {Q' : AV → Prop} {Q : VK} (eo : EnvOk K F O H σ env) (hc : Chg O H0 H) (hx : RdD K O H x dx) (hq : slK dx lo hi Q')
    (k : ∀ r v H', Q' r → EnvOk K F O H' σ env → Chg O H0 H' → Res K O H0 H' σ v r → AvR K O H' σ env v r → Q v H') : rSlL K x lo hi H Q := by
  unfold slK at hq
  split at hq
  · obtain ⟨p, vs, rfl, sq, d1⟩ := hx
    refine ⟨p, vs, rfl, sq, fun z hz => ?_⟩
    refine k _ _ _ hq (eo.grow (same_new hz)) (hc.trans (chg_new hz)) (res_new eo hz hc ?_) (avR_new eo hz)
    unfold cutV cutD
    rw [dps_len d1]
    exact dps_take _ (dps_drop _ d1)
  · exact hq.elim
theorem te_slL {p2 : Pos} (ha : PE X a (TEof X.K ea)) (hb : PE X b (TEof X.K eb)) : PE X (.Subscript a (.Slice (some b) none none p2) pos) (TEof X.K (.slL ea eb)) :=
  pe_weak (pe_slice sl_list ha (po_some hb) po_none) fun σ H Q ⟨F, O, env, eo, hw⟩ => te_then eo hw fun r1 env1 v1 H1 q1 e1 c1 s1 a1 => te_then e1 q1 fun r2 env2 v2 H2 q2 e2 c2 s2 a2 => by
    split at q2
    · cases (show Dp X.K _ v2 (.int _) from s2)
      obtain ⟨dx, q2, hx⟩ := res_rd e2 (s1.chg c2) q2
      exact ⟨_, rfl, sl_rd e2 (c1.trans c2) hx q2 fun r v H' q e c s a => q v H' e c s a⟩
    · exact q2.elim
theorem te_slU {p2 : Pos} (ha : PE X a (TEof X.K ea)) (hb : PE X b (TEof X.K eb)) : PE X (.Subscript a (.Slice none (some b) none p2) pos) (TEof X.K (.slU ea eb)) :=
  pe_weak (pe_slice sl_list ha po_none (po_some hb)) fun σ H Q ⟨F, O, env, eo, hw⟩ => te_then eo hw fun r1 env1 v1 H1 q1 e1 c1 s1 a1 => te_then e1 q1 fun r2 env2 v2 H2 q2 e2 c2 s2 a2 => by
    split at q2
    · cases (show Dp X.K _ v2 (.int _) from s2)
      obtain ⟨dx, q2, hx⟩ := res_rd e2 (s1.chg c2) q2
      exact ⟨_, rfl, sl_rd e2 (c1.trans c2) hx q2 fun r v H' q e c s a => q v H' e c s a⟩
    · exact q2.elim
theorem te_slLU {p2 : Pos} (ha : PE X a (TEof X.K ea)) (hb : PE X b (TEof X.K eb)) (hc : PE X c (TEof X.K ec)) : PE X (.Subscript a (.Slice (some b) (some c) none p2) pos) (TEof X.K (.slLU ea eb ec)) :=
  pe_weak (pe_slice sl_list ha (po_some hb) (po_some hc)) fun σ H Q ⟨F, O, env, eo, hw⟩ => te_then eo hw fun r1 env1 v1 H1 q1 e1 c1 s1 a1 => te_then e1 q1 fun r2 env2 v2 H2 q2 e2 c2 s2 a2 => by
    split at q2
    · cases (show Dp X.K _ v2 (.int _) from s2)
      refine ⟨_, rfl, te_then e2 q2 fun r3 env3 v3 H3 q3 e3 c3 s3 a3 => ?_⟩
      split at q3
      · cases (show Dp X.K _ v3 (.int _) from s3)
        obtain ⟨dx, q3, hx⟩ := res_rd e3 ((s1.chg c2).chg c3) q3
        exact ⟨_, rfl, sl_rd e3 ((c1.trans c2).trans c3) hx q3 fun r v H' q e c s a => q v H' e c s a⟩
      · exact q3.elim
    · exact q2.elim
theorem te_slRev {k : Nat} {p1 p2 p3 : Pos} (ha : PE X a (TEof X.K ea)) : PE X (.Subscript a (.Slice none none (some (.UnaryOp .USub (.Constant (.int 1) k p1) p2)) p3) pos) (TEof X.K (.slRev ea)) :=
  pe_weak (pe_revL ha) fun σ H Q ⟨F, O, env, eo, hw⟩ => te_then eo hw fun r1 env1 v1 H1 q1 e1 c1 s1 a1 => by
    obtain ⟨dx, q, hx⟩ := res_rd e1 s1 q1
    split at q
    · obtain ⟨p, vs, rfl, sq, d1⟩ := hx
      refine ⟨p, vs, rfl, sq, fun z hz => ?_⟩
      exact q _ _ (e1.grow (same_new hz)) (c1.trans (chg_new hz)) (res_new e1 hz c1 (dps_rev d1)) (avR_new e1 hz)
    · exact q.elim
end
end PF

set_option maxRecDepth 100000
set_option maxHeartbeats 4000000
namespace PF
open PySem PySem.Spec PyProof.Rows L2
/-! ### a def by its promise, where nothing is being shown -/
structure FnG (P : Program) (w : World) (K : PySem.W.Frag) (mg : Str → Option Value) (base : Heap) (k : Nat) (f : Addr) (fd : FuncData) (ps : List Str) (sp : Sp) : Prop where
  len : ∀ vs H Q E, sp vs H Q E → vs.length = ps.length
  run : ∀ (A : Around) (outer : List Env) (s : Shared) (H : Hp) (args : Args) (us : List Value) (vs : List V) (Q : VK), Room k A → A.guards = some [] → Env0 P w K mg base A outer s H → BindsTo s fd args (ps.zip us) →
    Vals vs us → sp vs H Q E0 → codeAny (model P w) A (.call (.ref f) args) (CR CX0 outer P w H s Q E0) s
theorem FnG.mono {P : Program} {w : World} {K : PySem.W.Frag} {mg : Str → Option Value} {base : Heap} {j k : Nat} {f : Addr} {fd : FuncData} {ps : List Str} {sp : Sp} (F : FnG P w K mg base j f fd ps sp) (h : j ≤ k) : FnG P w K mg base k f fd ps sp :=
  ⟨F.len, fun A outer s H args us vs Q hr => F.run A outer s H args us vs Q (hr.mono h)⟩
section
variable {X : Cx} {pins : List (Addr × Obj)} {σ : L2.St} {H : Hp} {s : Shared} {k : Nat} {f : Addr} {fd : FuncData} {ps : List Str} {sp : Sp}
theorem run_g {args : Args} {us : List Value} {vs : List V} {Q : VK} (G : FnG X.prog X.w X.K X.mg X.base k f fd ps sp) (hr : Room k X.A) (hg : X.A.guards = some []) (I : Inv X pins σ H s) (hb : BindsTo s fd args (ps.zip us)) (hv : Vals vs us) (h : sp vs H Q E0) :
    codeAny (model X.prog X.w) X.A (.call (.ref f) args) (wants (EP X pins σ Q) X.xe) s := by
  refine codeAny_mono (G.run X.A X.stack s H args us vs Q hr hg I.env0 hb hv h) ?_
  intro r s' hq
  match r, hq with
  | .ok (.ret u), hq => exact I.after hq
end

/-! ### arguments as a def gets them -/
def lentA : List V → List AV → List Addr
  | .ref p :: vs, .o _ :: as => p :: lentA vs as
  | _ :: vs, _ :: as => lentA vs as
  | _, _ => []
structure ArgsOk (K : PySem.W.Frag) (O : List Addr) (H : Hp) (vs : List V) (as : List AV) : Prop where
  len : vs.length = as.length
  dat : ∀ (i : Nat) x, as[i]? = some (.d x) → ∃ v, vs[i]? = some v ∧ Dp K (Wo H O) v x
  own : ∀ (i : Nat) ds, as[i]? = some (.o ds) → ∃ p us, vs[i]? = some (.ref p) ∧ p ∈ O ∧ H p = some (.lst us) ∧ DpAll K (Wo H O) us ds
  nob : ∀ (i : Nat) j, as[i]? ≠ some (.b j)
  one : ∀ (i j : Nat) ds ds', as[i]? = some (.o ds) → as[j]? = some (.o ds') → i = j
  live : ∀ p ∈ O, H p ≠ none
/-- lists stay lists -/
def Shape (as as' : List AV) : Prop := as'.length = as.length ∧ ∀ (i : Nat) ds, as[i]? = some (.o ds) → ∃ ds', as'[i]? = some (.o ds')
def RetOk (K : PySem.W.Frag) (O : List Addr) (H H' : Hp) (v : V) : AV → Prop
  | .d x => Dp K (Wo H' O) v x
  | .o ds => ∃ p vs, v = .ref p ∧ H p = none ∧ p ∉ O ∧ H' p = some (.lst vs) ∧ DpAll K (Wo H' (p :: O)) vs ds
  | .b _ => False
/-- what was lent does not hang on the new list -/
def AvA (K : PySem.W.Frag) (O : List Addr) (H : Hp) (vs : List V) (as : List AV) (v : V) : AV → Prop
  | .o _ => ∀ p, v = .ref p → ∀ (i : Nat) ds, as[i]? = some (.o ds) → ∃ a us, vs[i]? = some (.ref a) ∧ H a = some (.lst us) ∧ DpAll K (Wo H (p :: O)) us ds
  | _ => True
def liftSp (K : PySem.W.Frag) (sp : ASp) : Sp := fun vs H Q _ => ∃ (as : List AV) (O : List Addr), ArgsOk K O H vs as ∧ sp.run as (fun r as' => ∀ v H', Shape as as' → ArgsOk K O H' vs as' → (∀ a o, H a = some o → (∀ (i : Nat) ds, as[i]? = some (.o ds) → vs[i]? ≠ some (.ref a)) → H' a = some o) → RetOk K O H H' v r → AvA K O H' vs as' v r → Q v H') (fun _ => False)
/-- a def of the module under its name -/
def CallOk (P : Program) (w : World) (K : PySem.W.Frag) (mg : Str → Option Value) (base : Heap) (k : Nat) (x : Str) (sp : ASp) : Prop :=
  ∃ f fd ps, FnG P w K mg base k f fd ps (liftSp K sp) ∧ mg x = some (.ref f) ∧ PySem.W.keepIn K (.ref f) = true ∧ Binds K fd ps []
/-- .. called by keywords -/
def CallKOk (P : Program) (w : World) (K : PySem.W.Frag) (mg : Str → Option Value) (base : Heap) (k : Nat) (x : Str) (sp : ASp) (ps ks : List Str) : Prop :=
  ∃ f fd, FnG P w K mg base k f fd ps (liftSp K sp) ∧ mg x = some (.ref f) ∧ PySem.W.keepIn K (.ref f) = true ∧
    ∀ (s : Shared) (ws : List Value), K.In s.heap → ws.length = ks.length → ∃ us, ps.mapM (fun p => (ks.zip ws).lookup p) = some us ∧ BindsTo s fd ⟨[], ks.zip ws⟩ (ps.zip us)

section
variable {K : PySem.W.Frag} {F : Fi} {O : List Addr} {H0 H H' : Hp} {σ : L2.St} {env : AEnv}
theorem lend_ok (e : EnvOk K F O H σ env) : ∀ {vs : List V} {rs : List AV} {k : List AV → Prop}, ResAll K O H0 H σ vs rs → lendK env rs k → ∃ as, k as ∧ as.length = rs.length ∧ vs.length = rs.length ∧
    (∀ (i : Nat) x, as[i]? = some (.d x) → ∃ v, vs[i]? = some v ∧ Dp K (Wo H O) v x) ∧
    (∀ (i : Nat) ds, as[i]? = some (.o ds) → ∃ p us j, vs[i]? = some (.ref p) ∧ rs[i]? = some (.b j) ∧ getE env j = some (.o ds) ∧ σ[j]? = some (some (.ref p)) ∧ p ∈ O ∧ H p = some (.lst us) ∧ DpAll K (Wo H O) us ds) ∧ (∀ (i : Nat) j, as[i]? ≠ some (.b j)) ∧ (∀ (i : Nat) j, rs[i]? = some (.b j) → ∃ ds, as[i]? = some (.o ds))
  | [], [], k, _, q => ⟨[], q, rfl, rfl, fun i x z => by simp at z, fun i x z => by simp at z, fun i x z => by simp at z, fun i x z => by simp at z⟩
  | v :: vs, r :: rs, k, h, q => by
    have next : ∀ {a : AV} {as : List AV}, (as.length = rs.length ∧ vs.length = rs.length ∧
        (∀ (i : Nat) x, as[i]? = some (.d x) → ∃ v, vs[i]? = some v ∧ Dp K (Wo H O) v x) ∧
        (∀ (i : Nat) ds, as[i]? = some (.o ds) → ∃ p us j, vs[i]? = some (.ref p) ∧ rs[i]? = some (.b j) ∧ getE env j = some (.o ds) ∧ σ[j]? = some (some (.ref p)) ∧ p ∈ O ∧ H p = some (.lst us) ∧ DpAll K (Wo H O) us ds) ∧ (∀ (i : Nat) j, as[i]? ≠ some (.b j)) ∧ (∀ (i : Nat) j, rs[i]? = some (.b j) → ∃ ds, as[i]? = some (.o ds))) →
        (∀ x, a = .d x → Dp K (Wo H O) v x) → (∀ ds, a = .o ds → ∃ p us j, v = .ref p ∧ r = .b j ∧ getE env j = some (.o ds) ∧ σ[j]? = some (some (.ref p)) ∧ p ∈ O ∧ H p = some (.lst us) ∧ DpAll K (Wo H O) us ds) → (∀ j, a ≠ .b j) → (∀ j, r = .b j → ∃ ds, a = .o ds) →
        ((a :: as).length = (r :: rs).length ∧ (v :: vs).length = (r :: rs).length ∧
        (∀ (i : Nat) x, (a :: as)[i]? = some (.d x) → ∃ w, (v :: vs)[i]? = some w ∧ Dp K (Wo H O) w x) ∧
        (∀ (i : Nat) ds, (a :: as)[i]? = some (.o ds) → ∃ p us j, (v :: vs)[i]? = some (.ref p) ∧ (r :: rs)[i]? = some (.b j) ∧ getE env j = some (.o ds) ∧ σ[j]? = some (some (.ref p)) ∧ p ∈ O ∧ H p = some (.lst us) ∧ DpAll K (Wo H O) us ds) ∧ (∀ (i : Nat) j, (a :: as)[i]? ≠ some (.b j)) ∧ (∀ (i : Nat) j, (r :: rs)[i]? = some (.b j) → ∃ ds, (a :: as)[i]? = some (.o ds))) := by
      rintro a as ⟨h1, h2, h3, h4, h5, h6⟩ g1 g2 g3 g4
      refine ⟨by simp [h1], by simp [h2], ?_, ?_, ?_, ?_⟩
      · intro i x z
        cases i with
        | zero => simp at z; exact ⟨v, rfl, g1 x z⟩
        | succ i => simpa using h3 i x (by simpa using z)
      · intro i x z
        cases i with
        | zero =>
          simp at z
          obtain ⟨p, us, j, e1, e2, e3⟩ := g2 x z
          exact ⟨p, us, j, by simp [e1], by simp [e2], e3⟩
        | succ i => simpa using h4 i x (by simpa using z)
      · intro i j z
        cases i with
        | zero => simp at z; exact g3 j z
        | succ i => exact h5 i j (by simpa using z)
      · intro i j z
        cases i with
        | zero =>
          simp at z
          obtain ⟨ds, e⟩ := g4 j z
          exact ⟨ds, by simp [e]⟩
        | succ i => simpa using h6 i j (by simpa using z)
    cases r with
    | d x =>
      obtain ⟨as, q, hh⟩ := lend_ok e h.2 q
      exact ⟨.d x :: as, q, next hh (fun y z => by cases z; exact h.1) (fun y z => by cases z) (fun j z => by cases z) (fun j z => by cases z)⟩
    | o ds =>
      obtain ⟨as, q, hh⟩ := lend_ok e h.2 q
      obtain ⟨y, hy, dd⟩ := res_data (k := fun y => y = .list ds) h.1 rfl
      subst hy
      exact ⟨.d (.list ds) :: as, q, next hh (fun y z => by cases z; exact dd) (fun y z => by cases z) (fun j z => by cases z) (fun j z => by cases z)⟩
    | b j =>
      unfold lendK at q
      split at q
      · rename_i ds hg
        obtain ⟨as, q, hh⟩ := lend_ok e h.2 q
        obtain ⟨p, rfl, hs⟩ := h.1
        obtain ⟨p', us, e1, e2, e3, e4⟩ := e.own j ds hg
        rw [hs] at e1; cases e1
        exact ⟨.o ds :: as, q, next hh (fun y z => by cases z) (fun y z => by cases z; exact ⟨p, us, j, rfl, rfl, hg, hs, e2, e3, e4⟩) (fun j z => by cases z) (fun j z => ⟨ds, rfl⟩)⟩
      · exact q.elim
theorem lent_one : ∀ {rs : List AV}, (lent rs).length ≤ 1 → ∀ (i j : Nat) a b, rs[i]? = some (.b a) → rs[j]? = some (.b b) → i = j
  | [], _, i, j, a, b, h1, _ => by simp at h1
  | r :: rs, h, i, j, a, b, h1, h2 => by
    have nob : ∀ {l : List AV} {m x : Nat}, (lent l).length = 0 → l[m]? = some (.b x) → False := by
      intro l
      induction l with
      | nil => intro m x _ z; simp at z
      | cons y l ih =>
        intro m x hl z
        cases m with
        | zero => simp at z; subst z; simp [lent] at hl
        | succ m =>
          refine ih (m := m) (x := x) ?_ (by simpa using z)
          cases y <;> simp [lent] at hl ⊢ <;> exact hl
    cases i with
    | zero =>
      cases j with
      | zero => rfl
      | succ j =>
        simp at h1
        subst h1
        simp [lent] at h
        exact (nob (l := rs) (m := j) (x := b) (by simp [h]) (by simpa using h2)).elim
    | succ i =>
      cases j with
      | zero =>
        simp at h2
        subst h2
        simp [lent] at h
        exact (nob (l := rs) (m := i) (x := a) (by simp [h]) (by simpa using h1)).elim
      | succ j =>
        have : i = j := lent_one (rs := rs) (by cases r <;> simp [lent] at h ⊢ <;> first | exact h | simp [h]) i j a b (by simpa using h1) (by simpa using h2)
        rw [this]
theorem backL_no : ∀ {rs as : List AV} {env : AEnv}, (∀ (i : Nat) j, rs[i]? ≠ some (.b j)) → backL env rs as = env
  | [], as, env, _ => by cases as <;> rfl
  | r :: rs, [], env, _ => by cases r <;> rfl
  | r :: rs, a :: as, env, h => by
    have ih : backL env rs as = env := backL_no fun i j z => h (i + 1) j (by simpa using z)
    cases r with
    | b j => exact (h 0 j rfl).elim
    | d x => exact ih
    | o x => exact ih
theorem backL_one : ∀ {rs as : List AV} {env : AEnv} {i j : Nat} {ds : List PyData}, rs[i]? = some (.b j) → (∀ (m : Nat) n, rs[m]? = some (.b n) → m = i) → as[i]? = some (.o ds) → backL env rs as = setE env j (some (.o ds))
  | [], _, _, i, _, _, h, _, _ => by simp at h
  | _ :: _, [], _, i, _, _, _, _, h => by simp at h
  | r :: rs, a :: as, env, 0, j, ds, h1, h2, h3 => by
    simp at h1 h3
    subst h1; subst h3
    show backL (setE env j (some (.o ds))) rs as = _
    exact backL_no fun m n z => by have := h2 (m + 1) n (by simpa using z); omega
  | r :: rs, a :: as, env, i + 1, j, ds, h1, h2, h3 => by
    have hr : ∀ n, r ≠ .b n := fun n z => by have := h2 0 n (by simp [z]); omega
    have ih := backL_one (rs := rs) (as := as) (env := env) (i := i) (j := j) (ds := ds) (by simpa using h1) (fun m n z => by have := h2 (m + 1) n (by simpa using z); omega) (by simpa using h3)
    cases r with
    | b n => exact (hr n rfl).elim
    | d x => exact ih
    | o x => exact ih
theorem retOk_res {v : V} {r : AV} (h : RetOk K O H H' v r) : Res K O H H' σ v r := by
  cases r with
  | d x => exact h
  | o ds => exact h
  | b j => exact h.elim
/-- a call seen from the caller -/
theorem call_lift {sp : ASp} {vs : List V} {rs : List AV} {Q : AV → AEnv → Prop} {Qv : VK} (e : EnvOk K F O H σ env) (c : Chg O H0 H) (hr : ResAll K O H0 H σ vs rs) (hq : callK sp rs env Q X0)
    (k : ∀ r env' v H', Q r env' → EnvOk K F O H' σ env' → Chg O H0 H' → Res K O H0 H' σ v r → AvR K O H' σ env' v r → Qv v H') : liftSp K sp vs H Qv E0 := by
  obtain ⟨h1, hq⟩ := hq
  obtain ⟨as, hq, l1, l2, hd, ho, hb, hbo⟩ := lend_ok e hr hq
  have one := lent_one h1
  refine ⟨as, O, ⟨by omega, hd, fun i ds z => ?_, hb, fun i j ds ds' z1 z2 => ?_, e.live⟩, sp.mono _ _ _ _ _ (fun r as' hq v H' sh ao fr ro aa => ?_) (fun c z => z) hq⟩
  · obtain ⟨p, us, j, a1, a2, a3, a4, a5, a6, a7⟩ := ho i ds z
    exact ⟨p, us, a1, a5, a6, a7⟩
  · obtain ⟨_, _, m, _, b1, _⟩ := ho i ds z1
    obtain ⟨_, _, n, _, b2, _⟩ := ho j ds' z2
    exact one i j m n b1 b2
  · have cH : Chg O H H' := fun a o z no => fr a o z fun i ds z1 z2 => by
      obtain ⟨p, us, j, a1, a2, a3, a4, a5, _⟩ := ho i ds z1
      rw [a1] at z2; cases z2
      exact no a5
    have nop : ∀ p, r ≠ .d .none → (∃ ds, r = .o ds) → v = .ref p → H p = none ∧ p ∉ O := fun p _ ⟨ds, hr⟩ hv => by
      subst hr; subst hv
      obtain ⟨p', us, e1, e2, e3, _⟩ := ro
      cases e1
      exact ⟨e2, e3⟩
    have sm : ∀ p, H p = none → Same (Wo H O) (Wo H' (p :: O)) := fun p hp a o z => by
      obtain ⟨n, z⟩ := wo_some z
      have ne := ne_of_none z hp
      rw [wo_out (by simp only [List.mem_cons, not_or]; exact ⟨ne, n⟩)]
      exact cH a o z n
    have avD : ∀ p, H p = none → ∀ j x, getE env j = some (.d x) → ∃ v, σ[j]? = some (some v) ∧ Dp K (Wo H' (p :: O)) v x := fun p hp j x h => by
      obtain ⟨w, h1, h2⟩ := e.dat j x h
      exact ⟨w, h1, dp_mono (sm p hp) h2⟩
    by_cases hn : ∃ (i : Nat) (j : Nat), rs[i]? = some (.b j)
    · obtain ⟨i, j, hij⟩ := hn
      obtain ⟨ds, hds⟩ := hbo i j hij
      obtain ⟨p, us, j', a1, a2, a3, a4, a5, a6, a7⟩ := ho i ds hds
      rw [hij] at a2; cases a2
      obtain ⟨ds', hds'⟩ := sh.2 i ds hds
      rw [backL_one hij (fun m n z => one m i n j z hij) hds'] at hq
      obtain ⟨p', us', b1, b2, b3, b4⟩ := ao.own i ds' hds'
      rw [a1] at b1; cases b1
      have frp : ∀ a o, H a = some o → a ≠ p → H' a = some o := fun a o z ne => fr a o z fun i' ds'' z1 z2 => by
        obtain ⟨q, _, n, c1, c2, _⟩ := ho i' ds'' z1
        have : i' = i := one i' i n j c2 hij
        subst this
        rw [a1] at z2; cases z2
        exact ne rfl
      refine k r _ v H' hq (e.put a3 a4 cH frp b3 b4) (c.trans cH) (retOk_res (σ := σ) ro |>.back c) ?_
      cases r with
      | d x => trivial
      | b j => trivial
      | o xs =>
        intro q hv
        obtain ⟨hqn, _⟩ := nop q (by intro z; cases z) ⟨xs, rfl⟩ hv
        have hj := getE_len a3
        refine ⟨fun m x h => ?_, fun m ys h => ?_⟩
        · by_cases hm : m = j
          · subst hm; rw [get_set_same hj] at h; cases h
          · rw [get_set_ne hm] at h; exact avD q hqn m x h
        · by_cases hm : m = j
          · subst hm
            rw [get_set_same hj] at h; cases h
            obtain ⟨a, us2, d1, d2, d3⟩ := aa q hv i ds' hds'
            rw [a1] at d1; cases d1
            exact ⟨p, us2, a4, a5, d2, d3⟩
          · rw [get_set_ne hm] at h
            obtain ⟨a, us2, d1, d2, d3, d4⟩ := e.own m ys h
            have ne : a ≠ p := fun z => by subst z; exact hm (e.inj m j _ _ _ h a3 d1 a4)
            exact ⟨a, us2, d1, d2, frp _ _ d3 ne, dps_mono (sm q hqn) d4⟩
    · have hno : ∀ (i : Nat) j, rs[i]? ≠ some (.b j) := fun i j z => hn ⟨i, j, z⟩
      rw [backL_no hno] at hq
      have sa : Same H H' := fun a o z => fr a o z fun i ds z1 => by
        obtain ⟨_, _, j, _, b1, _⟩ := ho i ds z1
        exact (hno i j b1).elim
      refine k r _ v H' hq (e.grow sa) (c.trans cH) (retOk_res (σ := σ) ro |>.back c) ?_
      cases r with
      | d x => trivial
      | b j => trivial
      | o xs =>
        intro q hv
        obtain ⟨hqn, _⟩ := nop q (by intro z; cases z) ⟨xs, rfl⟩ hv
        refine ⟨avD q hqn, fun m ys h => ?_⟩
        obtain ⟨a, us2, d1, d2, d3, d4⟩ := e.own m ys h
        exact ⟨a, us2, d1, d2, sa _ _ d3, dps_mono (sm q hqn) d4⟩
end

section
variable {X : Cx} {F : Fi} {x : Str} {sp : ASp} {k : Nat} {p pos : Pos} {es : List Expr} {ees : Es}
theorem te_call (C : CallOk X.prog X.w X.K X.mg X.base k x sp) (hr : Room k X.A) (hgd : X.A.guards = some []) (hg : Gl X x) (hdb : (x == ("__debug__" : Str)) = false) {e : Expr} (ha : PA X (e :: es) (TAof X.K ees))
    (he : starEach (e :: es) X.env = (false, eval e X.env) :: starEach es X.env) (hpl : (backTo pos (starEach es X.env)).any (·.1) = false) : PE X (.Call (.Name x p) (e :: es) [] pos) (TEof X.K (.call x sp ees)) := by
  obtain ⟨f, fd, ps, G, hm, hk, hb⟩ := C
  refine ⟨fun pins s σ H Q I h => ?_⟩
  obtain ⟨F, O, env, eo, hw⟩ := h
  refine wpAny_Call_Name_kw (ld_glob I hg hm ?_ hdb)
  refine PySem.W.callWith_K (h₀ := X.base) I.ok.mod.kin hk ?_ he hpl
  refine thn (ha.run pos pins s σ H (fun vs H1 => liftSp X.K sp vs H1 Q E0) I (ta_then eo hw fun rs env1 vs H1 q1 e1 c1 s1 => call_lift e1 c1 s1 q1 fun r env' v H' q e c s a => q v H' e c s a)) ?_
  rintro us s1 ⟨vs, H1, I1, rv, q⟩
  have hl : (us ++ []).length = ps.length := by rw [List.append_nil, ← rv.length]; exact G.len _ _ _ _ q
  have hb' := hb s1 us I1.kIn hl
  rw [List.append_nil] at hb'
  exact ⟨I1.kIn, wpAny_call (run_g G hr hgd I1 hb' rv q)⟩
theorem te_call0 (C : CallOk X.prog X.w X.K X.mg X.base k x sp) (hr : Room k X.A) (hgd : X.A.guards = some []) (hg : Gl X x) (hdb : (x == ("__debug__" : Str)) = false) : PE X (.Call (.Name x p) [] [] pos) (TEof X.K (.call x sp .nil)) := by
  obtain ⟨f, fd, ps, G, hm, hk, hb⟩ := C
  refine ⟨fun pins s σ H Q I h => ?_⟩
  obtain ⟨F, O, env, eo, hw⟩ := h
  refine wpAny_Call_Name_kw (ld_glob I hg hm ?_ hdb)
  simp only [wE, wEs] at hw
  have q : liftSp X.K sp [] H Q E0 := call_lift (vs := []) (rs := []) eo .refl trivial hw fun r env' v H' q e c s a => q v H' e c s a
  have hl : (([] : List Value) ++ []).length = ps.length := G.len _ _ _ _ q
  have hb' := hb s [] I.kIn hl
  exact PySem.W.callWith_K0 I.kIn hk (wpAny_call (run_g G hr hgd I hb' .nil q))
theorem EnvOk.fresh0 {K : PySem.W.Frag} {F : Fi} {O : List Addr} {H : Hp} {σ : L2.St} {env : AEnv} (e : EnvOk K F O H σ env) {p : Addr} (h : H p = none) : F.H0 p = none := by
  cases q : F.H0 p with
  | none => rfl
  | some o =>
    by_cases hl : F.lent p
    · obtain ⟨i, hi⟩ := hl
      obtain ⟨h1, ds, h2⟩ := e.par i p hi
      obtain ⟨p', vs, g1, g2, g3, _⟩ := e.own i ds h2
      rw [h1] at g1; cases g1
      rw [h] at g3; cases g3
    · rw [e.keep p o q hl] at h; cases h

/-- a new list is handed over -/
theorem callO_lift {K : PySem.W.Frag} {F : Fi} {O : List Addr} {H0 H : Hp} {σ : L2.St} {env env0 : AEnv} {sp : ASp} {v : V} {ds : List PyData} {Q : AV → AEnv → Prop} {Qv : VK} (e0 : EnvOk K F O H0 σ env0) (e : EnvOk K F O H σ env) (c : Chg O H0 H) (hr : Res K O H0 H σ v (.o ds)) (ha : AvR K O H σ env v (.o ds))
    (hq : sp.run [.o ds] (fun r _ => match r with | .d x => Q (.d x) env | _ => False) (fun _ => False)) (k : ∀ x v' H', Q (.d x) env → EnvOk K F O H' σ env → Chg O H0 H' → Dp K (Wo H' O) v' x → Qv v' H') : liftSp K sp [v] H Qv E0 := by
  obtain ⟨p, us, rfl, n, no, hp, hd⟩ := hr
  have av := ha p rfl
  have nF := e0.fresh0 n
  refine ⟨[.o ds], p :: O, ⟨rfl, fun i x z => ?_, fun i x z => ?_, fun i x z => ?_, fun i j x y z1 z2 => ?_, fun q hq => ?_⟩, sp.mono _ _ _ _ _ (fun r as' q v' H' sh ao fr ro aa => ?_) (fun _ z => z) hq⟩
  · match i, z with
    | 0, z => cases z
    | i + 1, z => simp at z
  · match i, z with
    | 0, z =>
      cases z
      exact ⟨p, us, rfl, List.mem_cons_self, hp, hd⟩
    | i + 1, z => simp at z
  · match i, z with
    | 0, z => cases z
    | i + 1, z => simp at z
  · match i, j, z1, z2 with
    | 0, 0, _, _ => rfl
    | i + 1, _, z1, _ => simp at z1
    | 0, j + 1, _, z2 => simp at z2
  · rcases List.mem_cons.mp hq with h | h
    · rw [h, hp]; intro z; cases z
    · exact e.live q h
  · have frp : ∀ a o, H a = some o → a ≠ p → H' a = some o := fun a o z ne => fr a o z fun i x z1 z2 => by
      match i, z1, z2 with
      | 0, _, z2 => cases z2; exact ne rfl
      | i + 1, z1, _ => simp at z1
    have sm : Same (Wo H (p :: O)) (Wo H' O) := fun a o z => by
      obtain ⟨m, z⟩ := wo_some z
      simp only [List.mem_cons, not_or] at m
      rw [wo_out m.2]
      exact frp a o z m.1
    match r, q, ro with
    | .d x, q, ro =>
      refine k x v' H' q ⟨e.len, fun j y h => ?_, fun j ys h => ?_, e.nob, e.inj, fun q hq => ?_, e.sub, e.new, fun a o h l => ?_, e.ownF, e.par⟩ (fun a o z m => ?_) (dp_mono (wo_sub fun z hz => List.mem_cons_of_mem _ hz) ro)
      · obtain ⟨w, h1, h2⟩ := av.dat j y h
        exact ⟨w, h1, dp_mono sm h2⟩
      · obtain ⟨a, vs, h1, h2, h3, h4⟩ := av.own j ys h
        exact ⟨a, vs, h1, h2, frp a _ h3 (fun z => no (z ▸ h2)), dps_mono sm h4⟩
      · have l := e.live q hq
        cases z : H q with
        | none => exact (l z).elim
        | some o =>
          rw [frp q o z (fun y => no (y ▸ hq))]
          intro y; cases y
      · exact frp a o (e.keep a o h l) (ne_of_none h nF)
      · exact frp a o (c a o z m) (ne_of_none z n)
    | .o _, q, _ => exact q.elim
    | .b _, q, _ => exact q.elim
theorem te_callO (C : CallOk X.prog X.w X.K X.mg X.base k x sp) (hr : Room k X.A) (hgd : X.A.guards = some []) (hg : Gl X x) (hdb : (x == ("__debug__" : Str)) = false) {e : Expr} {ea : E} (ha : PE X e (TEof X.K ea))
    (he : starEach [e] X.env = (false, eval e X.env) :: starEach [] X.env) : PE X (.Call (.Name x p) [e] [] pos) (TEof X.K (.callO x sp ea)) := by
  obtain ⟨f, fd, ps, G, hm, hk, hb⟩ := C
  refine ⟨fun pins s σ H Q I h => ?_⟩
  obtain ⟨F, O, env, eo, hw⟩ := h
  refine wpAny_Call_Name_kw (ld_glob I hg hm ?_ hdb)
  refine PySem.W.callWith_K (h₀ := X.base) I.ok.mod.kin hk ?_ he rfl
  have pa : PA X [e] (tCons (TEof X.K ea) tNil) := pa_cons ha pa_nil he
  refine thn (pa.run pos pins s σ H (fun vs H1 => liftSp X.K sp vs H1 Q E0) I (te_then eo hw fun r env1 v H1 q1 e1 c1 s1 a1 => ?_)) ?_
  · match r, q1, s1, a1 with
    | .o ds, q1, s1, a1 => exact callO_lift (Q := fun r env' => ∀ v' H', EnvOk X.K F O H' σ env' → Chg O H H' → Res X.K O H H' σ v' r → AvR X.K O H' σ env' v' r → Q v' H') eo e1 c1 s1 a1 q1 fun x v' H' q e c s => q v' H' e c s trivial
  rintro us s1 ⟨vs, H1, I1, rv, q⟩
  have hl : (us ++ []).length = ps.length := by rw [List.append_nil, ← rv.length]; exact G.len _ _ _ _ q
  have hb' := hb s1 us I1.kIn hl
  rw [List.append_nil] at hb'
  exact ⟨I1.kIn, wpAny_call (run_g G hr hgd I1 hb' rv q)⟩
/-! ### keywords -/
theorem tk_nil : PK X [] (TAof X.K .nil) := ⟨fun pos pins s σ H Q I h => by
  obtain ⟨F, O, env, eo, hw⟩ := h
  exact (pk_nil (X := X)).run pos pins s σ H Q I (hw [] H eo .refl trivial)⟩
theorem tk_cons {nm : Option Str} {e : Expr} {kpos : Pos} {kws : List Keyword} {ea : E} (ha : PE X e (TEof X.K ea)) (hr : PK X kws (TAof X.K ees)) : PK X (⟨nm, e, kpos⟩ :: kws) (TAof X.K (.cons ea ees)) := ⟨fun pos pins s σ H Q I h => by
  obtain ⟨F, O, env, eo, hw⟩ := h
  refine (pk_cons ha hr).run pos pins s σ H Q I (te_then eo hw fun r1 env1 v1 H1 q1 e1 c1 s1 a1 => ta_then e1 q1 fun rs env2 vs H2 q2 e2 c2 s2 => ?_)
  exact q2 (v1 :: vs) H2 e2 (c1.trans c2) ⟨s1.chg c2, s2.back c1⟩⟩
theorem lookup_res {K : PySem.W.Frag} {O : List Addr} {H H' : Hp} {σ : L2.St} {p : Str} : ∀ {ks : List Str} {vs : List V} {rs : List AV} {us : List Value} {r : AV}, ResAll K O H H' σ vs rs → Vals vs us → (ks.zip rs).lookup p = some r →
    ∃ v u, (ks.zip vs).lookup p = some v ∧ (ks.zip us).lookup p = some u ∧ RelV v u ∧ Res K O H H' σ v r
  | [], _, _, _, _, _, _, h => by simp at h
  | _ :: _, [], [], _, _, _, _, h => by simp at h
  | k :: ks, v :: vs, r0 :: rs, _, r, hr, .cons rv hv, h => by
    simp only [List.zip_cons_cons, List.lookup_cons] at h ⊢
    cases hb : p == k with
    | true =>
      rw [hb] at h
      cases h
      exact ⟨v, _, rfl, rfl, rv, hr.1⟩
    | false =>
      rw [hb] at h
      exact lookup_res hr.2 hv h
theorem mapM_res {K : PySem.W.Frag} {O : List Addr} {H H' : Hp} {σ : L2.St} {ks : List Str} {vs : List V} {rs : List AV} {us : List Value} (hr : ResAll K O H H' σ vs rs) (hv : Vals vs us) : ∀ {ps : List Str} {as : List AV} {ws : List Value}, ps.mapM (fun p => (ks.zip rs).lookup p) = some as → ps.mapM (fun p => (ks.zip us).lookup p) = some ws →
    ∃ zs, Vals zs ws ∧ ResAll K O H H' σ zs as
  | [], as, ws, h1, h2 => by
    simp at h1 h2
    subst h1; subst h2
    exact ⟨[], .nil, trivial⟩
  | p :: ps, as, ws, h1, h2 => by
    simp only [List.mapM_cons, Option.bind_eq_bind, Option.bind_eq_some_iff] at h1 h2
    obtain ⟨a, ha, as', has, e1⟩ := h1
    obtain ⟨w, hw, ws', hws, e2⟩ := h2
    have e1 : a :: as' = as := Option.some.inj e1
    have e2 : w :: ws' = ws := Option.some.inj e2
    subst e1; subst e2
    obtain ⟨v, u, g1, g2, g3, g4⟩ := lookup_res hr hv ha
    rw [hw] at g2; cases g2
    obtain ⟨zs, z1, z2⟩ := mapM_res hr hv has hws
    exact ⟨v :: zs, .cons g3 z1, g4, z2⟩
theorem te_callK {ps ks : List Str} {kws : List Keyword} (C : CallKOk X.prog X.w X.K X.mg X.base k x sp ps ks) (hr : Room k X.A) (hgd : X.A.guards = some []) (hg : Gl X x) (hdb : (x == ("__debug__" : Str)) = false) (ha : PK X kws (TAof X.K ees)) (hlen : lenEs ees = ks.length)
    (hall : (backToKw pos (keywordEach kws X.env)).all (·.1.isSome) = true) (hks : (backToKw pos (keywordEach kws X.env)).filterMap (·.1) = ks) (hpl : ((backTo pos (starEach [] X.env)).any (·.1) || (backToKw pos (keywordEach kws X.env)).any (·.1.isNone)) = false) :
    PE X (.Call (.Name x p) [] kws pos) (TEof X.K (.callK x sp ps ks ees)) := by
  obtain ⟨f, fd, G, hm, hk, hb⟩ := C
  refine ⟨fun pins s σ H Q I h => ?_⟩
  obtain ⟨F, O, env, eo, hw⟩ := h
  refine wpAny_Call_Name_kw (ld_glob I hg hm ?_ hdb)
  refine PySem.W.callWith_KW0 (h₀ := X.base) I.ok.mod.kin hk hall ?_ hpl
  rw [hks]
  unfold wE at hw
  refine thn (ha.run pos pins s σ H (fun vs H1 => ∃ rs env1, rs.length = ks.length ∧ ResAll X.K O H H1 σ vs rs ∧ EnvOk X.K F O H1 σ env1 ∧ Chg O H H1 ∧ ∃ as, reorder ps ks rs = some as ∧ callK sp as env1 (fun r env' => ∀ v H', EnvOk X.K F O H' σ env' → Chg O H H' → Res X.K O H H' σ v r → AvR X.K O H' σ env' v r → Q v H') X0) I ?_) ?_
  · refine ta_then eo (wEs_len hw) fun rs env1 vs H1 q1 e1 c1 s1 => ?_
    obtain ⟨q0, q1⟩ := q1
    refine ⟨rs, env1, q0.trans hlen, s1, e1, c1, ?_⟩
    split at q1
    · rename_i as has
      exact ⟨as, has, q1⟩
    · exact q1.elim
  · rintro us s1 ⟨vs, H1, I1, rv, rs, env1, hl, hs, e1, c1, as, has, q⟩
    obtain ⟨ws, hws, hbt⟩ := hb s1 us I1.kIn (by rw [← rv.length, resAll_len hs]; exact hl)
    obtain ⟨zs, hz, hzr⟩ := mapM_res hs rv has hws
    have q2 : liftSp X.K sp zs H1 Q E0 := call_lift e1 c1 hzr q fun r env' v H' q e c s a => q v H' e c s a
    exact ⟨I1.kIn, wpAny_call (run_g G hr hgd I1 hbt hz q2)⟩
end
section
variable {X : Cx} {F : Fi} {p pos : Pos} {es : List Expr} {ees : Es}
/-! ### built-ins -/
def biName : BI → Str
  | .len => "len" | .abs => "abs" | .max2 => "max" | .min2 => "min" | .int => "int" | .sum => "sum" | .any => "any" | .all => "all" | .min1 => "min" | .max1 => "max"
  | .list => "list" | .tuple => "tuple" | .sorted => "sorted" | .repr => "repr" | .bool => "bool"
theorem ints_vals {K : PySem.W.Frag} {H : Hp} : ∀ {vs : List V} {xs : List PyData} {ns : List Int}, DpAll K H vs xs → intsOf xs = some ns → vs = ns.map V.int
  | _, _, ns, .nil, e => by cases e; rfl
  | _, _, ns, .cons (d := .int i) h t, e => by
    cases h
    simp only [intsOf, Option.map_eq_some_iff] at e
    obtain ⟨ms, e1, rfl⟩ := e
    rw [ints_vals t e1]
    rfl
  | _, _, ns, .cons (d := .none) h t, e => by cases e
  | _, _, ns, .cons (d := .bool _) h t, e => by cases e
  | _, _, ns, .cons (d := .str _) h t, e => by cases e
  | _, _, ns, .cons (d := .list _) h t, e => by cases e
  | _, _, ns, .cons (d := .tuple _) h t, e => by cases e
  | _, _, ns, .cons (d := .dict _) h t, e => by cases e
theorem bools_vals {K : PySem.W.Frag} {H : Hp} : ∀ {vs : List V} {xs : List PyData} {ns : List Bool}, DpAll K H vs xs → boolsOf xs = some ns → vs = ns.map V.bl
  | _, _, ns, .nil, e => by cases e; rfl
  | _, _, ns, .cons (d := .bool i) h t, e => by
    cases h
    simp only [boolsOf, Option.map_eq_some_iff] at e
    obtain ⟨ms, e1, rfl⟩ := e
    rw [bools_vals t e1]
    rfl
  | _, _, ns, .cons (d := .none) h t, e => by cases e
  | _, _, ns, .cons (d := .int _) h t, e => by cases e
  | _, _, ns, .cons (d := .str _) h t, e => by cases e
  | _, _, ns, .cons (d := .list _) h t, e => by cases e
  | _, _, ns, .cons (d := .tuple _) h t, e => by cases e
  | _, _, ns, .cons (d := .dict _) h t, e => by cases e
theorem dps_ints {K : PySem.W.Frag} {H : Hp} : ∀ ns : List Int, DpAll K H (ns.map V.int) (ns.map PyData.int)
  | [] => .nil
  | n :: ns => .cons (.int n) (dps_ints ns)
/-- repr of data -/
def rRepr (K : PySem.W.Frag) : List V → Hp → VK → Prop := fun vs H Q => ∃ v x, vs = [v] ∧ Dp K H v x ∧ x.showable = true ∧ x.hasDict = false ∧ x.shown.length ≤ sizeLine ∧ x.depth ≤ 64 ∧ Q (.str x.shown) H
theorem cr_repr (hgd : X.A.guards = some []) (hu : X.A.units + 70 < cLine) : CallR X (.builtin "repr") (rRepr X.K) := by
  intro pins s σ H vs us Q I r h
  obtain ⟨v, x, rfl, hd, h1, h2, h3, h4, q⟩ := h
  obtain ⟨u, rfl, ru⟩ := r.one
  obtain ⟨as, hr⟩ := Dp.reads I x v u hd ru
  cases hd with
  | lst _ _ =>
    cases ru
    exact repr_of_reads' hr h1 (fun z => by rw [h2] at z; cases z) hgd (by omega) (fun _ _ e => e) (fun h' u tk hk => ⟨.str _, H, I.kept hk, ⟨_, rfl⟩, q⟩) h3
  | tup _ _ =>
    cases ru
    exact repr_of_reads' hr h1 (fun z => by rw [h2] at z; cases z) hgd (by omega) (fun _ _ e => e) (fun h' u tk hk => ⟨.str _, H, I.kept hk, ⟨_, rfl⟩, q⟩) h3
  | int i =>
    obtain ⟨t, rfl⟩ := ru
    exact PySem.P.repr_of_int (by simpa [PyData.showable] using h1) ⟨.str _, H, I.tok _, ⟨_, rfl⟩, q⟩
  | non =>
    cases ru
    exact PySem.P.repr_of_none ⟨.str _, H, I.tok _, ⟨_, rfl⟩, q⟩
  | bl b =>
    cases ru
    exact PySem.P.repr_of_bool ⟨.str _, H, I.tok _, ⟨_, rfl⟩, q⟩
  | str z =>
    obtain ⟨t, rfl⟩ := ru
    exact PySem.P.repr_of_str ⟨.str _, H, I.tok _, ⟨_, rfl⟩, q⟩ h3
/-- from data to a built-in's wish by values -/
def BiImp (K : PySem.W.Frag) (f : BI) (r : List V → Hp → VK → Prop) : Prop := ∀ (F : Fi) (O : List Addr) (H0 H : Hp) (σ : L2.St) (env : AEnv) (vs : List V) (xs : List PyData) (Q' : AV → Prop) (Q : VK), EnvOk K F O H σ env → Chg O H0 H → vs.length = xs.length →
  (∀ (i : Nat) (v : V) (x : PyData), vs[i]? = some v → xs[i]? = some x → RdD K O H v x) → biK f xs Q' → (∀ r v H', Q' r → EnvOk K F O H' σ env → Chg O H0 H' → Res K O H0 H' σ v r → AvR K O H' σ env v r → Q v H') → r vs H Q
theorem bi_arg {K : PySem.W.Frag} {f : BI} {r : List V → Hp → VK → Prop} (imp : BiImp K f r) {σ : L2.St} {H : Hp} {Q : VK} (h : TEof K (.bi f ees) σ H Q) : tCB r (TAof K ees) σ H Q := by
  obtain ⟨F, O, env, eo, hw⟩ := h
  refine ta_then eo hw fun rs env1 vs H1 q1 e1 c1 s1 => ?_
  obtain ⟨xs, q, hl, hx⟩ := res_rds e1 s1 q1
  exact imp F O H H1 σ env1 vs xs _ Q e1 c1 hl hx q fun r v H' q e c s a => q v H' e c s a
theorem one_arg {K : PySem.W.Frag} {O : List Addr} {H : Hp} {vs : List V} {x : PyData} (hl : vs.length = [x].length) (h : ∀ (i : Nat) (v : V) (y : PyData), vs[i]? = some v → [x][i]? = some y → RdD K O H v y) : ∃ v, vs = [v] ∧ RdD K O H v x := by
  match vs, hl with
  | [v], _ => exact ⟨v, rfl, h 0 v x rfl rfl⟩
theorem two_arg {K : PySem.W.Frag} {O : List Addr} {H : Hp} {vs : List V} {x x2 : PyData} (hl : vs.length = [x, x2].length) (h : ∀ (i : Nat) (v : V) (y : PyData), vs[i]? = some v → [x, x2][i]? = some y → RdD K O H v y) : ∃ v v2, vs = [v, v2] ∧ RdD K O H v x ∧ RdD K O H v2 x2 := by
  match vs, hl with
  | [v, v2], _ => exact ⟨v, v2, rfl, h 0 v x rfl rfl, h 1 v2 x2 rfl rfl⟩
theorem imp_len {K : PySem.W.Frag} : BiImp K .len (fun xs H Q => ∃ x n, xs = [x] ∧ LenV K x H n ∧ Q (.int n) H) := by
  intro F O H0 H σ env vs xs Q' Q eo hc hl hx hq k
  unfold biK at hq
  split at hq <;> try (exact hq.elim) <;> try contradiction
  all_goals first
    | contradiction
    | (obtain ⟨v, rfl, p, us, rfl, s1, d1⟩ := one_arg hl hx
       first
         | exact ⟨_, _, rfl, .inl ⟨us, s1, rfl⟩, by rw [dps_len d1]; exact k _ _ _ hq eo hc (.int _) trivial⟩
         | exact ⟨_, _, rfl, .inr ⟨us, sq_t wo_all s1, rfl⟩, by rw [dps_len d1]; exact k _ _ _ hq eo hc (.int _) trivial⟩)
    | exact hq.elim
theorem imp_abs {K : PySem.W.Frag} : BiImp K .abs (fun xs H Q => ∃ i, xs = [.int i] ∧ Q (.int (if i < 0 then -i else i)) H) := by
  intro F O H0 H σ env vs xs Q' Q eo hc hl hx hq k
  match xs, hq with
  | [.int i], hq =>
    obtain ⟨v, rfl, h⟩ := one_arg hl hx
    cases h.int
    exact ⟨i, rfl, k _ _ _ hq eo hc (.int _) trivial⟩
theorem imp_max2 {K : PySem.W.Frag} : BiImp K .max2 (fun xs H Q => ∃ i j, xs = [.int i, .int j] ∧ Q (.int (if j > i then j else i)) H) := by
  intro F O H0 H σ env vs xs Q' Q eo hc hl hx hq k
  match xs, hq with
  | [.int i, .int j], hq =>
    obtain ⟨v, v2, rfl, h, h2⟩ := two_arg hl hx
    cases h.int; cases h2.int
    exact ⟨i, j, rfl, k _ _ _ hq eo hc (.int _) trivial⟩
theorem imp_min2 {K : PySem.W.Frag} : BiImp K .min2 (fun xs H Q => ∃ i j, xs = [.int i, .int j] ∧ Q (.int (if j < i then j else i)) H) := by
  intro F O H0 H σ env vs xs Q' Q eo hc hl hx hq k
  match xs, hq with
  | [.int i, .int j], hq =>
    obtain ⟨v, v2, rfl, h, h2⟩ := two_arg hl hx
    cases h.int; cases h2.int
    exact ⟨i, j, rfl, k _ _ _ hq eo hc (.int _) trivial⟩
theorem imp_int {K : PySem.W.Frag} : BiImp K .int (fun xs H Q => (∃ i, xs = [.int i] ∧ Q (.int i) H) ∨ ∃ k, xs = [.bl k] ∧ Q (.int (if k then 1 else 0)) H) := by
  intro F O H0 H σ env vs xs Q' Q eo hc hl hx hq k
  match xs, hq with
  | [.int i], hq =>
    obtain ⟨v, rfl, h⟩ := one_arg hl hx
    cases h.int
    exact .inl ⟨i, rfl, k _ _ _ hq eo hc (.int _) trivial⟩
  | [.bool i], hq =>
    obtain ⟨v, rfl, h⟩ := one_arg hl hx
    cases h.bool
    exact .inr ⟨i, rfl, k _ _ _ hq eo hc (.int _) trivial⟩
theorem imp_list {K : PySem.W.Frag} : BiImp K .list (fun xs H Q => ∃ p ys, xs = [.ref p] ∧ (SqL K H p ys ∨ SqT K H p ys) ∧ ∀ l, H l = none → Q (.ref l) (upd H l (.lst ys))) := by
  intro F O H0 H σ env vs xs Q' Q eo hc hl hx hq k
  match xs, hq with
  | [.list a], hq =>
    obtain ⟨v, rfl, p, us, rfl, s1, d1⟩ := one_arg hl hx
    exact ⟨p, us, rfl, .inl s1, fun l hl => k _ _ _ hq (eo.grow (same_new hl)) (hc.trans (chg_new hl)) (res_new eo hl hc d1) (avR_new eo hl)⟩
  | [.tuple a], hq =>
    obtain ⟨v, rfl, p, us, rfl, s1, d1⟩ := one_arg hl hx
    exact ⟨p, us, rfl, .inr (sq_t wo_all s1), fun l hl => k _ _ _ hq (eo.grow (same_new hl)) (hc.trans (chg_new hl)) (res_new eo hl hc d1) (avR_new eo hl)⟩
theorem imp_sum {K : PySem.W.Frag} : BiImp K .sum (rSum K) := by
  intro F O H0 H σ env vs xs Q' Q eo hc hl hx hq k
  match xs, hq with
  | [.list a], hq =>
    obtain ⟨v, rfl, p, us, rfl, s1, d1⟩ := one_arg hl hx
    simp only [biK] at hq
    split at hq
    · rename_i ns hn
      exact ⟨p, ns, rfl, by rw [← ints_vals d1 hn]; exact s1, k _ _ _ hq eo hc (.int _) trivial⟩
    · exact hq.elim
theorem imp_any {K : PySem.W.Frag} : BiImp K .any (rAny K) := by
  intro F O H0 H σ env vs xs Q' Q eo hc hl hx hq k
  match xs, hq with
  | [.list a], hq =>
    obtain ⟨v, rfl, p, us, rfl, s1, d1⟩ := one_arg hl hx
    simp only [biK] at hq
    split at hq
    · rename_i ns hn
      exact ⟨p, ns, rfl, by rw [← bools_vals d1 hn]; exact s1, k _ _ _ hq eo hc (.bl _) trivial⟩
    · exact hq.elim
theorem imp_all {K : PySem.W.Frag} : BiImp K .all (rAll K) := by
  intro F O H0 H σ env vs xs Q' Q eo hc hl hx hq k
  match xs, hq with
  | [.list a], hq =>
    obtain ⟨v, rfl, p, us, rfl, s1, d1⟩ := one_arg hl hx
    simp only [biK] at hq
    split at hq
    · rename_i ns hn
      exact ⟨p, ns, rfl, by rw [← bools_vals d1 hn]; exact s1, k _ _ _ hq eo hc (.bl _) trivial⟩
    · exact hq.elim
theorem imp_min1 {K : PySem.W.Frag} : BiImp K .min1 (rMin K) := by
  intro F O H0 H σ env vs xs Q' Q eo hc hl hx hq k
  match xs, hq with
  | [.list a], hq =>
    obtain ⟨v, rfl, p, us, rfl, s1, d1⟩ := one_arg hl hx
    simp only [biK] at hq
    split at hq
    · rename_i ns hn
      exact ⟨p, ns, rfl, by rw [← ints_vals d1 hn]; exact s1, hq.1, fun m h1 h2 => k _ _ _ (hq.2 m h1 h2) eo hc (.int _) trivial⟩
    · exact hq.elim
theorem imp_max1 {K : PySem.W.Frag} : BiImp K .max1 (rMax K) := by
  intro F O H0 H σ env vs xs Q' Q eo hc hl hx hq k
  match xs, hq with
  | [.list a], hq =>
    obtain ⟨v, rfl, p, us, rfl, s1, d1⟩ := one_arg hl hx
    simp only [biK] at hq
    split at hq
    · rename_i ns hn
      exact ⟨p, ns, rfl, by rw [← ints_vals d1 hn]; exact s1, hq.1, fun m h1 h2 => k _ _ _ (hq.2 m h1 h2) eo hc (.int _) trivial⟩
    · exact hq.elim
theorem imp_sorted {K : PySem.W.Frag} : BiImp K .sorted (rSortedI K) := by
  intro F O H0 H σ env vs xs Q' Q eo hc hl hx hq k
  match xs, hq with
  | [.list a], hq =>
    obtain ⟨v, rfl, p, us, rfl, s1, d1⟩ := one_arg hl hx
    simp only [biK] at hq
    split at hq
    · rename_i ns hn
      exact ⟨p, ns, rfl, by rw [← ints_vals d1 hn]; exact s1, fun ns' z h1 h2 hz => k _ _ _ (hq ns' h1 h2) (eo.grow (same_new hz)) (hc.trans (chg_new hz)) (res_new eo hz hc (dps_ints ns')) (avR_new eo hz)⟩
    · exact hq.elim
theorem imp_repr {K : PySem.W.Frag} : BiImp K .repr (rRepr K) := by
  intro F O H0 H σ env vs xs Q' Q eo hc hl hx hq k
  match xs, hq with
  | [x], hq =>
    obtain ⟨v, rfl, h⟩ := one_arg hl hx
    obtain ⟨⟨h1, h2, h3, h4⟩, hq⟩ := hq
    exact ⟨v, x, rfl, h.dp, h1, h2, h3, h4, k _ _ _ hq eo hc (.str _) trivial⟩
theorem imp_tuple {K : PySem.W.Frag} : BiImp K .tuple (fun xs H Q => ∃ p ys, xs = [.ref p] ∧ ((SqL K H p ys ∧ ∀ l, H l = none → Q (.ref l) (upd H l (.tup ys))) ∨ (SqT K H p ys ∧ Q (.ref p) H))) := by
  intro F O H0 H σ env vs xs Q' Q eo hc hl hx hq k
  match xs, hq with
  | [.list a], hq =>
    obtain ⟨v, rfl, p, us, rfl, s1, d1⟩ := one_arg hl hx
    exact ⟨p, us, rfl, .inl ⟨s1, fun l hl => k _ _ _ hq (eo.grow (same_new hl)) (hc.trans (chg_new hl)) (dp_tup (eo.notO hl) hl d1) trivial⟩⟩
  | [.tuple a], hq =>
    obtain ⟨v, rfl, p, us, rfl, s1, d1⟩ := one_arg hl hx
    exact ⟨p, us, rfl, .inr ⟨sq_t wo_all s1, k _ _ _ hq eo hc (.tup s1 d1) trivial⟩⟩
/-- every built-in -/
theorem te_bi {e : Expr} (f : BI) (hf : f ≠ .bool) (hc : X.calm = true) (hgd : X.A.guards = some []) (hu : X.A.units + 70 < cLine) (hg : Gl X (biName f)) (hm : X.mg (biName f) = none) (ha : PA X (e :: es) (TAof X.K ees)) (he : starEach (e :: es) X.env = (false, eval e X.env) :: starEach es X.env)
    (hpl : (backTo pos (starEach es X.env)).any (·.1) = false) : PE X (.Call (.Name (biName f) p) (e :: es) [] pos) (TEof X.K (.bi f ees)) := by
  cases f with
  | len => exact pe_weak (pe_callB call_len hg hm (by decide +kernel) ha (by decide +kernel) (by decide +kernel) he hpl) fun σ H Q h => bi_arg imp_len h
  | abs => exact pe_weak (pe_callB call_abs hg hm (by decide +kernel) ha (by decide +kernel) (by decide +kernel) he hpl) fun σ H Q h => bi_arg imp_abs h
  | max2 => exact pe_weak (pe_callB (call_max2 hc) hg hm (by decide +kernel) ha (by decide +kernel) (by decide +kernel) he hpl) fun σ H Q h => bi_arg imp_max2 h
  | min2 => exact pe_weak (pe_callB (call_min2 hc) hg hm (by decide +kernel) ha (by decide +kernel) (by decide +kernel) he hpl) fun σ H Q h => bi_arg imp_min2 h
  | int => exact pe_weak (pe_callTy call_int1 hg hm (by decide +kernel) ha (by decide +kernel) (by decide +kernel) he hpl) fun σ H Q h => bi_arg imp_int h
  | sum => exact pe_weak (pe_callB (cr_sum hc) hg hm (by decide +kernel) ha (by decide +kernel) (by decide +kernel) he hpl) fun σ H Q h => bi_arg imp_sum h
  | any => exact pe_weak (pe_callB (cr_any hc) hg hm (by decide +kernel) ha (by decide +kernel) (by decide +kernel) he hpl) fun σ H Q h => bi_arg imp_any h
  | all => exact pe_weak (pe_callB (cr_all hc) hg hm (by decide +kernel) ha (by decide +kernel) (by decide +kernel) he hpl) fun σ H Q h => bi_arg imp_all h
  | min1 => exact pe_weak (pe_callB (cr_min hc) hg hm (by decide +kernel) ha (by decide +kernel) (by decide +kernel) he hpl) fun σ H Q h => bi_arg imp_min1 h
  | max1 => exact pe_weak (pe_callB (cr_max hc) hg hm (by decide +kernel) ha (by decide +kernel) (by decide +kernel) he hpl) fun σ H Q h => bi_arg imp_max1 h
  | list => exact pe_weak (pe_callTy call_list_of hg hm (by decide +kernel) ha (by decide +kernel) (by decide +kernel) he hpl) fun σ H Q h => bi_arg imp_list h
  | tuple => exact pe_weak (pe_callTy call_tuple_of hg hm (by decide +kernel) ha (by decide +kernel) (by decide +kernel) he hpl) fun σ H Q h => bi_arg imp_tuple h
  | sorted => exact pe_weak (pe_callB cr_sortedI hg hm (by decide +kernel) ha (by decide +kernel) (by decide +kernel) he hpl) fun σ H Q h => bi_arg imp_sorted h
  | repr => exact pe_weak (pe_callB (cr_repr hgd hu) hg hm (by decide +kernel) ha (by decide +kernel) (by decide +kernel) he hpl) fun σ H Q h => bi_arg imp_repr h
  | bool => exact absurd rfl hf
/-! ### isinstance -/
def tyName : Ty → String
  | .int => "int" | .bool => "bool" | .str => "str" | .list => "list" | .tuple => "tuple"
def pyTy : PyData → String
  | .none => "NoneType" | .bool _ => "bool" | .int _ => "int" | .str _ => "str" | .list _ => "list" | .tuple _ => "tuple" | .dict _ => "dict"
def tyS (s : String) (t : Ty) : Bool := s == tyName t || (s == "bool" && t == .int)
theorem kitS : ∀ s ∈ ["NoneType", "bool", "int", "str", "list", "tuple"], ∀ t ∈ [Ty.int, .bool, .str, .list, .tuple], kitB s (tyName t) = some (tyS s t) := by decide +kernel
theorem kit_all (x : PyData) (t : Ty) (hx : ∀ k, x ≠ .dict k) : kitB (pyTy x) (tyName t) = some (isTy x [t]) := by
  have h1 : pyTy x ∈ ["NoneType", "bool", "int", "str", "list", "tuple"] := by
    cases x <;> first | (simp [pyTy]; done) | exact absurd rfl (hx _)
  have h2 : t ∈ [Ty.int, .bool, .str, .list, .tuple] := by cases t <;> simp
  rw [kitS _ h1 _ h2]
  congr 1
  cases x <;> cases t <;> first | rfl | exact absurd rfl (hx _)
theorem tyX_of {K : PySem.W.Frag} {H : Hp} {v : V} {x : PyData} (h : Dp K H v x) : TyX K H v (.type (pyTy x)) := by
  cases h with
  | non => exact .base .non
  | bl b => exact .base (.bl b)
  | int i => exact .base (.int i)
  | str s => exact .base (.str s)
  | lst h _ =>
    rcases h with (h | ⟨o, h⟩) | ⟨o, its, n, h1, h2, _⟩
    · exact .base (.lst h)
    · exact .base (.frz h)
    · exact .kList h1 h2
  | tup h _ =>
    rcases h with (h | ⟨o, h⟩) | ⟨o, its, n, h1, h2, _⟩
    · exact .base (.tup h)
    · exact .fTuple h
    · exact .kTuple h1 h2
theorem nodict_of {K : PySem.W.Frag} {H : Hp} {v : V} {x : PyData} (h : Dp K H v x) : ∀ k, x ≠ .dict k := by
  cases h <;> intro k z <;> cases z
theorem te_inst {a c : Expr} {ea : E} {t : Ty} (hg : Gl X "isinstance") (hm : X.mg "isinstance" = none) (ha : PE X a (TEof X.K ea)) (hc : PE X c (tC (.ty (tyName t)))) (he : starEach [a, c] X.env = (false, eval a X.env) :: starEach [c] X.env) (he2 : starEach [c] X.env = [(false, eval c X.env)])
    (hpl : (backTo pos (starEach [c] X.env)).any (·.1) = false) : PE X (.Call (.Name "isinstance" p) [a, c] [] pos) (TEof X.K (.inst ea [t])) :=
  pe_weak (pe_callB call_isi hg hm (by decide +kernel) (pa_cons ha (pa_cons hc pa_nil he2) he) (by decide +kernel) (by decide +kernel) he hpl) fun σ H Q ⟨F, O, env, eo, hw⟩ => te_then eo hw fun r1 env1 v1 H1 q1 e1 c1 s1 a1 => by
    obtain ⟨x, q, hx⟩ := res_rd e1 s1 q1
    exact ⟨v1, _, _, _, _, rfl, .ty _, tyX_of hx.dp, kit_ty (kit_all x t (nodict_of hx.dp)), q _ _ e1 c1 (.bl _) trivial⟩
theorem te_tyname {x : Str} {n : String} (hg : Gl X x) (hm : X.mg x = none) (hv : bootBuiltins x = some (.type n)) (hn : x ≠ "__name__") (hd : (x == ("__debug__" : Str)) = false) : PE X (.Name x p) (tC (.ty n)) := pe_bltn hg hm hv rfl hn hd
end
end PF

set_option maxRecDepth 100000
set_option maxHeartbeats 4000000
/-! no slot comes to own a list within an expression -/
namespace PF
open PySem L2
def Shp (env env' : AEnv) : Prop := (∀ i ds, getE env' i = some (.o ds) → ∃ ds', getE env i = some (.o ds')) ∧ env'.length = env.length
theorem Shp.refl {env : AEnv} : Shp env env := ⟨fun i ds h => ⟨ds, h⟩, rfl⟩
theorem Shp.trans {a b c : AEnv} (h : Shp a b) (k : Shp b c) : Shp a c := ⟨fun i ds e => by
  obtain ⟨ds', e'⟩ := k.1 i ds e
  exact h.1 i ds' e', k.2.trans h.2⟩
theorem Shp.set {env : AEnv} {i : Nat} {v : Option AV} (h : ∀ ds, v ≠ some (.o ds)) : Shp env (setE env i v) := ⟨fun j ds e => by
  rw [get_set] at e
  split at e
  · split at e
    · exact (h ds e).elim
    · cases e
  · exact ⟨ds, e⟩, setE_len _ _ _⟩
theorem Shp.put {env : AEnv} {i : Nat} {ds ds' : List PyData} (h : getE env i = some (.o ds)) : Shp env (setE env i (some (.o ds'))) := ⟨fun j xs e => by
  rw [get_set] at e
  split at e
  · rename_i hj
    subst hj
    exact ⟨ds, h⟩
  · exact ⟨xs, e⟩, setE_len _ _ _⟩
theorem shp_wipe {env : AEnv} : ∀ own : List (Str × Nat), Shp env (wipeE env own)
  | [] => .refl
  | p :: r => (shp_wipe r).trans (.set fun ds z => by cases z)
theorem shp_many : ∀ {is : List Nat} {xs : List PyData} {env : AEnv}, Shp env (setMany is xs env)
  | [], _, _ => .refl
  | _ :: _, [], _ => .refl
  | i :: is, x :: xs, env => by
    show Shp env (setMany is xs (setE env i (some (.d x))))
    exact Shp.trans (Shp.set fun ds z => by cases z) shp_many
theorem tgK_shp {tg : Tg} {x : PyData} {env : AEnv} {k : AEnv → Prop} (q : tgK tg x env k) : tgK tg x env fun e => Shp env e ∧ k e := by
  unfold tgK at q ⊢
  split at q
  · exact ⟨.set (fun ds z => by cases z), q⟩
  · split at q
    · exact ⟨q.1, shp_many, q.2⟩
    · exact q
theorem shp_back {old env : AEnv} (h : Shp old env) : ∀ own : List (Str × Nat), Shp old (backE old env own)
  | [] => h
  | p :: r => by
    have ih := shp_back h r
    refine ⟨fun j ds e0 => ?_, ?_⟩
    · show ∃ ds', getE old j = some (.o ds')
      have e : getE (setE (backE old env r) p.2 (getE old p.2)) j = some (.o ds) := e0
      clear e0
      rw [get_set] at e
      split at e
      · rename_i hj
        subst hj
        split at e
        · exact ⟨ds, e⟩
        · cases e
      · exact ih.1 j ds e
    · show (setE (backE old env r) p.2 (getE old p.2)).length = _
      rw [setE_len]
      exact ih.2
theorem shp_backL : ∀ {rs as : List AV} {env env0 : AEnv}, (∀ j, j ∈ lent rs → ∃ ds, getE env0 j = some (.o ds)) → Shp env0 env → Shp env0 (backL env rs as)
  | [], as, env, _, _, h => by cases as <;> exact h
  | .d _ :: rs, [], env, _, _, h => h
  | .o _ :: rs, [], env, _, _, h => h
  | .b _ :: rs, [], env, _, _, h => h
  | .d _ :: rs, a :: as, env, env0, hl, h => shp_backL (rs := rs) (as := as) (env := env) hl h
  | .o _ :: rs, a :: as, env, env0, hl, h => shp_backL (rs := rs) (as := as) (env := env) hl h
  | .b j :: rs, .d x :: as, env, env0, hl, h => shp_backL (rs := rs) (as := as) (env := env) (fun j' hj => hl j' (List.mem_cons_of_mem _ hj)) h
  | .b j :: rs, .b x :: as, env, env0, hl, h => shp_backL (rs := rs) (as := as) (env := env) (fun j' hj => hl j' (List.mem_cons_of_mem _ hj)) h
  | .b j :: rs, .o ds :: as, env, env0, hl, h => by
    refine shp_backL (rs := rs) (as := as) (env := setE env j (some (.o ds))) (fun j' hj => hl j' (List.mem_cons_of_mem _ hj)) ⟨fun i xs e => ?_, by rw [setE_len]; exact h.2⟩
    rw [get_set] at e
    split at e
    · rename_i hi
      subst hi
      exact hl _ List.mem_cons_self
    · exact h.1 i xs e
theorem lend_has {env : AEnv} : ∀ {rs : List AV} {k : List AV → Prop}, lendK env rs k → ∀ j, j ∈ lent rs → ∃ ds, getE env j = some (.o ds)
  | [], _, _, j, hj => by cases hj
  | .d _ :: rs, k, q, j, hj => lend_has (rs := rs) q j hj
  | .o _ :: rs, k, q, j, hj => lend_has (rs := rs) q j hj
  | .b m :: rs, k, q, j, hj => by
    unfold lendK at q
    split at q
    · rename_i ds hg
      rcases List.mem_cons.mp hj with z | z
      · exact ⟨ds, by rw [z]; exact hg⟩
      · exact lend_has q j z
    · exact q.elim
theorem callK_shp {sp : ASp} {vs : List AV} {env : AEnv} {Q : AV → AEnv → Prop} {X : XQ} (q : callK sp vs env Q X) : callK sp vs env (fun r e => Shp env e ∧ Q r e) X := by
  have hl := lend_has q.2
  refine ⟨q.1, lendK_mono (fun as q => sp.mono _ _ _ _ _ (fun r as' z => ⟨shp_backL hl .refl, z⟩) (fun _ z => z) q) q.2⟩
theorem compW_shp {cond : Option Unit} {ec ee : AEnv → (AV → AEnv → Prop) → Prop} {tg : Tg} {own : List (Str × Nat)} (mc : ∀ env Q Q', (∀ r e, Q r e → Q' r e) → ec env Q → ec env Q') (me : ∀ env Q Q', (∀ r e, Q r e → Q' r e) → ee env Q → ee env Q')
    (hc : ∀ env Q, ec env Q → ec env fun r e => Shp env e ∧ Q r e) (he : ∀ env Q, ee env Q → ee env fun r e => Shp env e ∧ Q r e) :
    ∀ {items : List PyData} {env0 env : AEnv} {acc : List PyData} {Q : List PyData → AEnv → Prop}, Shp env0 env → compW cond ec ee tg own items env acc Q → compW cond ec ee tg own items env acc fun r e => Shp env0 e ∧ Q r e
  | [], _, _, _, _, h, q => ⟨h, q⟩
  | x :: xs, env0, env, acc, Q, h, q => by
    refine tgK_mono (fun env1 q => ?_) (tgK_shp q)
    obtain ⟨s1, q⟩ := q
    have s1 : Shp env0 env1 := (h.trans (shp_wipe own)).trans s1
    cases cond with
    | none => exact me _ _ _ (fun v e3 q => dataK_mono (fun y z => compW_shp mc me hc he (s1.trans q.1) z) q.2) (he _ _ q)
    | some u =>
      refine mc _ _ _ (fun c e2 q => truthK_mono (fun b z => ?_) q.2) (hc _ _ q)
      have s2 := s1.trans q.1
      cases b with
      | true =>
        rw [if_pos rfl] at z ⊢
        exact me _ _ _ (fun v e3 q => dataK_mono (fun y z => compW_shp mc me hc he (s2.trans q.1) z) q.2) (he _ _ z)
      | false =>
        rw [if_neg Bool.false_ne_true] at z ⊢
        exact compW_shp mc me hc he s2 z
mutual
theorem wE_shp : ∀ (e : E) {env : AEnv} {Q : AV → AEnv → Prop} {X : XQ}, wE e env Q X → wE e env (fun r e' => Shp env e' ∧ Q r e') X
  | .var i, env, Q, X, q => by
    unfold wE at q ⊢
    split at q <;> first | exact ⟨.refl, q⟩ | exact q
  | .int _, _, _, _, q => ⟨.refl, q⟩
  | .bool _, _, _, _, q => ⟨.refl, q⟩
  | .none, _, _, _, q => ⟨.refl, q⟩
  | .str _, _, _, _, q => ⟨.refl, q⟩
  | .glob _ _, _, _, _, q => ⟨.refl, q⟩
  | .bin op a b, _, _, _, q => wE_mono a (fun _ _ q => wE_mono b (fun _ _ z => rdK_mono (fun _ y => rdK_mono (fun _ y => binK_mono (fun _ y => ⟨q.1.trans z.1, y⟩) y) y) z.2) (wE_shp b q.2)) (wE_shp a q)
  | .neg a, _, _, _, q => wE_mono a (fun _ _ q => by
      obtain ⟨s, q⟩ := q
      split at q
      · exact ⟨s, q⟩
      · exact q) (wE_shp a q)
  | .rep a n, _, _, _, q => wE_mono a (fun _ _ q => wE_mono n (fun _ _ z => by
      obtain ⟨s, z⟩ := z
      split at z
      · exact ⟨z.1, q.1.trans s, z.2⟩
      · exact z) (wE_shp n q.2)) (wE_shp a q)
  | .not a, _, _, _, q => wE_mono a (fun _ _ q => truthK_mono (fun _ y => ⟨q.1, y⟩) q.2) (wE_shp a q)
  | .and a b, _, _, _, q => wE_mono a (fun _ _ q => truthK_mono (fun _ y => ite_mono (fun y => wE_mono b (fun _ _ z => ⟨q.1.trans z.1, z.2⟩) (wE_shp b y)) (fun y => ⟨q.1, y⟩) y) q.2) (wE_shp a q)
  | .or a b, _, _, _, q => wE_mono a (fun _ _ q => truthK_mono (fun _ y => ite_mono (fun y => ⟨q.1, y⟩) (fun y => wE_mono b (fun _ _ z => ⟨q.1.trans z.1, z.2⟩) (wE_shp b y)) y) q.2) (wE_shp a q)
  | .cmp op a b, _, _, _, q => wE_mono a (fun _ _ q => wE_mono b (fun _ _ z => rdK_mono (fun _ y => rdK_mono (fun _ y => cmpK_mono (fun _ y => ⟨q.1.trans z.1, y⟩) y) y) z.2) (wE_shp b q.2)) (wE_shp a q)
  | .chain o1 o2 a b c, _, _, _, q => wE_mono a (fun _ _ q => wE_mono b (fun _ _ z => rdK_mono (fun _ y => rdK_mono (fun _ y => cmpK_mono (fun _ y => ite_mono (fun y => wE_mono c (fun _ _ u => rdK_mono (fun _ y => rdK_mono (fun _ y => cmpK_mono (fun _ y => ⟨(q.1.trans z.1).trans u.1, y⟩) y) y) u.2) (wE_shp c y)) (fun y => ⟨q.1.trans z.1, y⟩) y) y) y) z.2) (wE_shp b q.2)) (wE_shp a q)
  | .ife c a b, _, _, _, q => wE_mono c (fun _ _ q => truthK_mono (fun _ y => ite_mono (fun y => wE_mono a (fun _ _ z => ⟨q.1.trans z.1, z.2⟩) (wE_shp a y)) (fun y => wE_mono b (fun _ _ z => ⟨q.1.trans z.1, z.2⟩) (wE_shp b y)) y) q.2) (wE_shp c q)
  | .tup es, _, _, _, q => wEs_mono es (fun _ _ q => datasK_mono (fun _ y => ⟨q.1, y⟩) q.2) (wEs_shp es q)
  | .lst es, _, _, _, q => wEs_mono es (fun _ _ q => datasK_mono (fun _ y => ⟨q.1, y⟩) q.2) (wEs_shp es q)
  | .ix a i, _, _, _, q => wE_mono a (fun _ _ q => wE_mono i (fun _ _ z => rdK_mono (fun _ y => rdK_mono (fun _ y => ixK_mono (fun _ y => ⟨q.1.trans z.1, y⟩) y) y) z.2) (wE_shp i q.2)) (wE_shp a q)
  | .slL a lo, _, _, _, q => wE_mono a (fun _ _ q => wE_mono lo (fun _ _ z => by
      obtain ⟨s, z⟩ := z
      split at z
      · exact rdK_mono (fun _ y => slK_mono (fun _ y => ⟨q.1.trans s, y⟩) y) z
      · exact z) (wE_shp lo q.2)) (wE_shp a q)
  | .slU a lo, _, _, _, q => wE_mono a (fun _ _ q => wE_mono lo (fun _ _ z => by
      obtain ⟨s, z⟩ := z
      split at z
      · exact rdK_mono (fun _ y => slK_mono (fun _ y => ⟨q.1.trans s, y⟩) y) z
      · exact z) (wE_shp lo q.2)) (wE_shp a q)
  | .slLU a lo hi, _, _, _, q => wE_mono a (fun _ _ q => wE_mono lo (fun _ _ z => by
      obtain ⟨s, z⟩ := z
      split at z
      · refine wE_mono hi (fun _ _ y => ?_) (wE_shp hi z)
        obtain ⟨s2, y⟩ := y
        split at y
        · exact rdK_mono (fun _ y => slK_mono (fun _ y => ⟨(q.1.trans s).trans s2, y⟩) y) y
        · exact y
      · exact z) (wE_shp lo q.2)) (wE_shp a q)
  | .slRev a, _, _, _, q => wE_mono a (fun _ _ q => rdK_mono (fun _ y => by
      split at y
      · exact ⟨q.1, y⟩
      · exact y) q.2) (wE_shp a q)
  | .call _ sp es, _, _, _, q => wEs_mono es (fun _ _ q => callK_mono (fun _ _ z => ⟨q.1.trans z.1, z.2⟩) (callK_shp q.2)) (wEs_shp es q)
  | .callK _ sp ps ks es, _, _, _, q => wEs_mono es (fun _ _ q => by
      obtain ⟨s, q⟩ := q
      split at q
      · exact callK_mono (fun _ _ z => ⟨s.trans z.1, z.2⟩) (callK_shp q)
      · exact q) (wEs_shp es q)
  | .callO _ sp a, _, _, _, q => wE_mono a (fun v _ q => by
      obtain ⟨s, q⟩ := q
      split at q
      · exact sp.mono _ _ _ _ _ (fun r _ z => by
          split at z
          · exact ⟨s, z⟩
          · exact z) (fun _ z => z) q
      · exact q) (wE_shp a q)
  | .bi f es, _, _, _, q => wEs_mono es (fun _ _ q => rdsK_mono (fun _ y => biK_mono (fun _ y => ⟨q.1, y⟩) y) q.2) (wEs_shp es q)
  | .inst a ts, _, _, _, q => wE_mono a (fun _ _ q => rdK_mono (fun _ y => ⟨q.1, y⟩) q.2) (wE_shp a q)
  | .comp elt cond c tg it own, env, Q, X, q => by
    unfold wE at q ⊢
    refine wIt_mono it (fun items e1 q => ⟨q.2.1, ?_⟩) (wIt_shp it q)
    obtain ⟨s1, no, q⟩ := q
    refine compW_mono (ec := fun e q => wE c e q X) (ee := fun e q => wE elt e q X) (fun env Q Q' h q => wE_mono c h q) (fun env Q Q' h q => wE_mono elt h q) (fun r e z => ⟨?_, z.2⟩)
      (compW_shp (ec := fun e q => wE c e q X) (ee := fun e q => wE elt e q X) (fun env Q Q' h q => wE_mono c h q) (fun env Q Q' h q => wE_mono elt h q) (fun env Q q => wE_shp c q) (fun env Q q => wE_shp elt q) (env0 := e1) .refl q)
    exact s1.trans (shp_back z.1 own)
theorem wEs_shp : ∀ (es : Es) {env : AEnv} {Q : List AV → AEnv → Prop} {X : XQ}, wEs es env Q X → wEs es env (fun r e' => Shp env e' ∧ Q r e') X
  | .nil, _, _, _, q => ⟨.refl, q⟩
  | .cons e es, _, _, _, q => wE_mono e (fun _ _ q => wEs_mono es (fun _ _ z => ⟨q.1.trans z.1, z.2⟩) (wEs_shp es q.2)) (wE_shp e q)
theorem wIt_shp : ∀ (it : It) {env : AEnv} {Q : List PyData → AEnv → Prop} {X : XQ}, wIt it env Q X → wIt it env (fun r e' => Shp env e' ∧ Q r e') X
  | .seq e, _, _, _, q => wE_mono e (fun _ _ q => seqK_mono (fun _ y => ⟨q.1, y⟩) q.2) (wE_shp e q)
  | .range1 a, _, _, _, q => wE_mono a (fun _ _ q => by
      obtain ⟨s, q⟩ := q
      split at q
      · exact ⟨q.1, s, q.2⟩
      · exact q) (wE_shp a q)
  | .range2 a b, _, _, _, q => wE_mono a (fun _ _ q => wE_mono b (fun _ _ z => by
      obtain ⟨s, z⟩ := z
      split at z
      · exact ⟨z.1, q.1.trans s, z.2⟩
      · exact z) (wE_shp b q.2)) (wE_shp a q)
  | .enum e, _, _, _, q => wE_mono e (fun _ _ q => lstK_mono (fun _ y => ⟨q.1, y⟩) q.2) (wE_shp e q)
  | .zip a b, _, _, _, q => wE_mono a (fun _ _ q => wE_mono b (fun _ _ z => lstK_mono (fun _ y => lstK_mono (fun _ y => ⟨q.1.trans z.1, y⟩) y) z.2) (wE_shp b q.2)) (wE_shp a q)
end
end PF

set_option maxRecDepth 100000
set_option maxHeartbeats 4000000
namespace PF
open PySem PySem.Spec PyProof.Rows L2
/-! ### where one stands -/
structure Sc where
  N : List Str
  sc : Scope
  fn : Str → Bool
  R : List Nat
structure Good (Z : Sc) (k : Nat) (X : Cx) : Prop where
  hN : X.N = Z.N
  nd : Z.N.Nodup
  sc : X.env.scope = Z.sc
  kind : Z.sc.kind = .function
  fn : ∀ x, Z.fn x = true → X.fn x = true
  calm : X.calm = true
  room : Room k X.A
  guards : X.A.guards = some []
  xe : X.xe = fun _ _ => False
/-! ### owned lists come and go -/
def Ext (O : List Addr) (H : Hp) (O' : List Addr) (H' : Hp) : Prop := Chg O H H' ∧ ∀ p ∈ O', p ∈ O ∨ H p = none
theorem Ext.refl {O : List Addr} {H : Hp} : Ext O H O H := ⟨.refl, fun _ h => .inl h⟩
theorem Ext.of {O : List Addr} {H H' : Hp} (c : Chg O H H') : Ext O H O H' := ⟨c, fun _ h => .inl h⟩
theorem Ext.trans {O O1 O2 : List Addr} {H H1 H2 : Hp} (a : Ext O H O1 H1) (b : Ext O1 H1 O2 H2) : Ext O H O2 H2 := by
  have nin : ∀ p o, H p = some o → p ∉ O → p ∉ O1 := fun p o h n z => by
    rcases a.2 p z with q | q
    · exact n q
    · rw [q] at h; cases h
  refine ⟨fun p o h n => b.1 p o (a.1 p o h n) (nin p o h n), fun p hp => ?_⟩
  rcases b.2 p hp with q | q
  · exact a.2 p q
  · by_cases hO : p ∈ O
    · exact .inl hO
    · refine .inr ?_
      cases z : H p with
      | none => rfl
      | some o => rw [a.1 p o z hO] at q; cases q
theorem Ext.wo {O O' : List Addr} {H H' : Hp} (e : Ext O H O' H') : Same (Wo H O) (Wo H' O') := fun a o h => by
  obtain ⟨n, h⟩ := wo_some h
  have n' : a ∉ O' := fun z => by
    rcases e.2 a z with q | q
    · exact n q
    · rw [q] at h; cases h
  rw [wo_out n']
  exact e.1 a o h n
section
variable {K : PySem.W.Frag} {F : Fi} {O : List Addr} {H H' : Hp} {σ : L2.St} {env : AEnv}
theorem EnvOk.setD (e : EnvOk K F O H σ env) {i : Nat} {v : V} {x : PyData} (hi : ∀ p, F.par i ≠ some p) (hx : Dp K (Wo H O) v x) : EnvOk K F O H (σ.set i (some v)) (setE env i (some (.d x))) := by
  have gs : ∀ j, j ≠ i → (σ.set i (some v))[j]? = σ[j]? := fun j hj => List.getElem?_set_ne (Ne.symm hj)
  have ge : ∀ j w, getE (setE env i (some (.d x))) j = some w → (j = i ∧ i < env.length ∧ w = .d x) ∨ (j ≠ i ∧ getE env j = some w) := fun j w q => by
    rw [get_set] at q
    split at q
    · split at q
      · cases q; exact .inl ⟨by assumption, by assumption, rfl⟩
      · cases q
    · exact .inr ⟨by assumption, q⟩
  have go : ∀ j ds, getE (setE env i (some (.d x))) j = some (.o ds) → j ≠ i ∧ getE env j = some (.o ds) := fun j ds q => by
    rcases ge j _ q with ⟨_, _, z⟩ | z
    · cases z
    · exact z
  refine ⟨by rw [List.length_set, setE_len]; exact e.len, fun j y q => ?_, fun j ds q => ?_, fun j m q => ?_, fun j m ds ds' p q1 q2 r1 r2 => ?_, e.live, e.sub, e.new, e.keep, fun j ds p q r => ?_, fun j p q => ?_⟩
  · rcases ge j _ q with ⟨h1, h2, h3⟩ | ⟨h1, h2⟩
    · cases h3
      exact ⟨v, by rw [h1, List.getElem?_set_self (by rw [e.len]; exact h2)], hx⟩
    · rw [gs j h1]
      exact e.dat j y h2
  · obtain ⟨h1, h2⟩ := go j ds q
    rw [gs j h1]
    exact e.own j ds h2
  · rcases ge j _ q with ⟨h1, h2, h3⟩ | ⟨h1, h2⟩
    · cases h3
    · exact e.nob j m h2
  · obtain ⟨h1, h2⟩ := go j ds q1
    obtain ⟨h3, h4⟩ := go m ds' q2
    rw [gs j h1] at r1
    rw [gs m h3] at r2
    exact e.inj j m ds ds' p h2 h4 r1 r2
  · obtain ⟨h1, h2⟩ := go j ds q
    rw [gs j h1] at r
    exact e.ownF j ds p h2 r
  · have hj : j ≠ i := fun z => by subst z; exact hi p q
    rw [gs j hj, get_set_ne hj]
    exact e.par j p q
/-- a slot gets a new list -/
theorem EnvOk.setO (e : EnvOk K F O H σ env) {i : Nat} {p : Addr} {vs : List V} {ds : List PyData} (hi : ∀ a, F.par i ≠ some a) (hf : F.H0 p = none) (hO : p ∉ O) (hp : H p = some (.lst vs)) (hd : DpAll K (Wo H (p :: O)) vs ds)
    (hq : Same (Wo H O) (Wo H (p :: O)) ∨ True) (dat : ∀ j x, getE env j = some (.d x) → ∃ v, σ[j]? = some (some v) ∧ Dp K (Wo H (p :: O)) v x) (own : ∀ j xs, getE env j = some (.o xs) → ∃ a us, σ[j]? = some (some (.ref a)) ∧ a ∈ O ∧ H a = some (.lst us) ∧ DpAll K (Wo H (p :: O)) us xs) :
    EnvOk K F (p :: O) H (σ.set i (some (.ref p))) (setE env i (some (.o ds))) := by
  have gs : ∀ j, j ≠ i → (σ.set i (some (V.ref p)))[j]? = σ[j]? := fun j hj => List.getElem?_set_ne (Ne.symm hj)
  have ge : ∀ j w, getE (setE env i (some (.o ds))) j = some w → (j = i ∧ i < env.length ∧ w = .o ds) ∨ (j ≠ i ∧ getE env j = some w) := fun j w q => by
    rw [get_set] at q
    split at q
    · split at q
      · cases q; exact .inl ⟨by assumption, by assumption, rfl⟩
      · cases q
    · exact .inr ⟨by assumption, q⟩
  have si : i < env.length → (σ.set i (some (V.ref p)))[i]? = some (some (.ref p)) := fun h => List.getElem?_set_self (by rw [e.len]; exact h)
  have neq : ∀ j xs a, getE env j = some (.o xs) → σ[j]? = some (some (.ref a)) → a ≠ p := fun j xs a q r z => by
    obtain ⟨a', us, g1, g2, _⟩ := own j xs q
    rw [r] at g1; cases g1
    subst z
    exact hO g2
  refine ⟨by rw [List.length_set, setE_len]; exact e.len, fun j y q => ?_, fun j xs q => ?_, fun j m q => ?_, fun j m xs ys a q1 q2 r1 r2 => ?_, fun a ha z => ?_, fun a ha => List.mem_cons_of_mem _ (e.sub a ha), fun a ha => ?_, e.keep, fun j xs a q r => ?_, fun j a q => ?_⟩
  · rcases ge j _ q with ⟨h1, h2, h3⟩ | ⟨h1, h2⟩
    · cases h3
    · rw [gs j h1]
      exact dat j y h2
  · rcases ge j _ q with ⟨h1, h2, h3⟩ | ⟨h1, h2⟩
    · cases h3
      subst h1
      exact ⟨p, vs, si h2, List.mem_cons_self, hp, hd⟩
    · rw [gs j h1]
      obtain ⟨a, us, g1, g2, g3⟩ := own j xs h2
      exact ⟨a, us, g1, List.mem_cons_of_mem _ g2, g3⟩
  · rcases ge j _ q with ⟨h1, h2, h3⟩ | ⟨h1, h2⟩
    · cases h3
    · exact e.nob j m h2
  · rcases ge j _ q1 with ⟨h1, h2, h3⟩ | ⟨h1, h2⟩ <;> rcases ge m _ q2 with ⟨g1, g2, g3⟩ | ⟨g1, g2⟩
    · rw [h1, g1]
    · rw [h1, si h2] at r1; cases r1
      rw [gs m g1] at r2
      exact absurd rfl (neq m ys _ g2 r2)
    · rw [g1, si g2] at r2; cases r2
      rw [gs j h1] at r1
      exact absurd rfl (neq j xs _ h2 r1)
    · rw [gs j h1] at r1
      rw [gs m g1] at r2
      exact e.inj j m _ _ _ h2 g2 r1 r2
  · rcases List.mem_cons.mp ha with h | h
    · subst h; rw [hp] at z; cases z
    · exact e.live a h z
  · rcases List.mem_cons.mp ha with h | h
    · subst h; exact .inr hf
    · exact e.new a h
  · rcases ge j _ q with ⟨h1, h2, h3⟩ | ⟨h1, h2⟩
    · rw [h1, si h2] at r; cases r
      exact .inr hf
    · rw [gs j h1] at r
      exact e.ownF j xs a h2 r
  · have hj : j ≠ i := fun z => by subst z; exact hi a q
    rw [gs j hj, get_set_ne hj]
    exact e.par j a q
/-- the same, from an answer -/
theorem EnvOk.take (e0 : EnvOk K F O H σ env) {env1 : AEnv} (e : EnvOk K F O H' σ env1) (c : Chg O H H') {i : Nat} {p : Addr} {vs : List V} {ds : List PyData} (hi : ∀ a, F.par i ≠ some a) (hf : H p = none) (hO : p ∉ O) (hp : H' p = some (.lst vs)) (hd : DpAll K (Wo H' (p :: O)) vs ds)
    (dat : ∀ j x, getE env1 j = some (.d x) → ∃ v, σ[j]? = some (some v) ∧ Dp K (Wo H' (p :: O)) v x) (own : ∀ j xs, getE env1 j = some (.o xs) → ∃ a us, σ[j]? = some (some (.ref a)) ∧ a ∈ O ∧ H' a = some (.lst us) ∧ DpAll K (Wo H' (p :: O)) us xs) :
    EnvOk K F (p :: O) H' (σ.set i (some (.ref p))) (setE env1 i (some (.o ds))) :=
  e.setO hi (e0.fresh0 hf) hO hp hd (.inr trivial) dat own
end
end PF

set_option maxRecDepth 100000
set_option maxHeartbeats 4000000
namespace PF
open PySem PySem.Spec PyProof.Rows L2
/-! ### what is walked -/
def Wk (K : PySem.W.Frag) (O : List Addr) (H : Hp) (J : L2.It) (items : List PyData) : Prop := ∀ O' H', Ext O H O' H' → (∀ p ∈ O', H' p ≠ none) → ∀ i : Nat,
  (∀ d, items[i]? = some d → J.go i H' ∧ ∀ x H'', J.yld i H' x H'' → Same H' H'' ∧ Dp K (Wo H'' O') x d) ∧ (items.length ≤ i → J.stop i H')
def TIof (K : PySem.W.Frag) (it : PF.It) : TI := fun σ H R => ∃ (F : Fi) (O : List Addr) (env : AEnv), EnvOk K F O H σ env ∧ wIt it env (fun items env' => ∀ J H', EnvOk K F O H' σ env' → Chg O H H' → Wk K O H' J items → items.length ≤ sizeLine → R J H') X0
section
variable {K : PySem.W.Frag} {O : List Addr} {H : Hp}
theorem wk_list {a : Addr} {vs : List V} {xs : List PyData} (h : SqL K (Wo H O) a vs) (d : DpAll K (Wo H O) vs xs) : Wk K O H (Itl K a) xs := by
  intro O' H' e lv i
  have hs : SqL K H' a vs := wo_all.seq (e.wo.seq h)
  have hd := dps_mono e.wo d
  refine ⟨fun x hx => ?_, fun hi => ⟨vs, hs, by rw [dps_len d]; exact hi⟩⟩
  obtain ⟨v, hv, hp⟩ := dps_get hd hx
  refine ⟨⟨vs, v, hs, hv⟩, fun y H'' hy => ?_⟩
  obtain ⟨rfl, hy⟩ := hy
  have := hy vs hs
  rw [hv] at this; cases this
  exact ⟨Same.refl _, hp⟩
theorem wk_tup {a : Addr} {vs : List V} {xs : List PyData} (h : SqT K (Wo H O) a vs) (d : DpAll K (Wo H O) vs xs) : Wk K O H (Itt K a) xs := by
  intro O' H' e lv i
  have hs : SqT K H' a vs := sq_t wo_all (sq_t e.wo h)
  have hd := dps_mono e.wo d
  refine ⟨fun x hx => ?_, fun hi => ⟨vs, hs, by rw [dps_len d]; exact hi⟩⟩
  obtain ⟨v, hv, hp⟩ := dps_get hd hx
  refine ⟨⟨vs, v, hs, hv⟩, fun y H'' hy => ?_⟩
  obtain ⟨rfl, hy⟩ := hy
  have := hy vs hs
  rw [hv] at this; cases this
  exact ⟨Same.refl _, hp⟩
theorem range_get {lo hi : Int} {i : Nat} {d : PyData} (h : (rangeL lo hi)[i]? = some d) : i < (hi - lo).toNat ∧ d = .int (lo + (i : Int)) := by
  unfold rangeL at h
  rw [List.getElem?_map] at h
  cases q : (List.range (hi - lo).toNat)[i]? with
  | none => rw [q] at h; cases h
  | some j =>
    rw [q] at h
    obtain ⟨h1, h2⟩ := List.getElem?_eq_some_iff.mp q
    rw [List.getElem_range] at h2
    subst h2
    cases h
    exact ⟨by simpa using h1, rfl⟩
theorem range_len (lo hi : Int) : (rangeL lo hi).length = (hi - lo).toNat := by simp [rangeL]
theorem wk_range {lo hi : Int} : Wk K O H (Itr lo (hi - lo).toNat) (rangeL lo hi) := by
  intro O' H' e lv i
  refine ⟨fun x hx => ?_, fun hi => by rw [range_len] at hi; exact hi⟩
  obtain ⟨h1, rfl⟩ := range_get hx
  refine ⟨h1, fun y H'' hy => ?_⟩
  obtain ⟨rfl, rfl⟩ := hy
  exact ⟨Same.refl _, .int _⟩
theorem enum_get : ∀ {xs : List PyData} {k i : Nat} {d : PyData}, (enumL k xs)[i]? = some d → ∃ x, xs[i]? = some x ∧ d = .tuple [.int ((k + i : Nat) : Int), x]
  | [], _, _, _, h => by simp [enumL] at h
  | x :: xs, k, 0, d, h => by
    simp [enumL] at h
    exact ⟨x, rfl, by rw [← h]; rfl⟩
  | x :: xs, k, i + 1, d, h => by
    obtain ⟨y, h1, h2⟩ := enum_get (xs := xs) (k := k + 1) (i := i) (d := d) (by simpa [enumL] using h)
    exact ⟨y, by simpa using h1, by rw [h2]; congr 4; omega⟩
theorem enum_len : ∀ (k : Nat) (xs : List PyData), (enumL k xs).length = xs.length
  | _, [] => rfl
  | k, x :: xs => by show (enumL (k + 1) xs).length + 1 = _; rw [enum_len (k + 1) xs]; rfl
theorem wk_enum {a : Addr} {vs : List V} {xs : List PyData} (h : SqL K (Wo H O) a vs) (d : DpAll K (Wo H O) vs xs) : Wk K O H (Ite K a) (enumL 0 xs) := by
  intro O' H' e lv i
  have hs : SqL K H' a vs := wo_all.seq (e.wo.seq h)
  have hd := dps_mono e.wo d
  refine ⟨fun x hx => ?_, fun hi => ⟨vs, hs, by rw [enum_len] at hi; rw [dps_len d]; exact hi⟩⟩
  obtain ⟨y, hy, rfl⟩ := enum_get hx
  obtain ⟨v, hv, hp⟩ := dps_get hd hy
  refine ⟨⟨vs, v, hs, hv⟩, fun z H'' hz => ?_⟩
  obtain ⟨T, w, rfl, hT, rfl, hw⟩ := hz
  have := hw vs hs
  rw [hv] at this; cases this
  refine ⟨same_new hT, dp_tup (fun z => lv T z hT) hT (.cons ?_ (.cons hp .nil))⟩
  rw [Nat.zero_add]
  exact .int _
theorem zip_get : ∀ {xs ys : List PyData} {i : Nat} {d : PyData}, (zipL xs ys)[i]? = some d → ∃ x y, xs[i]? = some x ∧ ys[i]? = some y ∧ d = .tuple [x, y]
  | [], _, _, _, h => by simp [zipL] at h
  | _ :: _, [], _, _, h => by simp [zipL] at h
  | x :: xs, y :: ys, 0, d, h => by
    simp [zipL] at h
    exact ⟨x, y, rfl, rfl, h.symm⟩
  | x :: xs, y :: ys, i + 1, d, h => by
    obtain ⟨u, v, h1, h2, h3⟩ := zip_get (xs := xs) (ys := ys) (i := i) (d := d) (by simpa [zipL] using h)
    exact ⟨u, v, by simpa using h1, by simpa using h2, h3⟩
theorem zip_len : ∀ (xs ys : List PyData), (zipL xs ys).length = min xs.length ys.length
  | [], _ => by simp [zipL]
  | _ :: _, [] => by simp [zipL]
  | x :: xs, y :: ys => by simp [zipL, zip_len xs ys]
theorem wk_zip {a b : Addr} {vs us : List V} {xs ys : List PyData} (h : SqL K (Wo H O) a vs) (d : DpAll K (Wo H O) vs xs) (h2 : SqL K (Wo H O) b us) (d2 : DpAll K (Wo H O) us ys) : Wk K O H (Itz K a b) (zipL xs ys) := by
  intro O' H' e lv i
  have hs : SqL K H' a vs := wo_all.seq (e.wo.seq h)
  have hs2 : SqL K H' b us := wo_all.seq (e.wo.seq h2)
  have hd := dps_mono e.wo d
  have hd2 := dps_mono e.wo d2
  refine ⟨fun x hx => ?_, fun hi => ⟨vs, us, hs, hs2, by rw [zip_len] at hi; rw [dps_len d, dps_len d2]; omega⟩⟩
  obtain ⟨y, z, hy, hz, rfl⟩ := zip_get hx
  obtain ⟨v, hv, hp⟩ := dps_get hd hy
  obtain ⟨u, hu, hp2⟩ := dps_get hd2 hz
  refine ⟨⟨vs, us, v, u, hs, hs2, hv, hu⟩, fun q H'' hq => ?_⟩
  obtain ⟨T, w, w2, rfl, hT, rfl, hw, hw2⟩ := hq
  have := hw vs hs
  rw [hv] at this; cases this
  have := hw2 us hs2
  rw [hu] at this; cases this
  exact ⟨same_new hT, dp_tup (fun z => lv T z hT) hT (.cons hp (.cons hp2 .nil))⟩
end
/-! ### an answer as a list that is walked -/
section
variable {K : PySem.W.Frag} {F : Fi} {O : List Addr} {H0 H : Hp} {σ : L2.St} {env : AEnv} {v : V} {r : AV}
theorem res_lst {k : List PyData → Prop} (h : Res K O H0 H σ v r) (q : lstK r k) : ∃ xs a vs, k xs ∧ v = .ref a ∧ SqL K (Wo H O) a vs ∧ DpAll K (Wo H O) vs xs := by
  unfold lstK at q
  split at q
  · cases (show Dp K (Wo H O) v _ from h) with
    | lst h1 h2 => exact ⟨_, _, _, q, rfl, h1, h2⟩
  · obtain ⟨p, vs, rfl, n, no, hp, hd⟩ := h
    exact ⟨_, p, vs, q, rfl, .inl (.inl (by rw [wo_out no]; exact hp)), dps_mono wo_cons hd⟩
  · exact q.elim
theorem res_seq {k : List PyData → Prop} (h : Res K O H0 H σ v r) (q : seqK r k) : ∃ xs a vs, k xs ∧ v = .ref a ∧ (SqL K (Wo H O) a vs ∨ SqT K (Wo H O) a vs) ∧ DpAll K (Wo H O) vs xs := by
  unfold seqK at q
  split at q
  · cases (show Dp K (Wo H O) v _ from h) with
    | lst h1 h2 => exact ⟨_, _, _, q, rfl, .inl h1, h2⟩
  · cases (show Dp K (Wo H O) v _ from h) with
    | tup h1 h2 => exact ⟨_, _, _, q, rfl, .inr h1, h2⟩
  · obtain ⟨p, vs, rfl, n, no, hp, hd⟩ := h
    exact ⟨_, p, vs, q, rfl, .inl (.inl (.inl (by rw [wo_out no]; exact hp))), dps_mono wo_cons hd⟩
  · exact q.elim
end
section
variable {X : Cx} {F : Fi} {tg : Expr} {ea eb : E} {p pos : Pos}
theorem pi_weak {it : Expr} {w w' : TI} (h : PI X tg it w) (hw : ∀ σ H R, w' σ H R → w σ H R) : PI X tg it w' := ⟨fun pins s σ H R I q => h.run pins s σ H R I (hw σ H R q)⟩
theorem pa_sz {es : List Expr} {t : TA} (h : PA X es t) : PA X es fun σ H Q => t σ H fun vs H1 => (∀ v ∈ vs, ∀ a xs, v = .ref a → SqL X.K H1 a xs → xs.length ≤ sizeLine) → Q vs H1 := ⟨fun pos pins s σ H Q I q => by
  refine thn (h.run pos pins s σ H _ I q) ?_
  rintro us s1 ⟨vs, H1, I1, rv, q⟩
  refine ⟨vs, H1, I1, rv, q fun v hv a xs e hs => ?_⟩
  obtain ⟨_, _, _, hz⟩ := I1.list hs
  exact hz⟩
/-- an iterator over a list, over a tuple -/
theorem it_of {pins : List (Addr × Obj)} {σ : L2.St} {H : Hp} {s : Shared} {R : L2.It → Hp → Prop} {J : L2.It} {tn : Nat → Heap → Prop} {oi : Obj} (I : Inv X pins σ H s) (T : Turn X.prog X.w X.K tg J [s.heap.objs.size] s.heap.objs.size tn) (h0 : tn 0 (s.heap.push oi)) (q : R J H) :
    PIE X pins σ tg R (.ref s.heap.objs.size) { s with heap := s.heap.push oi } := by
  have I' : Inv X pins σ H { s with heap := s.heap.push oi } := I.kept (t' := s.toks) fun b o e => Heap.get?_push_of_some _ e
  refine ⟨_, _, tn, J, H, rfl, I', T, h0, ?_, q⟩
  intro b hb
  rw [List.mem_singleton] at hb
  subst hb
  exact I.fpOk (Nat.le_refl _) (I.hok.fresh (Nat.le_refl _))
theorem ti_seq {e : Expr} (he : PE X e (TEof X.K ea)) : PI X tg e (TIof X.K (.seq ea)) := by
  refine ⟨fun pins s σ H R I h => ?_⟩
  obtain ⟨F, O, env, eo, hw⟩ := h
  have key := he.run pins s σ H (fun v H1 => ∃ xs a vs, v = .ref a ∧ (SqL X.K (Wo H1 O) a vs ∨ SqT X.K (Wo H1 O) a vs) ∧ DpAll X.K (Wo H1 O) vs xs ∧ ∀ J, Wk X.K O H1 J xs → xs.length ≤ sizeLine → R J H1) I
    (te_then eo hw fun r1 env1 v1 H1 q1 e1 c1 s1 a1 => by
      obtain ⟨xs, a, vs, q, h1, h2, h3⟩ := res_seq s1 q1
      exact ⟨xs, a, vs, h1, h2, h3, fun J hJ hl => q J H1 e1 c1 hJ hl⟩)
  refine thn key ?_
  rintro v s1 ⟨y, H1, I1, ry, xs, a, vs, rfl, hs, hd, q⟩
  cases ry
  rcases hs with hs | hs
  · obtain ⟨its, rv, pl, hz⟩ := I1.list (wo_all.seq hs)
    have hl : xs.length ≤ sizeLine := by rw [← dps_len hd]; exact hz
    refine wpAny_pyIter_list pl.isList ?_
    exact it_of I1 (turn_list a _) ⟨_, Heap.get?_push_size _ rfl, rfl, rfl⟩ (q _ (wk_list hs hd) hl)
  · obtain ⟨its, rv, pl, hz⟩ := I1.tuple (sq_t wo_all hs)
    have hl : xs.length ≤ sizeLine := by rw [← dps_len hd]; exact hz
    refine wpAny_pyIter_tuple (show s1.heap.IsTuple a its.toArray from pl) ?_
    exact it_of I1 (turn_tuple a _) ⟨_, Heap.get?_push_size _ rfl, rfl, rfl⟩ (q _ (wk_tup hs hd) hl)
theorem ti_range1 {a : Expr} (hg : Gl X "range") (hm : X.mg "range" = none) (ha : PE X a (TEof X.K ea)) (hs : starEach [a] X.env = [(false, eval a X.env)]) : PI X tg (.Call (.Name "range" p) [a] [] pos) (TIof X.K (.range1 ea)) :=
  pi_weak (pi_range1 hg hm (pa_cons ha pa_nil hs) hs) fun σ H R ⟨F, O, env, eo, hw⟩ => te_then eo hw fun r1 env1 v1 H1 q1 e1 c1 s1 a1 => by
    split at q1
    · rename_i n
      cases (show Dp X.K _ v1 (.int _) from s1)
      obtain ⟨⟨_, _, h1, h2, h3⟩, q⟩ := q1
      have hl : (rangeL 0 n).length ≤ sizeLine := by rw [range_len]; omega
      refine ⟨n, rfl, by omega, by omega, ?_⟩
      · have := q (Itr 0 (n - 0).toNat) H1 e1 c1 wk_range hl
        rw [Int.sub_zero] at this
        exact this
    · exact q1.elim
theorem ti_range2 {a b : Expr} (hg : Gl X "range") (hm : X.mg "range" = none) (ha : PE X a (TEof X.K ea)) (hb : PE X b (TEof X.K eb)) (hs : starEach [a, b] X.env = [(false, eval a X.env), (false, eval b X.env)]) (hs2 : starEach [b] X.env = [(false, eval b X.env)]) : PI X tg (.Call (.Name "range" p) [a, b] [] pos) (TIof X.K (.range2 ea eb)) :=
  pi_weak (pi_range2 hg hm (pa_cons ha (pa_cons hb pa_nil hs2) (by rw [hs, hs2])) hs hs2) fun σ H R ⟨F, O, env, eo, hw⟩ => te_then eo hw fun r1 env1 v1 H1 q1 e1 c1 s1 a1 => te_then e1 q1 fun r2 env2 v2 H2 q2 e2 c2 s2 a2 => by
    split at q2
    · rename_i m n
      cases (show Dp X.K _ v1 (.int _) from s1)
      cases (show Dp X.K _ v2 (.int _) from s2)
      obtain ⟨⟨h1, h2, h3, h4, h5⟩, q⟩ := q2
      have hl : (rangeL m n).length ≤ sizeLine := by rw [range_len]; omega
      exact ⟨m, n, rfl, ⟨by omega, by omega, by omega, by omega⟩, q (Itr m (n - m).toNat) H2 e2 (c1.trans c2) wk_range hl⟩
    · exact q2.elim
theorem ti_enum {e : Expr} {elts : List Expr} {kk : Nat} {tpos : Pos} (hg : Gl X "enumerate") (hm : X.mg "enumerate" = none) (he : PE X e (TEof X.K ea)) (hs : starEach [e] X.env = [(false, eval e X.env)]) : PI X (.Tuple elts kk tpos) (.Call (.Name "enumerate" p) [e] [] pos) (TIof X.K (.enum ea)) :=
  pi_weak (pi_enum hg hm (pa_sz (pa_cons he pa_nil hs)) hs) fun σ H R ⟨F, O, env, eo, hw⟩ => te_then eo hw fun r1 env1 v1 H1 q1 e1 c1 s1 a1 => by
    obtain ⟨xs, a, vs, q, rfl, h2, h3⟩ := res_lst s1 q1
    intro sz
    have hl := sz _ List.mem_cons_self a vs rfl (wo_all.seq h2)
    exact ⟨a, vs, rfl, wo_all.seq h2, q _ H1 e1 c1 (wk_enum h2 h3) (by rw [enum_len, ← dps_len h3]; exact hl)⟩
theorem ti_zip {e e2 : Expr} {elts : List Expr} {kk : Nat} {tpos : Pos} (hg : Gl X "zip") (hm : X.mg "zip" = none) (he : PE X e (TEof X.K ea)) (he2 : PE X e2 (TEof X.K eb)) (hs : starEach [e, e2] X.env = (false, eval e X.env) :: starEach [e2] X.env) (hs2 : starEach [e2] X.env = [(false, eval e2 X.env)]) (hpl : (backTo pos (starEach [e2] X.env)).any (·.1) = false) :
    PI X (.Tuple elts kk tpos) (.Call (.Name "zip" p) [e, e2] [] pos) (TIof X.K (.zip ea eb)) :=
  pi_weak (pi_zip hg hm (pa_sz (pa_cons he (pa_cons he2 pa_nil hs2) hs)) hs hpl) fun σ H R ⟨F, O, env, eo, hw⟩ => te_then eo hw fun r1 env1 v1 H1 q1 e1 c1 s1 a1 => te_then e1 q1 fun r2 env2 v2 H2 q2 e2 c2 s2 a2 => by
    obtain ⟨xs, a, vs, q, rfl, h2, h3⟩ := res_lst (s1.chg c2) q2
    obtain ⟨ys, b, us, q, rfl, g2, g3⟩ := res_lst s2 q
    intro sz
    have hl := sz _ List.mem_cons_self a vs rfl (wo_all.seq h2)
    exact ⟨a, b, vs, us, rfl, wo_all.seq h2, wo_all.seq g2, q _ H2 e2 (c1.trans c2) (wk_zip h2 h3 g2 g3) (by rw [zip_len, ← dps_len h3, ← dps_len g3]; omega)⟩
/-! ### targets -/
def gsOf : List Nat → TGs
  | [] => gNil
  | i :: is => gCons (gName i) (gsOf is)
def TGof (K : PySem.W.Frag) : Tg → TG
  | .nm i => gName i
  | .tp is => gTup K is.length (gsOf is)
def tgSlots : Tg → List Nat
  | .nm i => [i]
  | .tp is => is
def setsV (σ : L2.St) : List Nat → List V → L2.St
  | i :: is, v :: vs => setsV (σ.set i (some v)) is vs
  | _, _ => σ
theorem gs_ok {K : PySem.W.Frag} {O : List Addr} {H : Hp} : ∀ {is : List Nat} {vs : List V} {xs : List PyData} {σ : L2.St} {env : AEnv} {Q : L2.St → Hp → Prop}, EnvOk K F O H σ env → DpAll K (Wo H O) vs xs → xs.length = is.length → (∀ i ∈ is, ∀ p, F.par i ≠ some p) → (EnvOk K F O H (setsV σ is vs) (setMany is xs env) → Q (setsV σ is vs) H) → gsOf is vs σ H Q
  | [], _, _, σ, env, Q, eo, .nil, _, _, k => ⟨rfl, k eo⟩
  | [], _, _, σ, env, Q, eo, .cons _ _, hl, _, k => by simp at hl
  | i :: is, _, _, σ, env, Q, eo, .nil, hl, _, k => by simp at hl
  | i :: is, v :: vs, x :: xs, σ, env, Q, eo, .cons h t, hl, hp, k =>
    ⟨v, vs, rfl, gs_ok (eo.setD (hp i List.mem_cons_self) h) t (by simpa using hl) (fun j hj => hp j (List.mem_cons_of_mem _ hj)) k⟩
/-- a target stored -/
theorem tg_ok {K : PySem.W.Frag} {O : List Addr} {H : Hp} {tg : Tg} {v : V} {x : PyData} {σ : L2.St} {env : AEnv} {k : AEnv → Prop} {Q : L2.St → Hp → Prop} (eo : EnvOk K F O H σ env) (hx : Dp K (Wo H O) v x) (hq : tgK tg x env k) (hp : ∀ i ∈ tgSlots tg, ∀ p, F.par i ≠ some p)
    (hk : ∀ vs env', (∃ ws, vs = setsV σ (tgSlots tg) ws) → k env' → EnvOk K F O H vs env' → Q vs H) : TGof K tg v σ H Q := by
  cases tg with
  | nm i => exact hk _ _ ⟨[v], rfl⟩ hq (eo.setD (hp i List.mem_cons_self) hx)
  | tp is =>
    unfold tgK at hq
    simp only at hq
    split at hq
    · obtain ⟨hl, hq⟩ := hq
      cases hx with
      | tup h t => exact ⟨_, _, rfl, sq_t wo_all h, by rw [dps_len t]; exact hl, gs_ok eo t hl hp fun e => hk _ _ ⟨_, rfl⟩ hq e⟩
    · exact hq.elim
/-! ### comprehensions -/
theorem get_wipe {env : AEnv} {j : Nat} {v : AV} : ∀ {own : List (Str × Nat)}, getE (wipeE env own) j = some v → getE env j = some v ∧ j ∉ own.map (·.2)
  | [], h => ⟨h, by simp⟩
  | p :: r, h => by
    have h : getE (setE (wipeE env r) p.2 none) j = some v := h
    rw [get_set] at h
    split at h
    · split at h <;> cases h
    · rename_i hj
      obtain ⟨h1, h2⟩ := get_wipe h
      exact ⟨h1, by simp only [List.map_cons, List.mem_cons, not_or]; exact ⟨hj, h2⟩⟩
theorem get_wipe_of {env : AEnv} {j : Nat} : ∀ {own : List (Str × Nat)}, j ∉ own.map (·.2) → getE (wipeE env own) j = getE env j
  | [], h => rfl
  | p :: r, h => by
    simp only [List.map_cons, List.mem_cons, not_or] at h
    show getE (setE (wipeE env r) p.2 none) j = _
    rw [get_set_ne h.1]
    exact get_wipe_of h.2
theorem wipe_out {σ : L2.St} {j : Nat} : ∀ {vs : List Nat}, j ∉ vs → (wipe σ vs)[j]? = σ[j]?
  | [], _ => rfl
  | v :: vs, h => by
    simp only [List.mem_cons, not_or] at h
    unfold wipe
    rw [List.getElem?_set_ne (Ne.symm h.1)]
    exact wipe_out h.2
theorem wipeE_len (env : AEnv) : ∀ own : List (Str × Nat), (wipeE env own).length = env.length
  | [] => rfl
  | p :: r => by show (setE (wipeE env r) p.2 none).length = _; rw [setE_len, wipeE_len env r]
theorem EnvOk.wipe {K : PySem.W.Frag} {O : List Addr} {H : Hp} {σ : L2.St} {env : AEnv} (e : EnvOk K F O H σ env) (own : List (Str × Nat)) (hp : ∀ i ∈ own.map (·.2), ∀ p, F.par i ≠ some p) : EnvOk K F O H (wipe σ (own.map (·.2))) (wipeE env own) where
  len := by rw [wipe_length, wipeE_len]; exact e.len
  dat := fun j x h => by
    obtain ⟨h1, h2⟩ := get_wipe h
    rw [wipe_out h2]
    exact e.dat j x h1
  own := fun j x h => by
    obtain ⟨h1, h2⟩ := get_wipe h
    rw [wipe_out h2]
    exact e.own j x h1
  nob := fun j m h => e.nob j m (get_wipe h).1
  inj := fun j m ds ds' p q1 q2 r1 r2 => by
    obtain ⟨h1, h2⟩ := get_wipe q1
    obtain ⟨h3, h4⟩ := get_wipe q2
    rw [wipe_out h2] at r1
    rw [wipe_out h4] at r2
    exact e.inj j m ds ds' p h1 h3 r1 r2
  live := e.live
  sub := e.sub
  new := e.new
  keep := e.keep
  ownF := fun j ds p q r => by
    obtain ⟨h1, h2⟩ := get_wipe q
    rw [wipe_out h2] at r
    exact e.ownF j ds p h1 r
  par := fun j p q => by
    have hj : j ∉ own.map (·.2) := fun z => hp j z p q
    rw [wipe_out hj, get_wipe_of hj]
    exact e.par j p q
/-- one more address that nobody of ours has -/
theorem EnvOk.more {K : PySem.W.Frag} {O : List Addr} {H : Hp} {σ : L2.St} {env : AEnv} (e : EnvOk K F O H σ env) {p : Addr} {o : HO} (hp : H p = none) : EnvOk K F (p :: O) (upd H p o) σ env where
  len := e.len
  dat := fun j x h => by
    obtain ⟨v, h1, h2⟩ := e.dat j x h
    exact ⟨v, h1, dp_mono (wo_new hp) h2⟩
  own := fun j x h => by
    obtain ⟨a, us, h1, h2, h3, h4⟩ := e.own j x h
    exact ⟨a, us, h1, List.mem_cons_of_mem _ h2, by rw [upd_ne (ne_of_none h3 hp)]; exact h3, dps_mono (wo_new hp) h4⟩
  nob := e.nob
  inj := e.inj
  live := fun a ha z => by
    rcases List.mem_cons.mp ha with h | h
    · subst h; rw [upd_same] at z; cases z
    · have := e.live a h
      rw [upd_ne (fun q => this (by rw [q]; exact hp))] at z
      exact this z
  sub := fun a ha => List.mem_cons_of_mem _ (e.sub a ha)
  new := fun a ha => by
    rcases List.mem_cons.mp ha with h | h
    · subst h; exact .inr (e.fresh0 hp)
    · exact e.new a h
  keep := fun a u h n => by
    have := e.keep a u h n
    rw [upd_ne (ne_of_none this hp)]
    exact this
  ownF := e.ownF
  par := e.par
/-- its list written -/
theorem EnvOk.wr {K : PySem.W.Frag} {O : List Addr} {H : Hp} {σ : L2.St} {env : AEnv} (e : EnvOk K F (p' :: O) H σ env) {o : HO} (ne : ∀ i ds a, getE env i = some (.o ds) → σ[i]? = some (some (.ref a)) → a ≠ p') (hf : F.H0 p' = none) : EnvOk K F (p' :: O) (upd H p' o) σ env := by
  have sm : Same (Wo H (p' :: O)) (Wo (upd H p' o) (p' :: O)) := fun a u h => by
    obtain ⟨n, h⟩ := wo_some h
    rw [wo_out n, upd_ne (fun z => n (by rw [z]; exact List.mem_cons_self))]
    exact h
  refine ⟨e.len, fun j x h => ?_, fun j x h => ?_, e.nob, e.inj, fun a ha z => ?_, e.sub, e.new, fun a u h n => ?_, e.ownF, e.par⟩
  · obtain ⟨v, h1, h2⟩ := e.dat j x h
    exact ⟨v, h1, dp_mono sm h2⟩
  · obtain ⟨a, us, h1, h2, h3, h4⟩ := e.own j x h
    exact ⟨a, us, h1, h2, by rw [upd_ne (ne j x a h h1)]; exact h3, dps_mono sm h4⟩
  · by_cases q : a = p'
    · subst q; rw [upd_same] at z; cases z
    · rw [upd_ne q] at z; exact e.live a ha z
  · have q : a ≠ p' := fun z => by subst z; rw [hf] at h; cases h
    rw [upd_ne q]
    exact e.keep a u h n
theorem wipe_sets {σ : L2.St} {vs : List Nat} : ∀ {is : List Nat} {ws : List V} {τ : L2.St}, (∀ i ∈ is, i ∈ vs) → wipe τ vs = wipe σ vs → wipe (setsV τ is ws) vs = wipe σ vs
  | [], _, τ, _, h => h
  | i :: is, [], τ, _, h => h
  | i :: is, w :: ws, τ, hi, h => by
    have one : ∀ (vs : List Nat) (τ : L2.St), i ∈ vs → wipe (τ.set i (some w)) vs = wipe τ vs := by
      intro vs
      induction vs with
      | nil => intro τ h; cases h
      | cons v vs ih =>
        intro τ hm
        show (wipe (τ.set i (some w)) vs).set v none = (wipe τ vs).set v none
        by_cases hv : v = i
        · subst hv
          have set_wipe : ∀ (vs : List Nat) (τ : L2.St), (wipe (τ.set v (some w)) vs).set v none = (wipe τ vs).set v none := by
            intro vs
            induction vs with
            | nil => intro τ; show (τ.set v (some w)).set v none = τ.set v none; rw [List.set_set]
            | cons u us ih =>
              intro τ
              show ((wipe (τ.set v (some w)) us).set u none).set v none = ((wipe τ us).set u none).set v none
              by_cases hu : u = v
              · subst hu; rw [List.set_set, List.set_set]; exact ih τ
              · rw [List.set_comm _ _ hu, ih τ, List.set_comm _ _ hu]
          exact set_wipe vs τ
        · rcases List.mem_cons.mp hm with z | z
          · exact absurd z.symm hv
          · rw [ih τ z]
    exact wipe_sets (is := is) (ws := ws) (τ := τ.set i (some w)) (fun j hj => hi j (List.mem_cons_of_mem _ hj)) ((one vs τ (hi i List.mem_cons_self)).trans h)
theorem wipe_wipe (σ : L2.St) (vs : List Nat) : wipe (wipe σ vs) vs = wipe σ vs := by
  have sw : ∀ (us : List Nat) (τ : L2.St) (i : Nat), (wipe (τ.set i none) us).set i none = (wipe τ us).set i none := by
    intro us
    induction us with
    | nil => intro τ i; show (τ.set i none).set i none = τ.set i none; rw [List.set_set]
    | cons u us ih =>
      intro τ i
      show ((wipe (τ.set i none) us).set u none).set i none = ((wipe τ us).set u none).set i none
      by_cases hu : u = i
      · subst hu; rw [List.set_set, List.set_set]; exact ih τ u
      · rw [List.set_comm _ _ hu, ih τ i, List.set_comm _ _ hu]
  induction vs with
  | nil => rfl
  | cons v vs ih =>
    show (wipe ((wipe σ vs).set v none) vs).set v none = (wipe σ vs).set v none
    rw [sw, ih]
theorem noOwn_ok {env : AEnv} : ∀ {own : List (Str × Nat)}, noOwn env own → ∀ i ∈ own.map (·.2), ∀ ds, getE env i ≠ some (.o ds)
  | [], _, i, hi, _ => by simp at hi
  | p :: r, h, i, hi, ds => by
    simp only [List.map_cons, List.mem_cons] at hi
    rcases hi with rfl | hi
    · intro z
      have h1 := h.1
      rw [z] at h1
      exact h1
    · exact noOwn_ok h.2 i hi ds
theorem get_back {old env : AEnv} {j : Nat} (hl : env.length = old.length) : ∀ own : List (Str × Nat), getE (backE old env own) j = if j ∈ own.map (·.2) then getE old j else getE env j
  | [] => by simp [backE]
  | p :: r => by
    have ih := get_back (j := j) hl r
    have len : ∀ r : List (Str × Nat), (backE old env r).length = old.length := by
      intro r
      induction r with
      | nil => exact hl
      | cons q r ih => show (setE (backE old env r) q.2 (getE old q.2)).length = _; rw [setE_len, ih]
    show getE (setE (backE old env r) p.2 (getE old p.2)) j = _
    rw [get_set]
    by_cases hj : j = p.2
    · subst hj
      rw [if_pos rfl, if_pos (show p.2 ∈ (p :: r).map (·.2) by simp)]
      by_cases h : p.2 < (backE old env r).length
      · rw [if_pos h]
      · rw [if_neg h]
        cases q : getE old p.2 with
        | none => rfl
        | some v => have := getE_len q; rw [len] at h; omega
    · rw [if_neg hj, ih]
      simp only [List.map_cons, List.mem_cons]
      by_cases h2 : j ∈ r.map (·.2)
      · rw [if_pos h2, if_pos (.inr h2)]
      · rw [if_neg h2, if_neg (by intro z; rcases z with z | z; exact hj z; exact h2 z)]
theorem back_len {old env : AEnv} (hl : env.length = old.length) : ∀ r : List (Str × Nat), (backE old env r).length = old.length
  | [] => hl
  | q :: r => by show (setE (backE old env r) q.2 (getE old q.2)).length = _; rw [setE_len, back_len hl r]
/-- behind a comprehension -/
theorem EnvOk.behind {K : PySem.W.Frag} {O : List Addr} {D : Addr} {H H' : Hp} {σ : L2.St} {env env' : AEnv} {own : List (Str × Nat)} (e0 : EnvOk K F O H σ env) (hD : H D = none) (e : EnvOk K F (D :: O) H' (L2.wipe σ (own.map (·.2))) (wipeE env' own)) (sh : Shp env env') (c : Chg O H H') (no : noOwn env own) :
    EnvOk K F O H' σ (backE env env' own) ∧ Av K O D H' σ (backE env env' own) := by
  have sm : Same (Wo H O) (Wo H' (D :: O)) := fun a o z => by
    obtain ⟨n, z⟩ := wo_some z
    have ne := ne_of_none z hD
    rw [wo_out (by simp only [List.mem_cons, not_or]; exact ⟨ne, n⟩)]
    exact c a o z n
  have gb := fun j => get_back (j := j) sh.2 own
  have dat : ∀ j x, getE (backE env env' own) j = some (.d x) → ∃ v, σ[j]? = some (some v) ∧ Dp K (Wo H' (D :: O)) v x := fun j x h => by
    rw [gb j] at h
    split at h
    · obtain ⟨v, h1, h2⟩ := e0.dat j x h
      exact ⟨v, h1, dp_mono sm h2⟩
    · rename_i hj
      obtain ⟨v, h1, h2⟩ := e.dat j x (by rw [get_wipe_of hj]; exact h)
      rw [wipe_out hj] at h1
      exact ⟨v, h1, h2⟩
  have ownp : ∀ j ds, getE (backE env env' own) j = some (.o ds) → j ∉ own.map (·.2) ∧ getE (wipeE env' own) j = some (.o ds) ∧ ∃ ds', getE env j = some (.o ds') := fun j ds h => by
    rw [gb j] at h
    split at h
    · rename_i hj
      exact (noOwn_ok no j hj ds h).elim
    · rename_i hj
      exact ⟨hj, by rw [get_wipe_of hj]; exact h, sh.1 j ds h⟩
  have own' : ∀ j xs, getE (backE env env' own) j = some (.o xs) → ∃ a us, σ[j]? = some (some (.ref a)) ∧ a ∈ O ∧ H' a = some (.lst us) ∧ DpAll K (Wo H' (D :: O)) us xs := fun j xs h => by
    obtain ⟨hj, h1, ds', h2⟩ := ownp j xs h
    obtain ⟨a, us, g1, g2, g3, g4⟩ := e.own j xs h1
    rw [wipe_out hj] at g1
    obtain ⟨a', us', k1, k2, k3, _⟩ := e0.own j ds' h2
    rw [g1] at k1; cases k1
    exact ⟨a, us, g1, k2, g3, g4⟩
  refine ⟨⟨by rw [back_len sh.2]; exact e0.len, fun j x h => ?_, fun j x h => ?_, fun j m h => ?_, fun j m ds ds' a q1 q2 r1 r2 => ?_, fun a ha => e.live a (List.mem_cons_of_mem _ ha), e0.sub, e0.new, e.keep, fun j ds a q r => ?_, fun j a q => ?_⟩, ⟨dat, own'⟩⟩
  · obtain ⟨v, h1, h2⟩ := dat j x h
    exact ⟨v, h1, dp_mono wo_cons h2⟩
  · obtain ⟨a, us, h1, h2, h3, h4⟩ := own' j x h
    exact ⟨a, us, h1, h2, h3, dps_mono wo_cons h4⟩
  · rw [gb j] at h
    split at h
    · exact e0.nob j m h
    · rename_i hj
      exact e.nob j m (by rw [get_wipe_of hj]; exact h)
  · obtain ⟨_, _, x1, h1⟩ := ownp j ds q1
    obtain ⟨_, _, x2, h2⟩ := ownp m ds' q2
    exact e0.inj j m _ _ a h1 h2 r1 r2
  · obtain ⟨_, _, x1, h1⟩ := ownp j ds q
    exact e0.ownF j _ a h1 r
  · obtain ⟨h1, ds, h2⟩ := e0.par j a q
    refine ⟨h1, ?_⟩
    have hj : j ∉ own.map (·.2) := fun z => noOwn_ok no j z ds h2
    obtain ⟨_, xs, h3⟩ := e.par j a q
    rw [get_wipe_of hj] at h3
    exact ⟨xs, by rw [gb j, if_neg hj]; exact h3⟩
/-! ### the entry as it is now -/
def Fi.now (O : List Addr) (H : Hp) (σ : L2.St) (env : AEnv) : Fi := ⟨O, H, fun i => match getE env i, σ[i]? with | some (.o _), some (some (.ref p)) => some p | _, _ => none⟩
theorem now_par {O : List Addr} {H : Hp} {σ : L2.St} {env : AEnv} {i : Nat} {p : Addr} : (Fi.now O H σ env).par i = some p ↔ (∃ ds, getE env i = some (.o ds)) ∧ σ[i]? = some (some (.ref p)) := by
  show (match getE env i, σ[i]? with | some (.o _), some (some (.ref p)) => some p | _, _ => none) = some p ↔ _
  constructor
  · intro h
    split at h
    · rename_i ds q h1 h2
      cases h
      exact ⟨⟨ds, h1⟩, h2⟩
    · cases h
  · rintro ⟨⟨ds, h1⟩, h2⟩
    rw [h1, h2]
theorem EnvOk.rebase {K : PySem.W.Frag} {O : List Addr} {H : Hp} {σ : L2.St} {env : AEnv} (e : EnvOk K F O H σ env) : EnvOk K (Fi.now O H σ env) O H σ env where
  len := e.len
  dat := e.dat
  own := e.own
  nob := e.nob
  inj := e.inj
  live := e.live
  sub := fun _ h => h
  new := fun _ h => .inl h
  keep := fun _ _ h _ => h
  ownF := fun i ds p h1 h2 => .inl ⟨i, now_par.mpr ⟨⟨ds, h1⟩, h2⟩⟩
  par := fun i p h => ⟨(now_par.mp h).2, (now_par.mp h).1⟩
theorem EnvOk.unbase {K : PySem.W.Frag} {O : List Addr} {H H' : Hp} {σ : L2.St} {env env' : AEnv} (e : EnvOk K F O H σ env) (e' : EnvOk K (Fi.now O H σ env) O H' σ env') (sh : Shp env env') : EnvOk K F O H' σ env' where
  len := e'.len
  dat := e'.dat
  own := e'.own
  nob := e'.nob
  inj := e'.inj
  live := e'.live
  sub := e.sub
  new := e.new
  keep := fun a o h n => e'.keep a o (e.keep a o h n) fun ⟨i, hi⟩ => by
    obtain ⟨⟨ds, h1⟩, h2⟩ := now_par.mp hi
    rcases e.ownF i ds a h1 h2 with q | q
    · exact n q
    · rw [q] at h; cases h
  ownF := fun i ds p h1 h2 => by
    obtain ⟨ds', h3⟩ := sh.1 i ds h1
    exact e.ownF i ds' p h3 h2
  par := fun i p h => by
    obtain ⟨h1, ds, h2⟩ := e.par i p h
    exact e'.par i p (now_par.mpr ⟨⟨ds, h2⟩, h1⟩)
/-- what no slot owns stays through an expression -/
theorem now_keep {K : PySem.W.Frag} {O : List Addr} {H H' : Hp} {σ : L2.St} {env env' : AEnv} (e' : EnvOk K (Fi.now O H σ env) O H' σ env') {a : Addr} {o : HO} (h : H a = some o) (n : ∀ i ds, getE env i = some (.o ds) → σ[i]? ≠ some (some (.ref a))) : H' a = some o :=
  e'.keep a o h fun ⟨i, hi⟩ => by
    obtain ⟨⟨ds, h1⟩, h2⟩ := now_par.mp hi
    exact n i ds h1 h2
def ttOf (K : PySem.W.Frag) (cond : Option Unit) (c : E) : TT := match cond with
  | none => tYes
  | some _ => TTof K c
theorem drop_get {α : Type} {xs : List α} {i : Nat} {d : α} (h : xs[i]? = some d) : xs.drop i = d :: xs.drop (i + 1) := by
  obtain ⟨h1, h2⟩ := List.getElem?_eq_some_iff.mp h
  rw [List.drop_eq_getElem_cons h1, h2]
theorem lc_red {K : PySem.W.Frag} {elt c : E} {cond : Option Unit} {tg : Tg} {it : PF.It} {own : List (Str × Nat)} {σ : L2.St} {H : Hp} {Q : VK} (hsl : ∀ i ∈ tgSlots tg, i ∈ own.map (·.2)) (h : TEof K (.comp elt cond c tg it own) σ H Q) :
    tLc (TIof K it) (TGof K tg) (ttOf K cond c) (TEof K elt) (own.map (·.2)) σ H Q := by
  obtain ⟨F, O, env, eo, hw⟩ := h
  unfold wE at hw
  refine ⟨F, O, env, eo, wIt_mono it (fun items env1 q J H1 e1 c1 wk hl D hD => ?_) hw⟩
  obtain ⟨no, q⟩ := q
  have hpar : ∀ i ∈ own.map (·.2), ∀ p, F.par i ≠ some p := fun i hi p z => by
    obtain ⟨_, ds, h2⟩ := e1.par i p z
    exact noOwn_ok no i hi ds h2
  have nO := e1.notO hD
  have fD := e1.fresh0 hD
  generalize hQf : (fun ds env2 => ∀ v H', EnvOk K F O H' σ (backE env1 env2 own) → Chg O H H' → Res K O H H' σ v (.o ds) → AvR K O H' σ (backE env1 env2 own) v (.o ds) → Q v H') = Qf at q
  have slotD : ∀ {env2 : AEnv} i ds a, Shp env1 env2 → getE (wipeE env2 own) i = some (.o ds) → (wipe σ (own.map (·.2)))[i]? = some (some (.ref a)) → a ≠ D := fun {env2} i ds a sh h1 h2 z => by
    obtain ⟨h3, h4⟩ := get_wipe h1
    obtain ⟨ds', h5⟩ := sh.1 i ds h3
    rw [wipe_out h4] at h2
    obtain ⟨p, us, g1, g2, g3, _⟩ := e1.own i ds' h5
    rw [h2] at g1; cases g1
    subst z
    rw [hD] at g3; cases g3
  refine ⟨fun i m H' => ∃ env2 acc vsa, EnvOk K F (D :: O) H' (wipe σ (own.map (·.2))) (wipeE env2 own) ∧ Shp env1 env2 ∧ H' D = some (.lst vsa) ∧ DpAll K (Wo H' (D :: O)) vsa acc ∧ acc.length ≤ i ∧ i ≤ items.length ∧ m = items.length - i ∧ Chg O H1 H' ∧
      compW cond (fun e q => wE c e q X0) (fun e q => wE elt e q X0) tg own (items.drop i) env2 acc Qf,
    ⟨items.length - 0, env1, [], [], (e1.wipe own hpar).more hD, .refl, upd_same, .nil, Nat.le_refl _, Nat.zero_le _, rfl, chg_new hD, q⟩, ?_⟩
  rintro i m H' ⟨env2, acc, vsa, e2, sh, hDl, hacc, hal, hil, rfl, c2, q⟩
  have ext : Ext O H1 (D :: O) H' := ⟨c2, fun p hp => by
    rcases List.mem_cons.mp hp with z | z
    · subst z; exact .inr hD
    · exact .inl z⟩
  have W := wk (D :: O) H' ext e2.live i
  by_cases hi : i < items.length
  · have hx : items[i]? = some items[i] := List.getElem?_eq_getElem hi
    obtain ⟨go, yl⟩ := W.1 _ hx
    rw [drop_get hx] at q
    refine .inr ⟨go, _, fun H'' z => ⟨items.length - (i + 1), by omega, z⟩, fun x H'' hy => ?_⟩
    obtain ⟨sm, dx⟩ := yl x H'' hy
    have e3 := e2.grow sm
    have c3 : Chg O H1 H'' := c2.trans fun a o h _ => sm a o h
    have hD3 : H'' D = some (.lst vsa) := sm _ _ hDl
    have hacc3 : DpAll K (Wo H'' (D :: O)) vsa acc := dps_mono (Chg.wo fun a o h _ => sm a o h) hacc
    refine tg_ok e3 dx (tgK_shp q) (fun i hi => hpar i (hsl i hi)) ?_
    rintro σ2 env3 ⟨ws, rfl⟩ ⟨sh3, q3⟩ e4
    have hwp : wipe (setsV (wipe σ (own.map (·.2))) (tgSlots tg) ws) (own.map (·.2)) = wipe σ (own.map (·.2)) := wipe_sets hsl (wipe_wipe _ _)
    refine ⟨hwp, ?_⟩
    have shA : Shp env1 env3 := (sh.trans (shp_wipe own)).trans sh3
    generalize setsV (wipe σ (own.map (·.2))) (tgSlots tg) ws = σ2 at e4 hwp ⊢
    -- no slot owns D
    have nD : ∀ {env' : AEnv}, Shp env1 env' → EnvOk K F (D :: O) H'' σ2 env' ∨ True → ∀ i ds, getE env' i = some (.o ds) → σ2[i]? ≠ some (some (.ref D)) := fun {env'} shp _ i ds h1 h2 => by
      obtain ⟨ds', h3⟩ := shp.1 i ds h1
      have hni : i ∉ own.map (·.2) := fun z => noOwn_ok no i z ds' h3
      have h4 : (wipe σ2 (own.map (·.2)))[i]? = some (some (.ref D)) := by rw [wipe_out hni]; exact h2
      rw [hwp, wipe_out hni] at h4
      obtain ⟨p, us, g1, g2, g3, _⟩ := e1.own i ds' h3
      rw [h4] at g1; cases g1
      rw [hD] at g3; cases g3
    -- the element
    have elem : ∀ {env' : AEnv} {H3 : Hp}, Shp env1 env' → EnvOk K F (D :: O) H3 σ2 env' → Chg O H1 H3 → H3 D = some (.lst vsa) → DpAll K (Wo H3 (D :: O)) vsa acc →
        wE elt env' (fun v env3 => dataK v fun y => compW cond (fun e q => wE c e q X0) (fun e q => wE elt e q X0) tg own (items.drop (i + 1)) env3 (acc ++ [y]) Qf) X0 →
        TEof K elt σ2 H3 fun y H4 => ∃ acc', H4 D = some (.lst acc') ∧ acc'.length < sizeLine ∧ ∃ env2 acc vsa, EnvOk K F (D :: O) (upd H4 D (.lst (acc' ++ [y]))) (wipe σ (own.map (·.2))) (wipeE env2 own) ∧ Shp env1 env2 ∧ (upd H4 D (.lst (acc' ++ [y]))) D = some (.lst vsa) ∧ DpAll K (Wo (upd H4 D (.lst (acc' ++ [y]))) (D :: O)) vsa acc ∧
          acc.length ≤ i + 1 ∧ i + 1 ≤ items.length ∧ items.length - (i + 1) = items.length - (i + 1) ∧ Chg O H1 (upd H4 D (.lst (acc' ++ [y]))) ∧ compW cond (fun e q => wE c e q X0) (fun e q => wE elt e q X0) tg own (items.drop (i + 1)) env2 acc Qf := by
      intro env' H3 shp e5 c5 hD5 hacc5 q5
      refine te_then e5.rebase (wE_shp elt q5) fun r env6 v H4 q6 e6 c6 s6 a6 => ?_
      obtain ⟨sh6, q6⟩ := q6
      obtain ⟨y, q6, hy⟩ := res_data s6 q6
      have hD6 : H4 D = some (.lst vsa) := now_keep e6 hD5 (nD shp (.inr trivial))
      have e7 := e5.unbase e6 sh6
      have sh7 := shp.trans sh6
      have e8 := e7.wipe own hpar
      rw [hwp] at e8
      have smD : Same (Wo H4 (D :: O)) (Wo (upd H4 D (.lst (vsa ++ [v]))) (D :: O)) := fun a u h => by
        obtain ⟨n, h⟩ := wo_some h
        rw [wo_out n, upd_ne (fun z => n (by rw [z]; exact List.mem_cons_self))]
        exact h
      have hav : DpAll K (Wo H4 (D :: O)) vsa acc := dps_mono c6.wo hacc5
      refine ⟨vsa, hD6, by rw [dps_len hacc]; omega, env6, acc ++ [y], vsa ++ [v], e8.wr (fun i ds a h1 h2 => slotD i ds a sh7 h1 h2) fD, sh7, upd_same, dps_mono smD (dps_append hav (.cons hy .nil)), by rw [List.length_append]; simp; omega, hi, rfl, ?_, q6⟩
      intro a o h n
      have ne : a ≠ D := ne_of_none h hD
      rw [upd_ne ne]
      exact c6 a o (c5 a o h n) (by simp only [List.mem_cons, not_or]; exact ⟨ne, n⟩)
    cases cond with
    | none => exact elem shA e4 c3 hD3 hacc3 q3
    | some u =>
      refine tt_then (q := fun b env2 => (if b = true then wE elt env2 (fun v env3 => dataK v fun y => compW (some u) (fun e q => wE c e q X0) (fun e q => wE elt e q X0) tg own (items.drop (i + 1)) env3 (acc ++ [y]) Qf) X0
          else compW (some u) (fun e q => wE c e q X0) (fun e q => wE elt e q X0) tg own (items.drop (i + 1)) env2 acc Qf) ∧ Shp env3 env2) e4.rebase ?_ fun b env6 H6 q6 e6 c6 => ?_
      · exact wE_mono c (fun r e z => truthK_mono (fun b w => ⟨w, z.1⟩) z.2) (wE_shp c q3)
      · obtain ⟨q6, sh6⟩ := q6
        have hD6 : H6 D = some (.lst vsa) := now_keep e6 hD3 (nD shA (.inr trivial))
        have e7 := e4.unbase e6 sh6
        have c7 : Chg O H1 H6 := fun a o h n => c6 a o (c3 a o h n) (by simp only [List.mem_cons, not_or]; exact ⟨ne_of_none h hD, n⟩)
        have hacc7 : DpAll K (Wo H6 (D :: O)) vsa acc := dps_mono c6.wo hacc3
        have sh7 := shA.trans sh6
        cases b with
        | true =>
          rw [if_pos rfl] at q6 ⊢
          exact elem sh7 e7 c7 hD6 hacc7 q6
        | false =>
          rw [if_neg Bool.false_ne_true] at q6 ⊢
          have e8 := e7.wipe own hpar
          rw [hwp] at e8
          exact ⟨env6, acc, vsa, e8, sh7, hD6, hacc7, by omega, hi, rfl, c7, q6⟩
  · have hie : i = items.length := by omega
    subst hie
    refine .inl ⟨W.2 (Nat.le_refl _), ?_⟩
    rw [List.drop_length] at q
    have q : Qf acc env2 := q
    rw [← hQf] at q
    obtain ⟨eb, av⟩ := EnvOk.behind e1 hD e2 sh c2 no
    have cH : Chg O H H' := c1.trans c2
    have hDH : H D = none := by
      cases z : H D with
      | none => rfl
      | some o => rw [c1 _ _ z nO] at hD; cases hD
    exact q (.ref D) H' eb cH ⟨D, vsa, rfl, hDH, nO, hDl, hacc⟩ fun p z => by cases z; exact av
end
end PF

set_option maxRecDepth 100000
set_option maxHeartbeats 400000
namespace PF
open PySem PySem.Spec PyProof.Rows L2
/-! ### statements -/
def ends (K : PySem.W.Frag) (F : Fi) (O : List Addr) (H : Hp) (D : Ends) : AEnds where
  nx := fun env' => ∀ σ' H' O', EnvOk K F O' H' σ' env' → Ext O H O' H' → D.nx σ' H'
  rt := fun r env' => ∀ v σ' H' O', EnvOk K F O' H' σ' env' → Res K O' F.H0 H' σ' v r → AvR K O' H' σ' env' v r → D.rt v H'
  bk := fun env' => ∀ σ' H' O', EnvOk K F O' H' σ' env' → Ext O H O' H' → D.bk σ' H'
  ct := fun env' => ∀ σ' H' O', EnvOk K F O' H' σ' env' → Ext O H O' H' → D.ct σ' H'
/-- what is lent stands in the slots R -/
structure FR (F : Fi) (R : List Nat) : Prop where
  par : ∀ i p, F.par i = some p → i ∈ R
  lv : ∀ p ∈ F.O0, F.H0 p ≠ none
def TSof (K : PySem.W.Frag) (R : List Nat) (s : S) : TS := fun D σ H => ∃ (F : Fi) (O : List Addr) (env : AEnv), FR F R ∧ EnvOk K F O H σ env ∧ wS X0 s env (ends K F O H D)
def TSsof (K : PySem.W.Frag) (R : List Nat) (ss : Ss) : TS := fun D σ H => ∃ (F : Fi) (O : List Addr) (env : AEnv), FR F R ∧ EnvOk K F O H σ env ∧ wSs X0 ss env (ends K F O H D)
theorem ends_ext {K : PySem.W.Frag} {F : Fi} {O O' : List Addr} {H H' : Hp} {D : Ends} (x : Ext O H O' H') : (ends K F O H D).Le (ends K F O' H' D) :=
  ⟨fun _ h σ2 H2 O2 e y => h σ2 H2 O2 e (x.trans y), fun _ _ h => h, fun _ h σ2 H2 O2 e y => h σ2 H2 O2 e (x.trans y), fun _ h σ2 H2 O2 e y => h σ2 H2 O2 e (x.trans y)⟩
section
variable {X : Cx} {F : Fi} {R : List Nat} {pos : Pos}
theorem FR.no (f : FR F R) {i : Nat} (hi : i ∉ R) : ∀ p, F.par i ≠ some p := fun p z => hi (f.par i p z)
theorem set_ok {K : PySem.W.Frag} {O : List Addr} {H H1 : Hp} {σ : L2.St} {env env1 : AEnv} {i : Nat} {v : V} {r : AV} {D : Ends} (fr : FR F R) (hi : i ∉ R) (eo : EnvOk K F O H σ env) (e1 : EnvOk K F O H1 σ env1) (c1 : Chg O H H1) (s1 : Res K O H H1 σ v r) (a1 : AvR K O H1 σ env1 v r)
    (q : match r with | .b _ => False | v => (ends K F O H D).nx (setE env1 i (some v))) : D.nx (σ.set i (some v)) H1 := by
  cases r with
  | b j => exact q.elim
  | d x => exact q _ _ O (e1.setD (fr.no hi) s1) (.of c1)
  | o ds =>
    obtain ⟨p, vs, rfl, n, no, hp, hd⟩ := s1
    have av := a1 p rfl
    refine q _ _ (p :: O) (e1.setO (fr.no hi) (eo.fresh0 n) no hp hd (.inr trivial) av.dat av.own) ⟨c1, fun a ha => ?_⟩
    rcases List.mem_cons.mp ha with z | z
    · subst z; exact .inr n
    · exact .inl z
theorem asg_red {K : PySem.W.Frag} {i : Nat} {e : E} (hi : i ∉ R) {D : Ends} {σ : L2.St} {H : Hp} (h : TSof K R (.asg i e) D σ H) : tAsg (TEof K e) (gName i) D σ H := by
  obtain ⟨F, O, env, fr, eo, hw⟩ := h
  exact te_then eo hw fun r env1 v H1 q e1 c1 s1 a1 => set_ok fr hi eo e1 c1 s1 a1 (by cases r <;> exact q)
theorem asgF_red {K : PySem.W.Frag} {i : Nat} {e : E} (hi : i ∉ R) {D : Ends} {σ : L2.St} {H : Hp} (h : TSof K R (.asgF i e) D σ H) : tAsg (TEof K e) (gName i) D σ H := by
  obtain ⟨F, O, env, fr, eo, hw⟩ := h
  refine te_then eo hw fun r env1 v H1 q e1 c1 s1 a1 => ?_
  obtain ⟨x, q, hx⟩ := res_data s1 q
  exact q _ _ O (e1.setD (fr.no hi) hx) (.of c1)
theorem ts_asg {i : Nat} {x : Str} {e : Expr} {ea : E} {px : Pos} (hi' : i ∉ R) (hN : X.N.Nodup) (hi : X.N[i]? = some x) (hx : Loc X.env.scope x) (he : PE X e (TEof X.K ea)) (hs : swapsWith e (some (.Name x px)) pos.line X.env = pure false) (hf : X.fn x = true ∨ X.env.scope.names.lookup x = some .local) :
    PS X (.Assign [.Name x px] e pos) (TSof X.K R (.asg i ea)) := ps_weak (ps_set hN hi hx he hs hf) fun D σ H h => asg_red hi' h
theorem ts_asgF {i : Nat} {x : Str} {e : Expr} {ea : E} {px : Pos} (hi' : i ∉ R) (hN : X.N.Nodup) (hi : X.N[i]? = some x) (hx : Loc X.env.scope x) (he : PE X e (TEof X.K ea)) (hs : swapsWith e (some (.Name x px)) pos.line X.env = pure false) (hf : X.fn x = true ∨ X.env.scope.names.lookup x = some .local) :
    PS X (.Assign [.Name x px] e pos) (TSof X.K R (.asgF i ea)) := ps_weak (ps_set hN hi hx he hs hf) fun D σ H h => asgF_red hi' h
theorem ts_expr {e : Expr} {ea : E} (he : PE X e (TEof X.K ea)) (hs : swapsWith e none pos.line X.env = pure false) : PS X (.Expr e pos) (TSof X.K R (.expr ea)) :=
  ps_weak (ps_expr he hs) fun D σ H ⟨F, O, env, fr, eo, hw⟩ => te_then eo hw fun r env1 v H1 q e1 c1 s1 a1 => q _ _ O e1 (.of c1)
theorem ts_ret {e : Expr} {ea : E} (he : PE X e (TEof X.K ea)) : PS X (.Return (some e) pos) (TSof X.K R (.ret ea)) :=
  ps_weak (ps_ret he) fun D σ H ⟨F, O, env, fr, eo, hw⟩ => te_then eo hw fun r env1 v H1 q e1 c1 s1 a1 => by
    refine q v σ H1 O e1 ?_ a1
    cases r with
    | d x => exact s1
    | b j => exact s1
    | o ds =>
      obtain ⟨p, vs, rfl, n, no, hp, hd⟩ := s1
      exact ⟨p, vs, rfl, eo.fresh0 n, no, hp, hd⟩
theorem ts_retN : PS X (.Return none pos) (TSof X.K R .retN) := ps_weak ps_retN fun D σ H ⟨F, O, env, fr, eo, hw⟩ => hw .non σ H O eo .non trivial
theorem ts_pass : PS X (.Pass pos) (TSof X.K R .pass) := ps_weak ps_pass fun D σ H ⟨F, O, env, fr, eo, hw⟩ => hw σ H O eo .refl
theorem ts_brk : PS X (.Break pos) (TSof X.K R .brk) := ps_weak ps_break fun D σ H ⟨F, O, env, fr, eo, hw⟩ => hw σ H O eo .refl
theorem ts_cont : PS X (.Continue pos) (TSof X.K R .cont) := ps_weak ps_continue fun D σ H ⟨F, O, env, fr, eo, hw⟩ => hw σ H O eo .refl
theorem ts_raise {st : Stmt} {x : Str} : PS X st (TSof X.K R (.raise x)) := ps_weak ps_never fun D σ H ⟨F, O, env, fr, eo, hw⟩ => hw
theorem tss_nil : PSs X [] (TSsof X.K R .nil) := pss_weak pss_nil fun D σ H ⟨F, O, env, fr, eo, hw⟩ => hw σ H O eo .refl
theorem tss_cons {st : Stmt} {sts : List Stmt} {s : S} {ss : Ss} (h1 : PS X st (TSof X.K R s)) (h2 : PSs X sts (TSsof X.K R ss)) : PSs X (st :: sts) (TSsof X.K R (.cons s ss)) :=
  pss_weak (pss_cons h1 h2) fun D σ H ⟨F, O, env, fr, eo, hw⟩ => by
    unfold wSs at hw
    refine ⟨F, O, env, fr, eo, wS_mono s (D := { (ends X.K F O H D) with nx := fun env1 => wSs X0 ss env1 (ends X.K F O H D) }) ⟨fun env1 q σ' H' O' e x => ?_, fun _ _ h => h, fun _ h => h, fun _ h => h⟩ hw⟩
    exact ⟨F, O', env1, fr, e, wSs_mono ss (ends_ext x) q⟩
/-- a list that is not changed any more -/
theorem EnvOk.freeze {K : PySem.W.Frag} {O : List Addr} {H : Hp} {σ : L2.St} {env : AEnv} (fr : FR F R) {j : Nat} {ds : List PyData} (hj : j ∉ R) (e : EnvOk K F O H σ env) (h : getE env j = some (.o ds)) : ∃ O', EnvOk K F O' H σ (setE env j (some (.d (.list ds)))) ∧ Ext O H O' H := by
  obtain ⟨p, vs, h1, h2, h3, h4⟩ := e.own j ds h
  have hl := getE_len h
  have hH0 : F.H0 p = none := by
    rcases e.ownF j ds p h h1 with ⟨i, hi⟩ | z
    · obtain ⟨g1, xs, g2⟩ := e.par i p hi
      have : i = j := e.inj i j _ _ p g2 h g1 h1
      subst this
      exact (hj (fr.par i p hi)).elim
    · exact z
  have hsub : ∀ a, a ∈ O.filter (fun a => decide (a ≠ p)) → a ∈ O := fun a ha => (List.mem_filter.mp ha).1
  have hno : p ∉ O.filter (fun a => decide (a ≠ p)) := fun z => (of_decide_eq_true (List.mem_filter.mp z).2) rfl
  have hin : ∀ a, a ∈ O → a ≠ p → a ∈ O.filter (fun a => decide (a ≠ p)) := fun a ha hn => List.mem_filter.mpr ⟨ha, decide_eq_true hn⟩
  have sm : Same (Wo H O) (Wo H (O.filter (fun a => decide (a ≠ p)))) := wo_sub hsub
  have go : ∀ i xs, getE (setE env j (some (.d (.list ds)))) i = some (.o xs) → i ≠ j ∧ getE env i = some (.o xs) := fun i xs q => by
    rw [get_set] at q
    split at q
    · first | (split at q <;> cases q) | cases q
    · exact ⟨by assumption, q⟩
  refine ⟨O.filter (fun a => decide (a ≠ p)), ⟨by rw [setE_len]; exact e.len, fun i x q => ?_, fun i xs q => ?_, fun i m q => ?_, fun i m xs ys a q1 q2 r1 r2 => ?_, fun a ha => e.live a (hsub a ha), fun a ha => ?_, fun a ha => e.new a (hsub a ha), e.keep, fun i xs a q r => ?_, fun i a q => ?_⟩, ⟨.refl, fun a ha => .inl (hsub a ha)⟩⟩
  · by_cases hij : i = j
    · subst hij
      rw [get_set_same hl] at q; cases q
      exact ⟨.ref p, h1, .lst (.inl (.inl (by rw [wo_out hno]; exact h3))) (dps_mono sm h4)⟩
    · rw [get_set_ne hij] at q
      obtain ⟨v, g1, g2⟩ := e.dat i x q
      exact ⟨v, g1, dp_mono sm g2⟩
  · obtain ⟨hij, q⟩ := go i xs q
    obtain ⟨a, us, g1, g2, g3, g4⟩ := e.own i xs q
    have ne : a ≠ p := fun z => by subst z; exact hij (e.inj i j _ _ _ q h g1 h1)
    exact ⟨a, us, g1, hin a g2 ne, g3, dps_mono sm g4⟩
  · rw [get_set] at q
    split at q
    · first | (split at q <;> cases q) | cases q
    · exact e.nob i m q
  · obtain ⟨_, q1⟩ := go i xs q1
    obtain ⟨_, q2⟩ := go m ys q2
    exact e.inj i m _ _ a q1 q2 r1 r2
  · refine hin a (e.sub a ha) fun z => ?_
    subst z
    exact fr.lv _ ha hH0
  · obtain ⟨_, q⟩ := go i xs q
    exact e.ownF i xs a q r
  · obtain ⟨g1, xs, g2⟩ := e.par i a q
    have hij : i ≠ j := fun z => by subst z; exact hj (fr.par i a q)
    exact ⟨g1, xs, by rw [get_set_ne hij]; exact g2⟩
theorem tss_frz {sts : List Stmt} {j : Nat} {ss : Ss} (hj : j ∉ R) (h : PSs X sts (TSsof X.K R ss)) : PSs X sts (TSsof X.K R (.cons (.frz j) ss)) :=
  pss_weak h fun D σ H ⟨F, O, env, fr, eo, hw⟩ => by
    unfold wSs wS at hw
    split at hw
    · rename_i ds hg
      obtain ⟨O', e', x⟩ := EnvOk.freeze fr hj eo hg
      exact ⟨F, O', _, fr, e', wSs_mono ss (ends_ext x) hw⟩
    · exact hw.elim
theorem ts_ite {c : Expr} {a b : List Stmt} {ec : E} {sa sb : Ss} (hc : PT X c (TTof X.K ec)) (ha : PSs X a (TSsof X.K R sa)) (hb : PSs X b (TSsof X.K R sb)) : PS X (.If c a b pos) (TSof X.K R (.ite ec sa sb)) :=
  ps_weak (ps_if hc ha hb) fun D σ H ⟨F, O, env, fr, eo, hw⟩ => tt_then (q := fun t env1 => if t = true then wSs X0 sa env1 _ else wSs X0 sb env1 _) eo hw fun t env1 H1 q1 e1 c1 =>
    ite_mono (fun q => ⟨F, O, env1, fr, e1, wSs_mono sa (ends_ext (.of c1)) q⟩) (fun q => ⟨F, O, env1, fr, e1, wSs_mono sb (ends_ext (.of c1)) q⟩) q1
theorem for_red {K : PySem.W.Frag} {tg : Tg} {it : PF.It} {body : Ss} (hsl : ∀ i ∈ tgSlots tg, i ∉ R) {D : Ends} {σ : L2.St} {H : Hp} (h : TSof K R (.forS tg it body) D σ H) : tFor (TIof K it) (TGof K tg) (TSsof K R body) D σ H := by
  obtain ⟨F, O, env, fr, eo, hw⟩ := h
  unfold wS at hw
  refine ⟨F, O, env, eo, wIt_mono it (fun items env1 q J H1 e1 c1 wk hl => ?_) hw⟩
  refine ⟨fun i m σ' H' => ∃ env' O', EnvOk K F O' H' σ' env' ∧ Ext O H1 O' H' ∧ i ≤ items.length ∧ m = items.length - i ∧ forW (fun e D' => wSs X0 body e D') tg (ends K F O H D) (items.drop i) env',
    ⟨items.length - 0, env1, O, e1, .refl, Nat.zero_le _, rfl, q⟩, ?_⟩
  rintro i m σ' H' ⟨env', O', e', x, hil, rfl, q⟩
  have W := wk O' H' x e'.live i
  have x0 : Ext O H O' H' := Ext.trans (.of c1) x
  by_cases hi : i < items.length
  · have hx : items[i]? = some items[i] := List.getElem?_eq_getElem hi
    obtain ⟨go, yl⟩ := W.1 _ hx
    rw [drop_get hx] at q
    refine .inr ⟨go, _, fun σ2 H2 z => ⟨items.length - (i + 1), by omega, z⟩, fun v H'' hy => ?_⟩
    obtain ⟨sm, dx⟩ := yl v H'' hy
    have xs : Ext O' H' O' H'' := .of fun a o h _ => sm a o h
    unfold forW at q
    refine tg_ok (e'.grow sm) dx q (fun i hi => fr.no (hsl i hi)) ?_
    rintro σ2 env2 _ q2 e2
    refine ⟨F, O', env2, fr, e2, wSs_mono body (D := { (ends K F O H D) with nx := forW (fun e D' => wSs X0 body e D') tg (ends K F O H D) (items.drop (i + 1)), ct := forW (fun e D' => wSs X0 body e D') tg (ends K F O H D) (items.drop (i + 1)), bk := (ends K F O H D).nx }) ⟨fun env3 q3 σ3 H3 O3 e3 x3 => ?_, fun _ _ h => h, fun env3 q3 σ3 H3 O3 e3 x3 => ?_, fun env3 q3 σ3 H3 O3 e3 x3 => ?_⟩ q2⟩
    · exact ⟨env3, O3, e3, (x.trans xs).trans x3, hi, rfl, q3⟩
    · exact q3 σ3 H3 O3 e3 ((x0.trans xs).trans x3)
    · exact ⟨env3, O3, e3, (x.trans xs).trans x3, hi, rfl, q3⟩
  · have hie : i = items.length := by omega
    subst hie
    rw [List.drop_length] at q
    exact .inl ⟨W.2 (Nat.le_refl _), q σ' H' O' e' x0⟩
theorem while_red {K : PySem.W.Frag} {c : E} {body : Ss} {D : Ends} {σ : L2.St} {H : Hp} (h : TSof K R (.whl c body) D σ H) : tWhile (TTof K c) (TSsof K R body) D σ H := by
  obtain ⟨F, O, env, fr, eo, hw⟩ := h
  unfold wS whileW at hw
  obtain ⟨W, ⟨m0, w0⟩, turn⟩ := hw
  refine ⟨fun m σ' H' => ∃ env' O', EnvOk K F O' H' σ' env' ∧ Ext O H O' H' ∧ W m env', ⟨m0, env, O, eo, .refl, w0⟩, ?_⟩
  rintro m σ' H' ⟨env', O', e', x, w⟩
  refine tt_then (q := fun b env1 => if b = true then ∃ N : AEnv → Prop, (∀ env', N env' → ∃ m', m' < m ∧ W m' env') ∧ wSs X0 body env1 { (ends K F O H D) with nx := N, ct := N, bk := (ends K F O H D).nx } else (ends K F O H D).nx env1) e' (turn m env' w) fun b env1 H1 q e1 c1 => ?_
  have x1 : Ext O H O' H1 := x.trans (.of c1)
  cases b with
  | true =>
    rw [if_pos rfl] at q ⊢
    obtain ⟨N, hN, q⟩ := q
    refine ⟨fun σ2 H2 => ∃ env2 O2, EnvOk K F O2 H2 σ2 env2 ∧ Ext O H O2 H2 ∧ N env2, ?_, ?_⟩
    · rintro σ2 H2 ⟨env2, O2, e2, x2, n2⟩
      obtain ⟨m', hm, w'⟩ := hN env2 n2
      exact ⟨m', hm, env2, O2, e2, x2, w'⟩
    · refine ⟨F, O', env1, fr, e1, wSs_mono body (D := { (ends K F O H D) with nx := N, ct := N, bk := (ends K F O H D).nx }) ⟨fun env3 q3 σ3 H3 O3 e3 x3 => ?_, fun _ _ h => h, fun env3 q3 σ3 H3 O3 e3 x3 => ?_, fun env3 q3 σ3 H3 O3 e3 x3 => ?_⟩ q⟩
      · exact ⟨env3, O3, e3, x1.trans x3, q3⟩
      · exact q3 σ3 H3 O3 e3 (x1.trans x3)
      · exact ⟨env3, O3, e3, x1.trans x3, q3⟩
  | false =>
    rw [if_neg Bool.false_ne_true] at q ⊢
    exact q σ' H1 O' e1 x1
/-! ### several names at once -/
theorem par_rd {K : PySem.W.Frag} {is : List Nat} {es : Es} {D : Ends} {σ : L2.St} {H : Hp} (hsl : ∀ i ∈ is, i ∉ R) (h : TSof K R (.par is es) D σ H) : TAof K es σ H fun vs H1 => vs.length = is.length ∧ D.nx (setsV σ is vs) H1 := by
  obtain ⟨F, O, env, fr, eo, hw⟩ := h
  refine ta_then eo hw fun rs env1 vs H1 q e1 c1 s1 => ?_
  obtain ⟨xs, ⟨hl, q⟩, hd⟩ := res_datas s1 q
  refine ⟨by rw [dps_len hd]; exact hl, ?_⟩
  have key : gsOf is vs σ H1 D.nx := gs_ok e1 hd hl (fun i hi => fr.no (hsl i hi)) fun e => q _ _ O e (.of c1)
  have un : ∀ {is : List Nat} {vs : List V} {σ : L2.St}, gsOf is vs σ H1 D.nx → vs.length = is.length → D.nx (setsV σ is vs) H1 := by
    intro is
    induction is with
    | nil => rintro vs σ ⟨rfl, h⟩ _; exact h
    | cons i is ih => rintro vs σ ⟨v, r, rfl, h⟩ hl; exact ih h (by simpa using hl)
  exact un key (by rw [dps_len hd]; exact hl)
theorem par_tup {K : PySem.W.Frag} {is : List Nat} {es : Es} {D : Ends} {σ : L2.St} {H : Hp} (hsl : ∀ i ∈ is, i ∉ R) (h : TSof K R (.par is es) D σ H) : tAsg (TEof K (.tup es)) (TGof K (.tp is)) D σ H := by
  obtain ⟨F, O, env, fr, eo, hw⟩ := h
  refine ⟨F, O, env, eo, ?_⟩
  unfold wS at hw
  unfold wE
  refine wEs_mono es (fun rs env1 q => datasK_mono (fun xs q v H1 e1 c1 s1 a1 => ?_) q) hw
  exact tg_ok (tg := .tp is) (k := (ends K F O H D).nx) e1 s1 q (fun i hi => fr.no (hsl i hi)) fun σ2 env2 _ q2 e2 => q2 _ _ O e2 (.of c1)
theorem unp_red {K : PySem.W.Frag} {is : List Nat} {e : E} {D : Ends} {σ : L2.St} {H : Hp} (hsl : ∀ i ∈ is, i ∉ R) (h : TSof K R (.unp is e) D σ H) : tAsg (TEof K e) (TGof K (.tp is)) D σ H := by
  obtain ⟨F, O, env, fr, eo, hw⟩ := h
  refine te_then eo hw fun r env1 v H1 q e1 c1 s1 a1 => ?_
  split at q
  · exact tg_ok (k := (ends K F O H D).nx) e1 s1 q (fun i hi => fr.no (hsl i hi)) fun σ2 env2 _ q2 e2 => q2 _ _ O e2 (.of c1)
  · exact q.elim
/-! ### lists changed in place -/
theorem own_at {K : PySem.W.Frag} {O : List Addr} {H : Hp} {σ : L2.St} {env : AEnv} {j : Nat} {ds : List PyData} (e : EnvOk K F O H σ env) (h : getE env j = some (.o ds)) : ∃ p vs, σ[j]? = some (some (.ref p)) ∧ p ∈ O ∧ H p = some (.lst vs) ∧ DpAll K (Wo H O) vs ds := e.own j ds h
theorem put_ok {K : PySem.W.Frag} {O : List Addr} {H H1 : Hp} {σ : L2.St} {env1 : AEnv} {j : Nat} {ds ds' : List PyData} {p : Addr} {vs' : List V} {D : Ends} (e1 : EnvOk K F O H1 σ env1) (c1 : Chg O H H1) (h : getE env1 j = some (.o ds)) (hp : σ[j]? = some (some (.ref p))) (hO : p ∈ O) (hd : DpAll K (Wo H1 O) vs' ds')
    (q : (ends K F O H D).nx (setE env1 j (some (.o ds')))) : D.nx σ (upd H1 p (.lst vs')) := by
  have c2 : Chg O H1 (upd H1 p (.lst vs')) := fun a o z n => by
    rw [upd_ne (fun w => n (by rw [w]; exact hO))]
    exact z
  exact q σ _ O (e1.put h hp c2 (fun a o z ne => by rw [upd_ne ne]; exact z) upd_same (dps_mono c2.wo hd)) (.of (c1.trans c2))
theorem append_red {j : Nat} {e : E} {D : Ends} {σ : L2.St} {H : Hp} {K : PySem.W.Frag} (h : TSof K R (.append j e) D σ H) : tDrop (tBM K "list" rAppend (tVar j) (tCons (TEof K e) tNil)) D σ H := by
  obtain ⟨F, O, env, fr, eo, hw⟩ := h
  unfold wS at hw
  split at hw
  · rename_i ds0 hg
    obtain ⟨p, vs, h1, h2, h3, h4⟩ := eo.own j _ hg
    refine ⟨.ref p, h1, .inl ⟨rfl, vs, .inl (.inl h3)⟩, te_then eo hw fun r env1 v H1 q e1 c1 s1 a1 => ?_⟩
    obtain ⟨x, q, hx⟩ := res_data s1 q
    split at q
    · rename_i ds hg1
      obtain ⟨p', vs', g1, g2, g3, g4⟩ := e1.own j ds hg1
      rw [h1] at g1; cases g1
      exact ⟨p, vs', v, rfl, rfl, g3, by rw [dps_len g4]; exact q.1, put_ok e1 c1 hg1 h1 g2 (dps_append g4 (.cons hx .nil)) q.2⟩
    · exact q.elim
  · exact hw.elim
theorem insert_red {j : Nat} {i e : E} {D : Ends} {σ : L2.St} {H : Hp} {K : PySem.W.Frag} (h : TSof K R (.insert j i e) D σ H) : tDrop (tBM K "list" (fun x vs H Q => ∃ (l : Addr) (xs : List V) (i : Int) (y : V), x = .ref l ∧ vs = [.int i, y] ∧ H l = some (.lst xs) ∧ xs.length < sizeLine ∧ 0 ≤ i ∧ i < 2 ^ 63 ∧
    Q .non (upd H l (.lst (xs.take i.toNat ++ [y] ++ xs.drop i.toNat)))) (tVar j) (tCons (TEof K i) (tCons (TEof K e) tNil))) D σ H := by
  obtain ⟨F, O, env, fr, eo, hw⟩ := h
  unfold wS at hw
  split at hw
  · rename_i ds0 hg
    obtain ⟨p, vs, h1, h2, h3, h4⟩ := eo.own j _ hg
    refine ⟨.ref p, h1, .inl ⟨rfl, vs, .inl (.inl h3)⟩, te_then eo hw fun r env1 v H1 q e1 c1 s1 a1 => te_then e1 q fun r2 env2 v2 H2 q2 e2 c2 s2 a2 => ?_⟩
    obtain ⟨x, q2, hx⟩ := res_data s2 q2
    split at q2
    · rename_i n ds hg1 _
      cases (show Dp K _ v (.int _) from s1)
      obtain ⟨p', vs', g1, g2, g3, g4⟩ := e2.own j ds hg1
      rw [h1] at g1; cases g1
      obtain ⟨⟨b1, b2, b3⟩, q2⟩ := q2
      refine ⟨p, vs', n, v2, rfl, rfl, g3, by rw [dps_len g4]; exact b3, b1, b2, put_ok e2 (c1.trans c2) hg1 h1 g2 ?_ q2⟩
      rw [List.append_assoc]
      exact dps_append (dps_take _ g4) (.cons hx (dps_drop _ g4))
    · exact q2.elim
  · exact hw.elim
theorem setIx_red {j : Nat} {i e : E} {D : Ends} {σ : L2.St} {H : Hp} {K : PySem.W.Frag} (h : TSof K R (.setIx j i e) D σ H) : tAsg (TEof K e) (gSub (tVar j) (TEof K i) rSetL) D σ H := by
  obtain ⟨F, O, env, fr, eo, hw⟩ := h
  refine te_then eo hw fun r env1 v H1 q e1 c1 s1 a1 => ?_
  obtain ⟨x, q, hx⟩ := res_data s1 q
  split at q
  · rename_i ds0 hg
    obtain ⟨p, vs, h1, h2, h3, h4⟩ := e1.own j _ hg
    refine ⟨.ref p, h1, te_then e1 q fun r2 env2 v2 H2 q2 e2 c2 s2 a2 => ?_⟩
    split at q2
    · rename_i n ds hg1
      cases (show Dp K _ v2 (.int _) from s2)
      obtain ⟨p', vs', g1, g2, g3, g4⟩ := e2.own j ds hg1
      rw [h1] at g1; cases g1
      obtain ⟨⟨b1, b2⟩, q2⟩ := q2
      have hix : ixN vs'.length n = some n.toNat := by
        unfold ixN
        rw [if_pos b1, if_pos (by rw [dps_len g4]; exact b2)]
      exact ⟨p, vs', n, n.toNat, rfl, rfl, g3, hix, put_ok e2 (c1.trans c2) hg1 h1 g2 (dps_set (dp_mono c2.wo hx) _ g4) q2⟩
    · exact q2.elim
  · exact q.elim
/-! ### x op= e -/
def ipOf : BOp → TIp
  | .add => ipI fun i j => i + j
  | .sub => ipI fun i j => i - j
  | .mul => fun x y H Q => ∃ i j, x = .int i ∧ y = .int j ∧ mulOk i j ∧ Q (.int (i * j)) H
  | _ => fun _ _ _ _ => False
theorem ip_of (op : BOp) : PIp X (opOf op) (ipOf op) := by
  cases op with
  | add => exact ip_add
  | sub => exact ip_sub
  | mul =>
    intro pins s σ H x y v u Q I r1 r2 h
    obtain ⟨i, j, rfl, rfl, hm, q⟩ := h
    obtain ⟨t, rfl⟩ := r1
    obtain ⟨t', rfl⟩ := r2
    exact imul_int ⟨.int _, H, I.tok _, ⟨_, rfl⟩, q⟩ (CMulW.ok hm)
  | fdiv => exact fun _ _ _ _ _ _ _ _ _ _ _ _ h => h.elim
  | mod => exact fun _ _ _ _ _ _ _ _ _ _ _ _ h => h.elim
  | pow => exact fun _ _ _ _ _ _ _ _ _ _ _ _ h => h.elim
  | shl => exact fun _ _ _ _ _ _ _ _ _ _ _ _ h => h.elim
  | band => exact fun _ _ _ _ _ _ _ _ _ _ _ _ h => h.elim
def augOk : BOp → Bool
  | .add => true
  | .sub => true
  | .mul => true
  | _ => false
theorem aug_red {K : PySem.W.Frag} {i : Nat} {op : BOp} {e : E} {D : Ends} {σ : L2.St} {H : Hp} (hop : augOk op = true) (hi : i ∉ R) (h : TSof K R (.aug i op e) D σ H) : tAug i (TEof K e) (ipOf op) D σ H := by
  obtain ⟨F, O, env, fr, eo, hw⟩ := h
  unfold wS at hw
  split at hw
  · rename_i x hg
    obtain ⟨v0, h1, h2⟩ := eo.dat i x hg
    refine ⟨v0, h1, te_then eo hw fun r env1 v H1 q e1 c1 s1 a1 => ?_⟩
    split at q
    · rename_i y
      have hx := dp_mono c1.wo h2
      have s1 : Dp K (Wo H1 O) v y := s1
      have fin : ∀ z : Int, (ends K F O H D).nx (setE env1 i (some (.d (.int z)))) → D.nx (σ.set i (some (.int z))) H1 := fun z q => q _ _ O (e1.setD (fr.no hi) (.int z)) (.of c1)
      have itz : ∀ {op : BOp} {x y : PyData} {k : PyData → Prop}, augOk op = true → binK op x y (fun r => match r with | .d z => k z | _ => False) → ∃ m n : Int, x = .int m ∧ y = .int n := by
        intro op x y k ho q
        unfold binK at q
        split at q <;> first | exact ⟨_, _, rfl, rfl⟩ | exact q.2.elim | exact q.elim
      obtain ⟨m, n, rfl, rfl⟩ := itz (k := fun z => (ends K F O H D).nx (setE env1 i (some (.d z)))) hop q
      cases hx
      cases s1
      cases op with
      | add => exact ⟨_, _, rfl, rfl, fin _ q⟩
      | sub => exact ⟨_, _, rfl, rfl, fin _ q⟩
      | mul => exact ⟨_, _, rfl, rfl, q.1, fin _ q.2⟩
      | _ => cases hop
    · exact q.elim
  · exact hw.elim
end
end PF

set_option maxRecDepth 100000
set_option maxHeartbeats 1000000
namespace PF
open PySem PySem.Spec PyProof.Rows L2
/-! ### the text is what it is said to be -/
def isVis (sc : Scope) (x : Str) : Bool := match sc.names.lookup x with
  | some .local => true
  | some .cell => true
  | some .free => true
  | _ => false
def plainNm (x : Str) : Bool := !(x == ("__debug__" : Str)) && !(x == ("__classdict__" : Str))
def nameIs (Z : Sc) (i : Nat) (x : Str) : Bool := decide (Z.N[i]? = some x) && isVis Z.sc x && plainNm x
def glIs (Z : Sc) (x : Str) : Bool := decide (Z.sc.names.lookup x = some .globalImplicit) && plainNm x
def storeIs (Z : Sc) (i : Nat) (x : Str) : Bool := decide (Z.N[i]? = some x) && (decide (Z.sc.names.lookup x = some .local) || (decide (Z.sc.names.lookup x = some .cell) && Z.fn x))
def noStar : Expr → Bool
  | .Starred _ _ => false
  | _ => true
def noSlice : Expr → Bool
  | .Slice _ _ _ _ => false
  | _ => true
def noComp : Expr → Bool
  | .ListComp _ _ _ _ => false
  | .SetComp _ _ _ _ => false
  | .DictComp _ _ _ _ _ => false
  | _ => true
def noSet : Expr → Bool
  | .Set _ _ _ => false
  | _ => true
def plainTest : Expr → Bool
  | .UnaryOp .Not _ _ => false
  | .BoolOp _ _ _ => false
  | .IfExp _ _ _ _ => false
  | .Compare _ _ _ _ => false
  | _ => true
def bnames : List Str := ["len", "abs", "max", "min", "int", "sum", "any", "all", "list", "tuple", "sorted", "repr", "bool", "isinstance", "range", "enumerate", "zip", "str"]
theorem star_no {e : Expr} {es : List Expr} {env : Env} (h : noStar e = true) : starEach (e :: es) env = (false, eval e env) :: starEach es env := by
  cases e <;> first | rfl | cases h
def tyStr : Ty → Str
  | .int => "int" | .bool => "bool" | .str => "str" | .list => "list" | .tuple => "tuple"
def chkTgs (Z : Sc) : List Nat → List Expr → Bool
  | [], [] => true
  | i :: is, .Name x _ :: es => storeIs Z i x && chkTgs Z is es
  | _, _ => false
def chkTg (Z : Sc) : Tg → Expr → Bool
  | .nm i, .Name x _ => storeIs Z i x
  | .tp is, .Tuple es _ _ => chkTgs Z is es
  | _, _ => false
def arity : BI → Nat
  | .max2 => 2
  | .min2 => 2
  | _ => 1
def Sc.blk (Z : Sc) (scope : Scope) : Sc := { Z with sc := relS scope Z.sc, fn := fun x => scope.names.lookup x == some .cell }
def inSlots (tg : Tg) (own : List (Str × Nat)) : Bool := (tgSlots tg).all fun i => (own.map (·.2)).contains i
mutual
def chkE (Z : Sc) : E → Expr → Bool
  | .var i, e => match e with | .Name x _ => nameIs Z i x | _ => false
  | .int i, e => match e with | .Constant (.int j) _ _ => decide (i = j) | _ => false
  | .bool b, e => match e with | .Constant (.bool c) _ _ => decide (b = c) | _ => false
  | .none, e => match e with | .Constant .none _ _ => true | _ => false
  | .str s, e => match e with | .Constant (.str t) _ _ => decide (s = t) | _ => false
  | .glob x _, e => match e with | .Name y _ => decide (x = y) && glIs Z x | _ => false
  | .bin op a b, e => match e with | .BinOp l o r _ => decide (opOf op = o) && chkE Z a l && chkE Z b r | _ => false
  | .neg a, e => match e with | .UnaryOp .USub x _ => chkE Z a x | _ => false
  | .rep a n, e => match e with | .BinOp l .Mult r _ => chkE Z a l && chkE Z n r | _ => false
  | .not a, e => match e with | .UnaryOp .Not x _ => chkE Z a x | _ => false
  | .and a b, e => match e with
    | .BoolOp .And (l :: l2 :: rest) pos => chkE Z a l && (match rest with | [] => chkE Z b l2 | r :: rs => chkE Z b (.BoolOp .And (l2 :: r :: rs) pos))
    | _ => false
  | .or a b, e => match e with
    | .BoolOp .Or (l :: l2 :: rest) pos => chkE Z a l && (match rest with | [] => chkE Z b l2 | r :: rs => chkE Z b (.BoolOp .Or (l2 :: r :: rs) pos))
    | _ => false
  | .cmp op a b, e => match e with | .Compare l [o] [r] _ => decide (copOf op = o) && !behindInMarks o r && chkE Z a l && chkE Z b r | _ => false
  | .chain o1 o2 a b c, e => match e with | .Compare l [p1, p2] [r, r2] _ => decide (copOf o1 = p1) && decide (copOf o2 = p2) && !behindInMarks p2 r2 && chkE Z a l && chkE Z b r && chkE Z c r2 | _ => false
  | .ife c a b, e => match e with | .IfExp t x y _ => chkE Z c t && okT c && chkE Z a x && chkE Z b y | _ => false
  | .tup es, e => match e with | .Tuple xs _ _ => chkEs Z es xs && decide (xs.length ≤ 1000) | _ => false
  | .lst es, e => match e with | .List xs _ => chkEs Z es xs && decide (xs.length ≤ 1000) | _ => false
  | .ix a i, e => match e with | .Subscript x y _ => noSlice y && chkE Z a x && chkE Z i y | _ => false
  | .slL a lo, e => match e with | .Subscript x (.Slice (some l) none none _) _ => chkE Z a x && chkE Z lo l | _ => false
  | .slU a hi, e => match e with | .Subscript x (.Slice none (some l) none _) _ => chkE Z a x && chkE Z hi l | _ => false
  | .slLU a lo hi, e => match e with | .Subscript x (.Slice (some l) (some u) none _) _ => chkE Z a x && chkE Z lo l && chkE Z hi u | _ => false
  | .slRev a, e => match e with | .Subscript x (.Slice none none (some (.UnaryOp .USub (.Constant (.int 1) _ _) _)) _) _ => chkE Z a x | _ => false
  | .call x _ es, e => match e with | .Call (.Name y _) xs [] _ => decide (x = y) && glIs Z x && chkEs Z es xs | _ => false
  | .callK x _ _ ks es, e => match e with | .Call (.Name y _) [] kws _ => decide (x = y) && glIs Z x && chkK Z ks es kws | _ => false
  | .callO x _ a, e => match e with | .Call (.Name y _) [z] [] _ => decide (x = y) && glIs Z x && noStar z && chkE Z a z | _ => false
  | .bi f es, e => match e with | .Call (.Name y _) (a :: as) [] _ => decide (biName f = y) && decide (f ≠ .bool) && decide ((a :: as).length = arity f) && glIs Z y && chkEs Z es (a :: as) | _ => false
  | .inst a ts, e => match e, ts with | .Call (.Name y _) [x, .Name t _] [] _, [ty] => decide (y = "isinstance") && glIs Z y && decide (t = tyStr ty) && glIs Z t && noStar x && chkE Z a x | _, _ => false
  | .comp elt cond c tg it own, e => match e with
    | .ListComp x [⟨t, i, ifs, 0⟩] scope _ => blkC Z.N Z.sc scope own && chkIt Z it tg t i && chkTg (Z.blk scope) tg t && inSlots tg own && noSet i &&
        (match cond, ifs with | none, [] => true | some _, [y] => chkE (Z.blk scope) c y && okT c | _, _ => false) && chkE (Z.blk scope) elt x
    | _ => false
def chkEs (Z : Sc) : Es → List Expr → Bool
  | .nil, es => match es with | [] => true | _ => false
  | .cons e es, xs => match xs with | x :: xs => noStar x && chkE Z e x && chkEs Z es xs | _ => false
def chkK (Z : Sc) (ks : List Str) : Es → List Keyword → Bool
  | .nil, kws => match kws, ks with | [], [] => true | _, _ => false
  | .cons e es, kws => match kws, ks with | ⟨some n, x, _⟩ :: kws, k :: ks => decide (n = k) && chkE Z e x && chkK Z ks es kws | _, _ => false
def chkIt (Z : Sc) : PF.It → Tg → Expr → Expr → Bool
  | .seq e, _, _, i => chkE Z e i
  | .range1 a, _, _, i => match i with | .Call (.Name y _) [x] [] _ => decide (y = "range") && glIs Z y && noStar x && chkE Z a x | _ => false
  | .range2 a b, _, _, i => match i with | .Call (.Name y _) [x, x2] [] _ => decide (y = "range") && glIs Z y && noStar x && noStar x2 && chkE Z a x && chkE Z b x2 | _ => false
  | .enum e, tg, t, i => match i, tg with | .Call (.Name y _) [x] [] _, .tp _ => decide (y = "enumerate") && glIs Z y && noStar x && chkE Z e x | _, _ => false
  | .zip a b, tg, t, i => match i, tg with | .Call (.Name y _) [x, x2] [] _, .tp _ => decide (y = "zip") && glIs Z y && noStar x && noStar x2 && chkE Z a x && chkE Z b x2 | _, _ => false
/-- a test may be taken apart -/
def okT : E → Bool
  | .not a => okT a
  | .and a b => okT a && okT b
  | .or a b => okT a && okT b
  | .ife _ _ _ => false
  | _ => true
end
end PF

set_option maxRecDepth 100000
set_option maxHeartbeats 1000000
namespace PF
open PySem PySem.Spec PyProof.Rows L2
/-- what is called, what is named -/
structure Lk where
  C : Str → ASp → Prop
  CK : Str → ASp → List Str → List Str → Prop
  G : Str → PyData → Prop
mutual
def okE (L : Lk) : E → Prop
  | .var _ | .int _ | .bool _ | .none | .str _ => True
  | .glob x v => L.G x v
  | .bin _ a b => okE L a ∧ okE L b
  | .neg a => okE L a
  | .rep a b => okE L a ∧ okE L b
  | .not a => okE L a
  | .and a b => okE L a ∧ okE L b
  | .or a b => okE L a ∧ okE L b
  | .cmp _ a b => okE L a ∧ okE L b
  | .chain _ _ a b c => okE L a ∧ okE L b ∧ okE L c
  | .ife c a b => okE L c ∧ okE L a ∧ okE L b
  | .tup es => okEs L es
  | .lst es => okEs L es
  | .ix a b => okE L a ∧ okE L b
  | .slL a b => okE L a ∧ okE L b
  | .slU a b => okE L a ∧ okE L b
  | .slLU a b c => okE L a ∧ okE L b ∧ okE L c
  | .slRev a => okE L a
  | .call x sp es => L.C x sp ∧ okEs L es
  | .callK x sp ps ks es => L.CK x sp ps ks ∧ okEs L es
  | .callO x sp a => L.C x sp ∧ okE L a
  | .bi _ es => okEs L es
  | .inst a _ => okE L a
  | .comp elt _ c _ it _ => okE L elt ∧ okE L c ∧ okIt L it
def okEs (L : Lk) : Es → Prop
  | .nil => True
  | .cons e es => okE L e ∧ okEs L es
def okIt (L : Lk) : PF.It → Prop
  | .seq e => okE L e
  | .range1 a => okE L a
  | .range2 a b => okE L a ∧ okE L b
  | .enum e => okE L e
  | .zip a b => okE L a ∧ okE L b
end
structure Whr (P : Program) (w : World) (K : PySem.W.Frag) (mg : Str → Option Value) (base : Heap) (k : Nat) (Z : Sc) (X : Cx) : Prop where
  g : Good Z k X
  prog : X.prog = P
  w : X.w = w
  K : X.K = K
  mg : X.mg = mg
  base : X.base = base
  bn : ∀ x ∈ bnames, X.mg x = none
def lkOf (P : Program) (w : World) (K : PySem.W.Frag) (mg : Str → Option Value) (base : Heap) (k : Nat) : Lk := ⟨fun x sp => CallOk P w K mg base k x sp, fun x sp ps ks => CallKOk P w K mg base k x sp ps ks, fun x d => GlobOk K mg x d⟩
section
variable {P : Program} {w : World} {K : PySem.W.Frag} {mg : Str → Option Value} {base : Heap} {k : Nat} {Z : Sc} {X : Cx}
theorem Whr.u (c : Whr P w K mg base k Z X) : X.A.units + 70 < cLine := by have := c.g.room.un; omega
theorem Whr.gl (c : Whr P w K mg base k Z X) {x : Str} (h : glIs Z x = true) : Gl X x ∧ (x == ("__debug__" : Str)) = false := by
  unfold glIs plainNm at h
  simp only [Bool.and_eq_true, decide_eq_true_eq, Bool.not_eq_true'] at h
  refine ⟨?_, h.2.1⟩
  show X.env.scope.names.lookup x = _
  rw [c.g.sc]
  exact h.1
theorem Whr.no (c : Whr P w K mg base k Z X) {x : Str} (h : x ∈ bnames) : X.mg x = none := c.bn x h
theorem Whr.var (c : Whr P w K mg base k Z X) {i : Nat} {x : Str} (h : nameIs Z i x = true) : X.N[i]? = some x ∧ Vis X.env.scope x ∧ (x == ("__debug__" : Str)) = false ∧ (x == ("__classdict__" : Str)) = false := by
  unfold nameIs plainNm at h
  simp only [Bool.and_eq_true, decide_eq_true_eq, Bool.not_eq_true'] at h
  refine ⟨by rw [c.g.hN]; exact h.1.1, ?_, h.2.1, h.2.2⟩
  rw [c.g.sc]
  have h2 := h.1.2
  unfold isVis at h2
  split at h2
  · exact .inl (by assumption)
  · exact .inr (.inl (by assumption))
  · exact .inr (.inr (by assumption))
  · cases h2
theorem Whr.store (c : Whr P w K mg base k Z X) {i : Nat} {x : Str} (h : storeIs Z i x = true) : X.N[i]? = some x ∧ Loc X.env.scope x ∧ (X.fn x = true ∨ X.env.scope.names.lookup x = some .local) := by
  unfold storeIs at h
  simp only [Bool.and_eq_true, Bool.or_eq_true, decide_eq_true_eq] at h
  refine ⟨by rw [c.g.hN]; exact h.1, ?_, ?_⟩
  · rw [c.g.sc]
    rcases h.2 with q | q
    · exact .inl q
    · exact .inr q.1
  · rw [c.g.sc]
    rcases h.2 with q | q
    · exact .inr q
    · exact .inl (c.g.fn x q.2)
theorem Whr.nd (c : Whr P w K mg base k Z X) : X.N.Nodup := by rw [c.g.hN]; exact c.g.nd
/-- in a comprehension's block -/
theorem Whr.blk (c : Whr P w K mg base k Z X) {scope : Scope} (hs : scope.kind = .function) (s : Shared) (H : Hp) (C : Addr) (cl : List (Str × Addr)) (fp : List Addr) : Whr P w K mg base k (Z.blk scope) (X.blk s H scope (compEnvC scope cl C X.env) fp) := by
  refine ⟨⟨c.g.hN, c.g.nd, ?_, hs, fun x h => h, c.g.calm, c.g.room, c.g.guards, rfl⟩, c.prog, c.w, c.K, c.mg, c.base, c.bn⟩
  show relS scope X.env.scope = relS scope Z.sc
  rw [c.g.sc]
theorem pg_tgs (c : Whr P w K mg base k Z X) : ∀ {is : List Nat} {es : List Expr}, chkTgs Z is es = true → PGs X es (gsOf is) ∧ (assignEach es X.env).length = is.length ∧ (assignEach es X.env).findIdx? (·.1) = none
  | [], [], _ => ⟨pgs_nil, rfl, rfl⟩
  | i :: is, .Name x p :: es, h => by
    unfold chkTgs at h
    simp only [Bool.and_eq_true] at h
    obtain ⟨h1, h2⟩ := h
    obtain ⟨a, b, d⟩ := c.store h1
    obtain ⟨q1, q2, q3⟩ := pg_tgs c h2
    refine ⟨pgs_cons (pg_name c.nd a b d) q1 rfl, ?_, ?_⟩
    · show (assignEach es X.env).length + 1 = _
      rw [q2]
      rfl
    · show List.findIdx? (·.1) ((false, assign (.Name x p) X.env) :: assignEach es X.env) = none
      rw [List.findIdx?_cons, q3]
      rfl
theorem pg_tg (c : Whr P w K mg base k Z X) {tg : Tg} {t : Expr} (h : chkTg Z tg t = true) : PG X t (TGof X.K tg) := by
  cases tg with
  | nm i =>
    cases t <;> first
      | (cases h; done)
      | (obtain ⟨a, b, d⟩ := c.store h; exact pg_name c.nd a b d)
  | tp is =>
    cases t <;> first
      | (cases h; done)
      | (obtain ⟨q1, q2, q3⟩ := pg_tgs c h; exact pg_tup c.g.calm q1 q2 q3)
theorem fold_no {e : Expr} (h : noSet e = true) (env : Env) : ∀ x, foldedSetIterable e env x = pure x := by
  intro x
  cases e <;> first | rfl | cases h
theorem ix_plain {e : Expr} (h : noSlice e = true) : PlainIx e := by
  intro o i
  cases e <;> first | rfl | cases h
theorem marks {op : CmpOp} {e : Expr} (h : (!behindInMarks op e) = true) : behindInMarks op e = false := by simpa using h
theorem any_no {pos : Pos} {env : Env} : ∀ {es : Es} {xs : List Expr}, chkEs Z es xs = true → (backTo pos (starEach xs env)).any (·.1) = false
  | .nil, [], _ => rfl
  | .nil, _ :: _, h => by cases h
  | .cons e es, [], h => by cases h
  | .cons e es, x :: xs, h => by
    unfold chkEs at h
    simp only [Bool.and_eq_true] at h
    have ih := any_no (pos := pos) (env := env) h.2
    rw [star_no h.1.1]
    unfold backTo at ih ⊢
    rw [List.map_cons, List.any_cons, ih]
    rfl
theorem len_es : ∀ {es : Es} {xs : List Expr}, chkEs Z es xs = true → lenEs es = xs.length
  | .nil, [], _ => rfl
  | .nil, _ :: _, h => by cases h
  | .cons e es, [], h => by cases h
  | .cons e es, x :: xs, h => by
    unfold chkEs at h
    simp only [Bool.and_eq_true] at h
    show lenEs es + 1 = xs.length + 1
    rw [len_es h.2]
theorem kw_facts {pos : Pos} {env : Env} : ∀ {ks : List Str} {es : Es} {kws : List Keyword}, chkK Z ks es kws = true → lenEs es = ks.length ∧ (backToKw pos (keywordEach kws env)).all (·.1.isSome) = true ∧ (backToKw pos (keywordEach kws env)).filterMap (·.1) = ks ∧ (backToKw pos (keywordEach kws env)).any (·.1.isNone) = false
  | [], .nil, [], _ => ⟨rfl, rfl, rfl, rfl⟩
  | [], .nil, _ :: _, h => by cases h
  | _ :: _, .nil, [], h => by cases h
  | _ :: _, .nil, _ :: _, h => by cases h
  | ks, .cons e es, [], h => by unfold chkK at h; cases h
  | [], .cons e es, ⟨n, x, p⟩ :: kws, h => by
    unfold chkK at h
    cases n <;> cases h
  | q :: ks, .cons e es, ⟨n, x, p⟩ :: kws, h => by
    cases n with
    | none => unfold chkK at h; cases h
    | some n =>
      unfold chkK at h
      simp only [Bool.and_eq_true, decide_eq_true_eq] at h
      obtain ⟨⟨rfl, _⟩, h⟩ := h
      obtain ⟨a1, a2, a3, a4⟩ := kw_facts (pos := pos) (env := env) h
      refine ⟨by show lenEs es + 1 = ks.length + 1; rw [a1], ?_, ?_, ?_⟩
      · show ((some n).isSome && (backToKw pos (keywordEach kws env)).all (·.1.isSome)) = true
        rw [a2]; rfl
      · show List.filterMap (·.1) ((some n, _) :: backToKw pos (keywordEach kws env)) = n :: ks
        rw [List.filterMap_cons, a3]
      · show ((some n).isNone || (backToKw pos (keywordEach kws env)).any (·.1.isNone)) = false
        rw [a4]; rfl
theorem pw_of_pt {op : BoolOp} {vs : List Expr} {pos : Pos} {t : TT} (h : PT X (.BoolOp op vs pos) t) : PW X (.BoolOp op vs pos) t := ⟨fun wh pins s σ H Q I q => by
  have := h.run pins s σ H Q I q
  have e : isTrue (.BoolOp op vs pos) X.env wh = isTrue (.BoolOp op vs pos) X.env (eval (.BoolOp op vs pos) X.env) := rfl
  rw [e]
  exact this⟩
theorem plain_is {e : Expr} {env : Env} (h : plainTest e = true) : ∀ whole, isTrue e env whole = (do let v ← whole; standAt e.pos; holding [v] (truthy v)) := by
  intro wh
  cases e with
  | UnaryOp op x p => cases op <;> first | rfl | cases h
  | BoolOp op vs p => cases h
  | IfExp a b c p => cases h
  | Compare a b c p => cases h
  | _ => rfl
end
end PF

set_option maxRecDepth 100000
set_option maxHeartbeats 1000000
namespace PF
open PySem PySem.Spec PyProof.Rows L2
section
variable {P : Program} {w : World} {K : PySem.W.Frag} {mg : Str → Option Value} {base : Heap} {k : Nat}
theorem Whr.call {Z : Sc} {X : Cx} (c : Whr P w K mg base k Z X) {x : Str} {sp : ASp} (h : CallOk P w K mg base k x sp) : CallOk X.prog X.w X.K X.mg X.base k x sp := by
  rw [c.prog, c.w, c.K, c.mg, c.base]; exact h
theorem Whr.callK {Z : Sc} {X : Cx} (c : Whr P w K mg base k Z X) {x : Str} {sp : ASp} {ps ks : List Str} (h : CallKOk P w K mg base k x sp ps ks) : CallKOk X.prog X.w X.K X.mg X.base k x sp ps ks := by
  rw [c.prog, c.w, c.K, c.mg, c.base]; exact h
theorem Whr.glob {Z : Sc} {X : Cx} (c : Whr P w K mg base k Z X) {x : Str} {d : PyData} (h : GlobOk K mg x d) : GlobOk X.K X.mg x d := by
  rw [c.K, c.mg]; exact h
theorem bn_bi (f : BI) : biName f ∈ bnames := by cases f <;> decide +kernel
theorem bn_ty (t : Ty) : tyStr t ∈ bnames := by cases t <;> decide +kernel
theorem boot_ty (t : Ty) : bootBuiltins (tyStr t) = some (.type (tyName t)) := by cases t <;> decide +kernel
theorem ty_ne (t : Ty) : tyStr t ≠ ("__name__" : Str) := by cases t <;> decide +kernel
theorem args_ne {f : BI} {as : List Expr} (h : as.length = arity f) : as ≠ [] := by
  intro z
  subst z
  cases f <;> cases h
mutual
theorem sE : ∀ (e : E) {Z : Sc} {X : Cx} {ast : Expr}, Whr P w K mg base k Z X → chkE Z e ast = true → okE (lkOf P w K mg base k) e → PE X ast (TEof X.K e)
  | .var i, Z, X, ast, c, h, o => by
    unfold chkE at h
    split at h
    · obtain ⟨a, b, d, f⟩ := c.var h
      exact te_var a b d f
    · cases h
  | .int i, Z, X, ast, c, h, o => by
    unfold chkE at h
    split at h
    · rw [of_decide_eq_true h]; exact te_int
    · cases h
  | .bool i, Z, X, ast, c, h, o => by
    unfold chkE at h
    split at h
    · rw [of_decide_eq_true h]; exact te_bool
    · cases h
  | .none, Z, X, ast, c, h, o => by
    unfold chkE at h
    split at h
    · exact te_none
    · cases h
  | .str i, Z, X, ast, c, h, o => by
    unfold chkE at h
    split at h
    · rw [of_decide_eq_true h]; exact te_str
    · cases h
  | .glob x d, Z, X, ast, c, h, o => by
    unfold chkE at h
    split at h
    · simp only [Bool.and_eq_true, decide_eq_true_eq] at h
      obtain ⟨rfl, h⟩ := h
      obtain ⟨a, b⟩ := c.gl h
      exact te_glob (c.glob o) a b
    · cases h
  | .bin op a b, Z, X, ast, c, h, o => by
    unfold chkE at h
    split at h
    · simp only [Bool.and_eq_true, decide_eq_true_eq] at h
      obtain ⟨⟨rfl, h1⟩, h2⟩ := h
      exact te_bin op (sE a c h1 o.1) (sE b c h2 o.2)
    · cases h
  | .neg a, Z, X, ast, c, h, o => by
    unfold chkE at h
    split at h
    · exact te_neg (sE a c h o)
    · cases h
  | .rep a b, Z, X, ast, c, h, o => by
    unfold chkE at h
    split at h
    · simp only [Bool.and_eq_true] at h
      exact te_rep (sE a c h.1 o.1) (sE b c h.2 o.2)
    · cases h
  | .not a, Z, X, ast, c, h, o => by
    unfold chkE at h
    split at h
    · exact te_not (sE a c h o)
    · cases h
  | .and a b, Z, X, ast, c, h, o => by
    unfold chkE at h
    split at h
    · simp only [Bool.and_eq_true] at h
      obtain ⟨h1, h2⟩ := h
      split at h2
      · exact te_and (sE a c h1 o.1) (pe_one (sE b c h2 o.2))
      · exact te_and (sE a c h1 o.1) (sE b c h2 o.2)
    · cases h
  | .or a b, Z, X, ast, c, h, o => by
    unfold chkE at h
    split at h
    · simp only [Bool.and_eq_true] at h
      obtain ⟨h1, h2⟩ := h
      split at h2
      · exact te_or (sE a c h1 o.1) (pe_one (sE b c h2 o.2))
      · exact te_or (sE a c h1 o.1) (sE b c h2 o.2)
    · cases h
  | .cmp op a b, Z, X, ast, c, h, o => by
    unfold chkE at h
    split at h
    · simp only [Bool.and_eq_true, decide_eq_true_eq] at h
      obtain ⟨⟨⟨rfl, hm⟩, h1⟩, h2⟩ := h
      exact te_cmp op (by have := c.u; omega) (sE a c h1 o.1) (sE b c h2 o.2) (marks hm)
    · cases h
  | .chain o1 o2 a b d, Z, X, ast, c, h, o => by
    unfold chkE at h
    split at h
    · simp only [Bool.and_eq_true, decide_eq_true_eq] at h
      obtain ⟨⟨⟨⟨⟨rfl, rfl⟩, hm⟩, h1⟩, h2⟩, h3⟩ := h
      exact te_chain o1 o2 (by have := c.u; omega) (sE a c h1 o.1) (sE b c h2 o.2.1) (sE d c h3 o.2.2) (marks hm)
    · cases h
  | .ife d a b, Z, X, ast, c, h, o => by
    unfold chkE at h
    split at h
    · simp only [Bool.and_eq_true] at h
      obtain ⟨⟨⟨h1, ht⟩, h2⟩, h3⟩ := h
      exact te_ife (sT d c h1 o.1 ht) (sE a c h2 o.2.1) (sE b c h3 o.2.2)
    · cases h
  | .tup es, Z, X, ast, c, h, o => by
    unfold chkE at h
    split at h
    · simp only [Bool.and_eq_true, decide_eq_true_eq] at h
      exact te_tup (sEs es c h.1 o) (ta_len (by rw [len_es h.1]; exact Nat.le_trans h.2 (by decide)))
    · cases h
  | .lst es, Z, X, ast, c, h, o => by
    unfold chkE at h
    split at h
    · simp only [Bool.and_eq_true, decide_eq_true_eq] at h
      exact te_lst (sEs es c h.1 o) (ta_len (by rw [len_es h.1]; exact Nat.le_trans h.2 (by decide)))
    · cases h
  | .ix a b, Z, X, ast, c, h, o => by
    unfold chkE at h
    split at h
    · simp only [Bool.and_eq_true] at h
      obtain ⟨⟨hs, h1⟩, h2⟩ := h
      exact te_ix (sE a c h1 o.1) (sE b c h2 o.2) (ix_plain hs)
    · cases h
  | .slL a b, Z, X, ast, c, h, o => by
    unfold chkE at h
    split at h
    · simp only [Bool.and_eq_true] at h
      exact te_slL (sE a c h.1 o.1) (sE b c h.2 o.2)
    · cases h
  | .slU a b, Z, X, ast, c, h, o => by
    unfold chkE at h
    split at h
    · simp only [Bool.and_eq_true] at h
      exact te_slU (sE a c h.1 o.1) (sE b c h.2 o.2)
    · cases h
  | .slLU a b d, Z, X, ast, c, h, o => by
    unfold chkE at h
    split at h
    · simp only [Bool.and_eq_true] at h
      exact te_slLU (sE a c h.1.1 o.1) (sE b c h.1.2 o.2.1) (sE d c h.2 o.2.2)
    · cases h
  | .slRev a, Z, X, ast, c, h, o => by
    unfold chkE at h
    split at h
    · exact te_slRev (sE a c h o)
    · cases h
  | .call x sp es, Z, X, ast, c, h, o => by
    unfold chkE at h
    split at h
    · rename_i y p xs pos
      simp only [Bool.and_eq_true, decide_eq_true_eq] at h
      obtain ⟨⟨rfl, hg⟩, h⟩ := h
      obtain ⟨a, b⟩ := c.gl hg
      have pa := sEs es c h o.2
      cases es with
      | nil =>
        cases xs with
        | nil => exact te_call0 (c.call o.1) c.g.room c.g.guards a b
        | cons _ _ => cases h
      | cons e es =>
        cases xs with
        | nil => cases h
        | cons x' xs =>
          have h0 := h
          unfold chkEs at h
          simp only [Bool.and_eq_true] at h
          exact te_call (c.call o.1) c.g.room c.g.guards a b pa (star_no h.1.1) (any_no h.2)
    · cases h
  | .callO x sp a, Z, X, ast, c, h, o => by
    unfold chkE at h
    split at h
    · rename_i y p z pos
      simp only [Bool.and_eq_true, decide_eq_true_eq] at h
      obtain ⟨⟨⟨rfl, hg⟩, hs⟩, h⟩ := h
      obtain ⟨h1, h2⟩ := c.gl hg
      exact te_callO (c.call o.1) c.g.room c.g.guards h1 h2 (sE a c h o.2) (star_no hs)
    · cases h
  | .callK x sp ps ks es, Z, X, ast, c, h, o => by
    unfold chkE at h
    split at h
    · simp only [Bool.and_eq_true, decide_eq_true_eq] at h
      obtain ⟨⟨rfl, hg⟩, h⟩ := h
      obtain ⟨a, b⟩ := c.gl hg
      obtain ⟨a1, a2, a3, a4⟩ := kw_facts (env := X.env) h
      refine te_callK (c.callK o.1) c.g.room c.g.guards a b (sK es c h o.2) a1 a2 a3 ?_
      rw [a4]
      rfl
    · cases h
  | .bi f es, Z, X, ast, c, h, o => by
    unfold chkE at h
    split at h
    · simp only [Bool.and_eq_true, decide_eq_true_eq] at h
      obtain ⟨⟨⟨⟨rfl, hf⟩, ha⟩, hg⟩, h⟩ := h
      obtain ⟨a, b⟩ := c.gl hg
      have pa := sEs es c h o
      cases es with
      | nil => cases h
      | cons e es =>
        unfold chkEs at h
        simp only [Bool.and_eq_true] at h
        exact te_bi f hf c.g.calm c.g.guards c.u a (c.no (bn_bi f)) pa (star_no h.1.1) (any_no h.2)
    · cases h
  | .inst a ts, Z, X, ast, c, h, o => by
    unfold chkE at h
    split at h
    · rename_i ty
      simp only [Bool.and_eq_true, decide_eq_true_eq] at h
      obtain ⟨⟨⟨⟨⟨rfl, hg⟩, rfl⟩, hg2⟩, hs⟩, h⟩ := h
      obtain ⟨g1, g2⟩ := c.gl hg
      obtain ⟨g3, g4⟩ := c.gl hg2
      exact te_inst g1 (c.no (by decide +kernel)) (sE a c h o) (te_tyname g3 (c.no (bn_ty ty)) (boot_ty ty) (ty_ne ty) g4) (star_no hs) rfl rfl
    · cases h
  | .comp elt cond d tg it own, Z, X, ast, c, h, o => by
    unfold chkE at h
    split at h
    · rename_i x t i ifs scope pos
      simp only [Bool.and_eq_true] at h
      obtain ⟨⟨⟨⟨⟨⟨hb, hi⟩, ht⟩, hsl⟩, hns⟩, hc⟩, he⟩ := h
      have ok : BlkOk X.N X.env.scope scope own := by rw [c.g.hN, c.g.sc]; exact blkOk_by hb
      have sl : ∀ i ∈ tgSlots tg, i ∈ own.map (·.2) := fun i hi => by
        unfold inSlots at hsl
        have := List.all_eq_true.mp hsl i hi
        simpa using this
      have pi : PI X t i (TIof X.K it) := sIt it c hi (fun is htg => by
        subst htg
        cases t <;> first | (cases ht; done) | exact ⟨_, _, _, rfl⟩) o.2.2
      have key : PE X (.ListComp x [⟨t, i, ifs, 0⟩] scope pos) (tLc (TIof X.K it) (TGof X.K tg) (ttOf X.K cond d) (TEof X.K elt) (own.map (·.2))) := by
        refine pe_lc c.g.calm c.nd pi ok (fun s H C cl fp => pg_tg (c.blk ok.kind s H C cl fp) ht) (fun s H C cl fp => ?_) (fun s H C cl fp => sE elt (c.blk ok.kind s H C cl fp) he o.1) (fold_no hns X.env)
        split at hc
        · exact pts_nil
        · simp only [Bool.and_eq_true] at hc
          exact pts_one (sT d (c.blk ok.kind s H C cl fp) hc.1 o.2.1 hc.2)
        · cases hc
      exact pe_weak key fun σ H Q h => lc_red sl h
    · cases h
theorem sEs : ∀ (es : Es) {Z : Sc} {X : Cx} {xs : List Expr}, Whr P w K mg base k Z X → chkEs Z es xs = true → okEs (lkOf P w K mg base k) es → PA X xs (TAof X.K es)
  | .nil, Z, X, xs, c, h, o => by
    unfold chkEs at h
    split at h
    · exact ta_nil
    · cases h
  | .cons e es, Z, X, xs, c, h, o => by
    unfold chkEs at h
    split at h
    · simp only [Bool.and_eq_true] at h
      exact ta_cons (sE e c h.1.2 o.1) (sEs es c h.2 o.2) (star_no h.1.1)
    · cases h
theorem sK : ∀ (es : Es) {Z : Sc} {X : Cx} {ks : List Str} {kws : List Keyword}, Whr P w K mg base k Z X → chkK Z ks es kws = true → okEs (lkOf P w K mg base k) es → PK X kws (TAof X.K es)
  | .nil, Z, X, ks, kws, c, h, o => by
    unfold chkK at h
    split at h
    · exact tk_nil
    · cases h
  | .cons e es, Z, X, ks, kws, c, h, o => by
    unfold chkK at h
    split at h
    · simp only [Bool.and_eq_true] at h
      exact tk_cons (sE e c h.1.2 o.1) (sK es c h.2 o.2)
    · cases h
theorem sIt : ∀ (it : PF.It) {Z : Sc} {X : Cx} {tg : Tg} {t i : Expr}, Whr P w K mg base k Z X → chkIt Z it tg t i = true → (∀ is, tg = .tp is → ∃ a b p, t = .Tuple a b p) → okIt (lkOf P w K mg base k) it → PI X t i (TIof X.K it)
  | .seq e, Z, X, tg, t, i, c, h, ht, o => by
    unfold chkIt at h
    exact ti_seq (sE e c h o)
  | .range1 a, Z, X, tg, t, i, c, h, ht, o => by
    unfold chkIt at h
    split at h
    · simp only [Bool.and_eq_true, decide_eq_true_eq] at h
      obtain ⟨⟨⟨rfl, hg⟩, hs⟩, h⟩ := h
      exact ti_range1 (c.gl hg).1 (c.no (by decide +kernel)) (sE a c h o) (star_no hs)
    · cases h
  | .range2 a b, Z, X, tg, t, i, c, h, ht, o => by
    unfold chkIt at h
    split at h
    · simp only [Bool.and_eq_true, decide_eq_true_eq] at h
      obtain ⟨⟨⟨⟨⟨rfl, hg⟩, hs⟩, hs2⟩, h1⟩, h2⟩ := h
      exact ti_range2 (c.gl hg).1 (c.no (by decide +kernel)) (sE a c h1 o.1) (sE b c h2 o.2) (by rw [star_no hs, star_no hs2]; rfl) (star_no hs2)
    · cases h
  | .enum e, Z, X, tg, t, i, c, h, ht, o => by
    unfold chkIt at h
    split at h
    · rename_i is
      simp only [Bool.and_eq_true, decide_eq_true_eq] at h
      obtain ⟨⟨⟨rfl, hg⟩, hs⟩, h⟩ := h
      obtain ⟨a, b, p, rfl⟩ := ht is rfl
      exact ti_enum (c.gl hg).1 (c.no (by decide +kernel)) (sE e c h o) (star_no hs)
    · cases h
  | .zip a b, Z, X, tg, t, i, c, h, ht, o => by
    unfold chkIt at h
    split at h
    · rename_i is
      simp only [Bool.and_eq_true, decide_eq_true_eq] at h
      obtain ⟨⟨⟨⟨⟨rfl, hg⟩, hs⟩, hs2⟩, h1⟩, h2⟩ := h
      obtain ⟨a', b', p, rfl⟩ := ht is rfl
      exact ti_zip (c.gl hg).1 (c.no (by decide +kernel)) (sE a c h1 o.1) (sE b c h2 o.2) (star_no hs) (star_no hs2) (by rw [star_no hs2]; rfl)
    · cases h
theorem sT : ∀ (e : E) {Z : Sc} {X : Cx} {ast : Expr}, Whr P w K mg base k Z X → chkE Z e ast = true → okE (lkOf P w K mg base k) e → okT e = true → PT X ast (TTof X.K e)
  | .not a, Z, X, ast, c, h, o, t => by
    unfold chkE at h
    split at h
    · exact tt_not (sT a c h o t)
    · cases h
  | .and a b, Z, X, ast, c, h, o, t => by
    unfold okT at t
    simp only [Bool.and_eq_true] at t
    unfold chkE at h
    split at h
    · simp only [Bool.and_eq_true] at h
      obtain ⟨h1, h2⟩ := h
      split at h2
      · exact (tw_and (sT a c h1 o.1 t.1) (pw_and1 (sT b c h2 o.2 t.2))).pt
      · exact (tw_and (sT a c h1 o.1 t.1) (pw_of_pt (sT b c h2 o.2 t.2))).pt
    · cases h
  | .or a b, Z, X, ast, c, h, o, t => by
    unfold okT at t
    simp only [Bool.and_eq_true] at t
    unfold chkE at h
    split at h
    · simp only [Bool.and_eq_true] at h
      obtain ⟨h1, h2⟩ := h
      split at h2
      · exact (tw_or (sT a c h1 o.1 t.1) (pw_or1 (sT b c h2 o.2 t.2))).pt
      · exact (tw_or (sT a c h1 o.1 t.1) (pw_of_pt (sT b c h2 o.2 t.2))).pt
    · cases h
  | .cmp op a b, Z, X, ast, c, h, o, t => by
    unfold chkE at h
    split at h
    · simp only [Bool.and_eq_true, decide_eq_true_eq] at h
      obtain ⟨⟨⟨rfl, hm⟩, h1⟩, h2⟩ := h
      exact tt_cmp op (by have := c.u; omega) (sE a c h1 o.1) (sE b c h2 o.2) (marks hm)
    · cases h
  | .chain o1 o2 a b d, Z, X, ast, c, h, o, t => by
    unfold chkE at h
    split at h
    · simp only [Bool.and_eq_true, decide_eq_true_eq] at h
      obtain ⟨⟨⟨⟨⟨rfl, rfl⟩, hm⟩, h1⟩, h2⟩, h3⟩ := h
      exact tt_chain o1 o2 (by have := c.u; omega) (sE a c h1 o.1) (sE b c h2 o.2.1) (sE d c h3 o.2.2) (marks hm)
    · cases h
  | .ife _ _ _, Z, X, ast, c, h, o, t => by cases t
  | .var i, Z, X, ast, c, h, o, t => tt_any (sE (.var i) c h o) (plain_is (by unfold chkE at h; split at h <;> first | rfl | cases h))
  | .int i, Z, X, ast, c, h, o, t => tt_any (sE (.int i) c h o) (plain_is (by unfold chkE at h; split at h <;> first | rfl | cases h))
  | .bool i, Z, X, ast, c, h, o, t => tt_any (sE (.bool i) c h o) (plain_is (by unfold chkE at h; split at h <;> first | rfl | cases h))
  | .none, Z, X, ast, c, h, o, t => tt_any (sE .none c h o) (plain_is (by unfold chkE at h; split at h <;> first | rfl | cases h))
  | .str i, Z, X, ast, c, h, o, t => tt_any (sE (.str i) c h o) (plain_is (by unfold chkE at h; split at h <;> first | rfl | cases h))
  | .glob x d, Z, X, ast, c, h, o, t => tt_any (sE (.glob x d) c h o) (plain_is (by unfold chkE at h; split at h <;> first | rfl | cases h))
  | .bin op a b, Z, X, ast, c, h, o, t => tt_any (sE (.bin op a b) c h o) (plain_is (by unfold chkE at h; split at h <;> first | rfl | cases h))
  | .neg a, Z, X, ast, c, h, o, t => tt_any (sE (.neg a) c h o) (plain_is (by unfold chkE at h; split at h <;> first | rfl | cases h))
  | .rep a b, Z, X, ast, c, h, o, t => tt_any (sE (.rep a b) c h o) (plain_is (by unfold chkE at h; split at h <;> first | rfl | cases h))
  | .tup es, Z, X, ast, c, h, o, t => tt_any (sE (.tup es) c h o) (plain_is (by unfold chkE at h; split at h <;> first | rfl | cases h))
  | .lst es, Z, X, ast, c, h, o, t => tt_any (sE (.lst es) c h o) (plain_is (by unfold chkE at h; split at h <;> first | rfl | cases h))
  | .ix a b, Z, X, ast, c, h, o, t => tt_any (sE (.ix a b) c h o) (plain_is (by unfold chkE at h; split at h <;> first | rfl | cases h))
  | .slL a b, Z, X, ast, c, h, o, t => tt_any (sE (.slL a b) c h o) (plain_is (by unfold chkE at h; split at h <;> first | rfl | cases h))
  | .slU a b, Z, X, ast, c, h, o, t => tt_any (sE (.slU a b) c h o) (plain_is (by unfold chkE at h; split at h <;> first | rfl | cases h))
  | .slLU a b d, Z, X, ast, c, h, o, t => tt_any (sE (.slLU a b d) c h o) (plain_is (by unfold chkE at h; split at h <;> first | rfl | cases h))
  | .slRev a, Z, X, ast, c, h, o, t => tt_any (sE (.slRev a) c h o) (plain_is (by unfold chkE at h; split at h <;> first | rfl | cases h))
  | .call x sp es, Z, X, ast, c, h, o, t => tt_any (sE (.call x sp es) c h o) (plain_is (by unfold chkE at h; split at h <;> first | rfl | cases h))
  | .callO x sp a, Z, X, ast, c, h, o, t => tt_any (sE (.callO x sp a) c h o) (plain_is (by unfold chkE at h; split at h <;> first | rfl | cases h))
  | .callK x sp ps ks es, Z, X, ast, c, h, o, t => tt_any (sE (.callK x sp ps ks es) c h o) (plain_is (by unfold chkE at h; split at h <;> first | rfl | cases h))
  | .bi f es, Z, X, ast, c, h, o, t => tt_any (sE (.bi f es) c h o) (plain_is (by unfold chkE at h; split at h <;> first | rfl | cases h))
  | .inst a ts, Z, X, ast, c, h, o, t => tt_any (sE (.inst a ts) c h o) (plain_is (by unfold chkE at h; split at h <;> first | rfl | cases h))
  | .comp elt cond d tg it own, Z, X, ast, c, h, o, t => tt_any (sE (.comp elt cond d tg it own) c h o) (plain_is (by unfold chkE at h; split at h <;> first | rfl | cases h))
end
end
end PF

set_option maxRecDepth 100000
set_option maxHeartbeats 1000000
namespace PF
open PySem PySem.Spec PyProof.Rows L2
/-! ### statements against the text -/
def isStar : Expr → Bool
  | .Starred .. => true
  | _ => false
def swapFn (sc : Scope) (line : Nat) : Expr → Option Str
  | .Name id pos => if sc.names.lookup id == some .local && pos.line == line then some id else none
  | _ => none
def swapNames (sc : Scope) (line : Nat) (ts : List Expr) : List Str := ts.filterMap (swapFn sc line)
theorem any_cg {α : Type} {l : List α} {f : α → Bool} (g : α → Bool) (h : ∀ x, f x = g x) : l.any f = l.any g := by rw [show f = g from funext h]
theorem fm_cg {α β : Type} {l : List α} {f : α → Option β} (g : α → Option β) (h : ∀ x, f x = g x) : l.filterMap f = l.filterMap g := by rw [show f = g from funext h]
/-- how several names are stored at once: none: it is not settled -/
def swapF (sc : Scope) (ts vs : List Expr) : Option (Option (List Str)) :=
  if (!(ts.length == 2 || ts.length == 3) || vs.length != ts.length) = true then some none
  else if vs.any isStar = true then some none
  else if ((swapNames sc ((ts.head?.map fun (e : Expr) => e.pos.line).getD 0) ts).length != ts.length || (swapNames sc ((ts.head?.map fun (e : Expr) => e.pos.line).getD 0) ts).eraseDups.length != (swapNames sc ((ts.head?.map fun (e : Expr) => e.pos.line).getD 0) ts).length) = true then some none
  else if vs.all (foldedForSure 8) = true then some none
  else if vs.all (constantsAlone 8) = true then none
  else some (some (swapNames sc ((ts.head?.map fun (e : Expr) => e.pos.line).getD 0) ts))
theorem swap_is {sc : Scope} {env : Env} {ts vs : List Expr} {r : Option (List Str)} {k k2 : Nat} {p p2 : Pos} (hs : env.scope = sc) (hk : sc.kind = .function) (h : swapF sc ts vs = some r) : swappedStores [.Tuple ts k p] (.Tuple vs k2 p2) env = pure r := by
  have hb : env.blockKind = .function := by unfold Env.blockKind; rw [hs, hk]; rfl
  have hkd : ∀ x, env.kindOf x = sc.names.lookup x := fun x => by unfold Env.kindOf; rw [hs]
  unfold swapF at h
  unfold swappedStores
  simp only [hb]
  rw [any_cg isStar (by intro x; cases x <;> rfl), fm_cg (swapFn sc ((ts.head?.map fun (e : Expr) => e.pos.line).getD 0)) (by intro x; cases x <;> first | rfl | (show (if _ then _ else _) = _; rw [hkd]; rfl))]
  have e1 : (ScopeKind.function != ScopeKind.function) = false := rfl
  rw [e1, Bool.or_false]
  unfold swapNames at h
  split at h
  · rename_i c1
    rw [if_pos c1]
    cases h
    rfl
  · rename_i c1
    rw [if_neg c1]
    split at h
    · rename_i c2
      rw [if_pos c2]
      cases h
      rfl
    · rename_i c2
      rw [if_neg c2]
      split at h
      · rename_i c3
        rw [if_pos c3]
        cases h
        rfl
      · rename_i c3
        rw [if_neg c3]
        split at h
        · rename_i c4
          rw [if_pos c4]
          cases h
          rfl
        · rename_i c4
          rw [if_neg c4]
          split at h
          · cases h
          · rename_i c5
            rw [if_neg c5]
            cases h
            rfl
theorem swaps_no {e : Expr} {t : Option Expr} {l : Nat} {env : Env} (h : noComp e = true) : swapsWith e t l env = pure false := by
  cases e <;> first | rfl | cases h
theorem swaps_tup {e : Expr} {es : List Expr} {k : Nat} {p : Pos} {l : Nat} {env : Env} : swapsWith e (some (.Tuple es k p)) l env = pure false := by
  cases e <;> rfl
theorem sole_tup {e : Expr} {es : List Expr} {k : Nat} {p : Pos} {l : Nat} {env : Env} : swapsWithSole [.Tuple es k p] e l env = pure false := by
  show swapsWith e (some (.Tuple es k p)) l env = _
  exact swaps_tup
theorem swaps_sub {e a b : Expr} {p : Pos} {l : Nat} {env : Env} : swapsWith e (some (.Subscript a b p)) l env = pure false := by
  cases e <;> rfl
theorem sole_sub {e a b : Expr} {p : Pos} {l : Nat} {env : Env} : swapsWithSole [.Subscript a b p] e l env = pure false := by
  show swapsWith e (some (.Subscript a b p)) l env = _
  exact swaps_sub
/-- a comprehension stored at a name -/
def swC (sc : Scope) (e : Expr) (t : Str) (pt : Pos) : Bool := match e with
  | .ListComp _ _ s p => decide (sc.names.lookup t = some .local) && (pt.line == p.line) && !(s.names.any fun (n, k) => n == t && (k == .local || k == .cell))
  | _ => false
theorem swc_is {sc : Scope} {elt : Expr} {gs : List Comprehension} {s : Scope} {p pt : Pos} {t : Str} {l : Nat} {env : Env} (hs : env.scope = sc) (hk : sc.kind = .function) : swapsWith (.ListComp elt gs s p) (some (.Name t pt)) l env = pure (swC sc (.ListComp elt gs s p) t pt) := by
  have hb : env.blockKind = .function := by unfold Env.blockKind; rw [hs, hk]; rfl
  have hkd : env.kindOf t = sc.names.lookup t := by unfold Env.kindOf; rw [hs]
  unfold swapsWith swC
  simp only [hb, hkd, Expr.pos]
  have e1 : (sc.names.lookup t == some NameKind.local) = decide (sc.names.lookup t = some .local) := by
    by_cases h : sc.names.lookup t = some .local
    · rw [h]; rfl
    · rw [decide_eq_false h]; exact beq_eq_false_iff_ne.mpr h
  rw [e1]
  rfl
def free (Z : Sc) (i : Nat) : Bool := !Z.R.contains i
def isPairL (Z : Sc) (xs : List Str) : List Nat → List Expr → Bool
  | [], [] => true
  | i :: is, .Name x _ :: es => decide (Z.N[i]? = some x) && decide (Z.sc.names.lookup x = some .local) && isPairL Z xs is es
  | _, _ => false
def namesOf : List Expr → List Str
  | .Name x _ :: es => x :: namesOf es
  | _ => []
mutual
def chkS (Z : Sc) : S → Stmt → Bool
  | .asg i e, st => match st with | .Assign [.Name x px] v _ => storeIs Z i x && free Z i && chkE Z e v && (noComp v || swC Z.sc v x px || !swC Z.sc v x px) && noBadComp v | _ => false
  | .asgF i e, st => match st with | .Assign [.Name x px] v _ => storeIs Z i x && free Z i && chkE Z e v && noBadComp v | _ => false
  | .par is es, st => match st with
    | .Assign [.Tuple ts _ _] (.Tuple vs _ _) _ => is.all (free Z) && chkEs Z es vs && decide (vs.length ≤ 1000) && chkTgs Z is ts && decide (is.Nodup) && (match swapF Z.sc ts vs with
      | some none => true
      | some (some ns) => decide (ns = namesOf ts) && isPairL Z ns is ts && (decide (is.length = 2) || decide (is.length = 3))
      | none => false)
    | _ => false
  | .unp is e, st => match st with | .Assign [.Tuple ts _ _] v _ => is.all (free Z) && chkE Z e v && chkTgs Z is ts && noTup v | _ => false
  | .setIx j i e, st => match st with | .Assign [.Subscript (.Name x _) y _] v _ => nameIs Z j x && noSlice y && chkE Z i y && chkE Z e v | _ => false
  | .aug i op e, st => match st with | .AugAssign (.Name x _) o v _ => storeIs Z i x && free Z i && decide (opOf op = o) && augOk op && chkE Z e v | _ => false
  | .append j e, st => match st with | .Expr (.Call (.Attribute (.Name x _) m ap) [v] [] cp) _ => decide (m = "append") && nameIs Z j x && noStar v && (ap.endLine == cp.line) && chkE Z e v | _ => false
  | .insert j i e, st => match st with | .Expr (.Call (.Attribute (.Name x _) m ap) [y, v] [] cp) _ => decide (m = "insert") && nameIs Z j x && noStar y && noStar v && (ap.endLine == cp.line) && chkE Z i y && chkE Z e v | _ => false
  | .expr e, st => match st with | .Expr v _ => noComp v && chkE Z e v | _ => false
  | .ret e, st => match st with | .Return (some v) _ => chkE Z e v | _ => false
  | .retN, st => match st with | .Return none _ => true | _ => false
  | .ite c a b, st => match st with | .If t x y _ => chkE Z c t && okT c && chkSs Z a x && chkSs Z b y | _ => false
  | .forS tg it body, st => match st with | .For t i b [] _ => chkIt Z it tg t i && chkTg Z tg t && (tgSlots tg).all (free Z) && noSet i && chkSs Z body b | _ => false
  | .whl c body, st => match st with | .While t b [] _ => chkE Z c t && okT c && chkSs Z body b | _ => false
  | .pass, st => match st with | .Pass _ => true | _ => false
  | .brk, st => match st with | .Break _ => true | _ => false
  | .cont, st => match st with | .Continue _ => true | _ => false
  | .raise _, st => true
  | .frz _, _ => false
def chkSs (Z : Sc) : Ss → List Stmt → Bool
  | .nil, sts => match sts with | [] => true | _ => false
  | .cons s ss, sts => match s with
    | .frz j => free Z j && chkSs Z ss sts
    | s => match sts with | st :: sts => chkS Z s st && chkSs Z ss sts | _ => false
/-- of comprehensions only list comprehensions -/
def noBadComp : Expr → Bool
  | .SetComp _ _ _ _ => false
  | .DictComp _ _ _ _ _ => false
  | _ => true
def noTup : Expr → Bool
  | .Tuple _ _ _ => false
  | _ => true
end
mutual
def okS (L : Lk) : S → Prop
  | .asg _ e => okE L e
  | .asgF _ e => okE L e
  | .par _ es => okEs L es
  | .unp _ e => okE L e
  | .setIx _ i e => okE L i ∧ okE L e
  | .aug _ _ e => okE L e
  | .append _ e => okE L e
  | .insert _ i e => okE L i ∧ okE L e
  | .expr e => okE L e
  | .ret e => okE L e
  | .retN => True
  | .ite c a b => okE L c ∧ okSs L a ∧ okSs L b
  | .forS _ it b => okIt L it ∧ okSs L b
  | .whl c b => okE L c ∧ okSs L b
  | .pass | .brk | .cont | .raise _ | .frz _ => True
def okSs (L : Lk) : Ss → Prop
  | .nil => True
  | .cons s ss => okS L s ∧ okSs L ss
end
end PF

set_option maxRecDepth 100000
set_option maxHeartbeats 1000000
namespace PF
open PySem PySem.Spec PyProof.Rows L2
section
variable {P : Program} {w : World} {K : PySem.W.Frag} {mg : Str → Option Value} {base : Heap} {k : Nat}
theorem free_no {Z : Sc} {i : Nat} (h : free Z i = true) : i ∉ Z.R := by
  unfold free at h
  simpa using h
/-- name = value, whatever the value -/
theorem sAsg {Z : Sc} {X : Cx} {i : Nat} {x : Str} {v : Expr} {e : E} {px pos : Pos} (c : Whr P w K mg base k Z X) (hst : storeIs Z i x = true) (hE : chkE Z e v = true) (o : okE (lkOf P w K mg base k) e) (hnb : noBadComp v = true) : PS X (.Assign [.Name x px] v pos) (tAsg (TEof X.K e) (gName i)) := by
  obtain ⟨s1, s2, s3⟩ := c.store hst
  by_cases hc : noComp v = true
  · exact ps_set c.nd s1 s2 (sE e c hE o) (swaps_no hc) s3
  · cases v with
    | ListComp x' gs scope p =>
      have hw := swc_is (elt := x') (gs := gs) (s := scope) (p := p) (pt := px) (t := x) (l := pos.line) c.g.sc c.g.kind
      cases hsw : swC Z.sc (.ListComp x' gs scope p) x px with
      | false =>
        rw [hsw] at hw
        exact ps_set c.nd s1 s2 (sE e c hE o) hw s3
      | true =>
        rw [hsw] at hw
        have hloc : X.env.scope.names.lookup x = some .local := by
          rw [c.g.sc]
          unfold swC at hsw
          simp only [Bool.and_eq_true, decide_eq_true_eq] at hsw
          exact hsw.1.1
        cases e with
        | comp elt cond d tg it own =>
          unfold chkE at hE
          split at hE
          · rename_i x'' t i' ifs scope' pos' heq
            cases heq
            simp only [Bool.and_eq_true] at hE
            obtain ⟨⟨⟨⟨⟨⟨hb, hi⟩, ht⟩, hsl⟩, hns⟩, hcd⟩, he⟩ := hE
            have ok : BlkOk X.N X.env.scope scope own := by rw [c.g.hN, c.g.sc]; exact blkOk_by hb
            have sl : ∀ i ∈ tgSlots tg, i ∈ own.map (·.2) := fun i hi => by
              unfold inSlots at hsl
              have := List.all_eq_true.mp hsl i hi
              simpa using this
            have pi : PI X t i' (TIof X.K it) := sIt it c hi (fun is htg => by
              subst htg
              cases t <;> first | (cases ht; done) | exact ⟨_, _, _, rfl⟩) o.2.2
            refine ps_weak (ps_setLc (i := i) (own := own) (g := TGof X.K tg) (tt := ttOf X.K cond d) (te := TEof X.K elt) c.g.calm c.nd s1 hloc hw pi ok (fun s H C cl fp => pg_tg (c.blk ok.kind s H C cl fp) ht) (fun s H C cl fp => ?_) (fun s H C cl fp => sE elt (c.blk ok.kind s H C cl fp) he o.1) (fold_no hns X.env)) fun D σ H h => lc_red sl h
            split at hcd
            · exact pts_nil
            · simp only [Bool.and_eq_true] at hcd
              exact pts_one (sT d (c.blk ok.kind s H C cl fp) hcd.1 o.2.1 hcd.2)
            · cases hcd
          · cases hE
        | _ => unfold chkE at hE; first | (cases hE; done) | (split at hE <;> first | (cases hE; done) | (rename_i heq; cases heq; done))
    | SetComp _ _ _ _ => cases hnb
    | DictComp _ _ _ _ _ => cases hnb
    | _ => exact absurd rfl hc
theorem all_free {Z : Sc} {is : List Nat} (h : is.all (free Z) = true) : ∀ i ∈ is, i ∉ Z.R := fun i hi => free_no (List.all_eq_true.mp h i hi)
theorem pairL_cons {Z : Sc} {ns : List Str} {i : Nat} {is : List Nat} {ts : List Expr} (h : isPairL Z ns (i :: is) ts = true) : ∃ x p es, ts = .Name x p :: es ∧ Z.N[i]? = some x ∧ Z.sc.names.lookup x = some .local ∧ isPairL Z ns is es = true := by
  cases ts with
  | nil => cases h
  | cons t es =>
    cases t with
    | Name x p =>
      have h : (decide (Z.N[i]? = some x) && decide (Z.sc.names.lookup x = some .local) && isPairL Z ns is es) = true := h
      simp only [Bool.and_eq_true, decide_eq_true_eq] at h
      exact ⟨x, p, es, rfl, h.1.1, h.1.2, h.2⟩
    | _ => cases h
theorem pairL_nil {Z : Sc} {ns : List Str} {ts : List Expr} (h : isPairL Z ns [] ts = true) : ts = [] := by
  cases ts with
  | nil => rfl
  | cons t es => cases h
def noListE : Expr → Bool
  | .List _ _ => false
  | _ => true
theorem sPar {Z : Sc} {X : Cx} {is : List Nat} {es : Es} {ts vs : List Expr} {kt kv : Nat} {pt pv pos : Pos} (c : Whr P w K mg base k Z X) (h : chkS Z (.par is es) (.Assign [.Tuple ts kt pt] (.Tuple vs kv pv) pos) = true) (o : okEs (lkOf P w K mg base k) es) :
    PS X (.Assign [.Tuple ts kt pt] (.Tuple vs kv pv) pos) (TSof X.K Z.R (.par is es)) := by
  unfold chkS at h
  simp only [Bool.and_eq_true, decide_eq_true_eq] at h
  obtain ⟨⟨⟨⟨⟨hf, hv⟩, hl⟩, ht⟩, hnd⟩, h⟩ := h
  have pa := sEs es c hv o
  have fr := all_free hf
  split at h
  · rename_i hsw
    have pt' : PE X (.Tuple vs kv pv) (TEof X.K (.tup es)) := te_tup pa (ta_len (by rw [len_es hv]; exact Nat.le_trans hl (by decide)))
    obtain ⟨q1, q2, q3⟩ := pg_tgs c ht
    exact ps_weak (ps_asg pt' (pg_tup c.g.calm q1 q2 q3) sole_tup (swap_is c.g.sc c.g.kind hsw) rfl) fun D σ H h => par_tup fr h
  · rename_i ns hsw
    simp only [Bool.and_eq_true, Bool.or_eq_true, decide_eq_true_eq] at h
    obtain ⟨⟨hns, hp⟩, hlen⟩ := h
    have hw := swap_is (k := kt) (p := pt) (k2 := kv) (p2 := pv) c.g.sc c.g.kind hsw
    have hvl : vs.length = ts.length := by
      unfold swapF at hsw
      split at hsw
      · cases hsw
      · rename_i z
        simp only [Bool.or_eq_true, Bool.not_eq_true', not_or, bne_iff_ne, ne_eq, Decidable.not_not] at z
        exact z.2
    rcases hlen with hlen | hlen
    · match is, hlen with
      | [i, j], _ =>
        obtain ⟨x, px, es1, rfl, n1, l1, hp⟩ := pairL_cons hp
        obtain ⟨y, py, es2, rfl, n2, l2, hp⟩ := pairL_cons hp
        cases pairL_nil hp
        subst hns
        match vs, hvl, pa, hw with
        | [a, b], _, pa, hw =>
          have hij : i ≠ j := by
            intro z
            subst z
            simp at hnd
          refine ps_weak (ps_par c.g.calm c.nd (by rw [c.g.hN]; exact n1) (by rw [c.g.hN]; exact n2) hij (by rw [c.g.sc]; exact l1) (by rw [c.g.sc]; exact l2) pa hw rfl) fun D σ H h => ?_
          obtain ⟨F, O, env, eo, q⟩ := par_rd fr h
          refine ⟨F, O, env, eo, wEs_mono es (fun rs e1 q vs H' e c s => ?_) q⟩
          obtain ⟨hl2, q⟩ := q vs H' e c s
          match vs, hl2, q with
          | [v, w], _, q => exact ⟨v, w, rfl, q⟩
    · match is, hlen with
      | [i, j, l], _ =>
        obtain ⟨x, px, es1, rfl, n1, l1, hp⟩ := pairL_cons hp
        obtain ⟨y, py, es2, rfl, n2, l2, hp⟩ := pairL_cons hp
        obtain ⟨z, pz, es3, rfl, n3, l3, hp⟩ := pairL_cons hp
        cases pairL_nil hp
        subst hns
        match vs, hvl, pa, hw with
        | [a, b, d], _, pa, hw =>
          have hij : i ≠ j ∧ i ≠ l ∧ j ≠ l := by
            simp only [List.nodup_cons, List.mem_cons, List.not_mem_nil, or_false, not_or, List.nodup_nil, and_true, not_false_eq_true] at hnd
            exact ⟨hnd.1.1, hnd.1.2, hnd.2⟩
          refine ps_weak (ps_par3 c.g.calm c.nd (by rw [c.g.hN]; exact n1) (by rw [c.g.hN]; exact n2) (by rw [c.g.hN]; exact n3) hij.1 hij.2.1 hij.2.2 (by rw [c.g.sc]; exact l1) (by rw [c.g.sc]; exact l2) (by rw [c.g.sc]; exact l3) pa hw rfl) fun D σ H h => ?_
          obtain ⟨F, O, env, eo, q⟩ := par_rd fr h
          refine ⟨F, O, env, eo, wEs_mono es (fun rs e1 q vs H' e c s => ?_) q⟩
          obtain ⟨hl2, q⟩ := q vs H' e c s
          match vs, hl2, q with
          | [v, w, u], _, q => exact ⟨v, w, u, rfl, q⟩
  · cases h
theorem swap_none {ts : List Expr} {kt : Nat} {pt : Pos} {v : Expr} {env : Env} (h : noTup v = true) : swappedStores [.Tuple ts kt pt] v env = pure none := by
  cases v <;> first | rfl | cases h
theorem swap_none1 {t v : Expr} {env : Env} (h : noTup t = true) (h2 : noListE t = true) : swappedStores [t] v env = pure none := by
  cases t <;> first | (cases v <;> rfl; done) | (cases h; done) | (cases h2; done)
mutual
theorem sS : ∀ (s : S) {Z : Sc} {X : Cx} {st : Stmt}, Whr P w K mg base k Z X → chkS Z s st = true → okS (lkOf P w K mg base k) s → PS X st (TSof X.K Z.R s)
  | .asg i e, Z, X, st, c, h, o => by
    unfold chkS at h
    split at h
    · simp only [Bool.and_eq_true] at h
      obtain ⟨⟨⟨⟨h1, h2⟩, h3⟩, _⟩, h5⟩ := h
      exact ps_weak (sAsg c h1 h3 o h5) fun D σ H h => asg_red (free_no h2) h
    · cases h
  | .asgF i e, Z, X, st, c, h, o => by
    unfold chkS at h
    split at h
    · simp only [Bool.and_eq_true] at h
      obtain ⟨⟨⟨h1, h2⟩, h3⟩, h5⟩ := h
      exact ps_weak (sAsg c h1 h3 o h5) fun D σ H h => asgF_red (free_no h2) h
    · cases h
  | .par is es, Z, X, st, c, h, o => by
    have h0 := h
    unfold chkS at h
    split at h
    · exact sPar c h0 o
    · cases h
  | .unp is e, Z, X, st, c, h, o => by
    unfold chkS at h
    split at h
    · simp only [Bool.and_eq_true] at h
      obtain ⟨⟨⟨hf, h1⟩, ht⟩, hn⟩ := h
      obtain ⟨q1, q2, q3⟩ := pg_tgs c ht
      exact ps_weak (ps_asg (sE e c h1 o) (pg_tup c.g.calm q1 q2 q3) sole_tup (swap_none hn) rfl) fun D σ H h => unp_red (all_free hf) h
    · cases h
  | .setIx j i e, Z, X, st, c, h, o => by
    unfold chkS at h
    split at h
    · simp only [Bool.and_eq_true] at h
      obtain ⟨⟨⟨h1, hsl⟩, h2⟩, h3⟩ := h
      obtain ⟨a, b, d, f⟩ := c.var h1
      refine ps_weak (ps_asg (sE e c h3 o.2) (pg_sub (pe_var a b d f) (sE i c h2 o.1) set_list ?_) sole_sub (swap_none1 rfl rfl) rfl) fun D σ H h => setIx_red h
      rename_i y _ _ _
      intro u
      cases y <;> first | rfl | cases hsl
    · cases h
  | .aug i op e, Z, X, st, c, h, o => by
    unfold chkS at h
    split at h
    · simp only [Bool.and_eq_true, decide_eq_true_eq] at h
      obtain ⟨⟨⟨⟨h1, hf⟩, rfl⟩, ho⟩, h2⟩ := h
      obtain ⟨s1, s2, s3⟩ := c.store h1
      exact ps_weak (ps_aug c.nd s1 s2 (sE e c h2 o) (ip_of op) s3) fun D σ H h => aug_red ho (free_no hf) h
    · cases h
  | .append j e, Z, X, st, c, h, o => by
    unfold chkS at h
    split at h
    · simp only [Bool.and_eq_true, decide_eq_true_eq] at h
      obtain ⟨⟨⟨⟨rfl, h1⟩, hs⟩, hl⟩, h2⟩ := h
      obtain ⟨a, b, d, f⟩ := c.var h1
      refine ps_weak (ps_expr (pe_bm PySem.F.plainAttrs_list PySem.F.slot_list_append PySem.F.type_list_append mt_append (pe_var a b d f) (pa_cons (sE e c h2 o) pa_nil (star_no hs)) rfl ?_ hl (star_no hs) rfl) rfl) fun D σ H h => append_red h
      rw [star_no hs]
      rfl
    · cases h
  | .insert j i e, Z, X, st, c, h, o => by
    unfold chkS at h
    split at h
    · simp only [Bool.and_eq_true, decide_eq_true_eq] at h
      obtain ⟨⟨⟨⟨⟨⟨rfl, h1⟩, hs⟩, hs2⟩, hl⟩, h2⟩, h3⟩ := h
      obtain ⟨a, b, d, f⟩ := c.var h1
      refine ps_weak (ps_expr (pe_bm PySem.F.plainAttrs_list PySem.F.slot_list_insert PySem.F.type_list_insert mt_insert (pe_var a b d f) (pa_cons (sE i c h2 o.1) (pa_cons (sE e c h3 o.2) pa_nil (star_no hs2)) (star_no hs)) rfl ?_ hl (star_no hs) ?_) rfl) fun D σ H h => insert_red h
      · rw [star_no hs, star_no hs2]; rfl
      · rw [star_no hs2]; rfl
    · cases h
  | .expr e, Z, X, st, c, h, o => by
    unfold chkS at h
    split at h
    · simp only [Bool.and_eq_true] at h
      exact ts_expr (sE e c h.2 o) (swaps_no h.1)
    · cases h
  | .ret e, Z, X, st, c, h, o => by
    unfold chkS at h
    split at h
    · exact ts_ret (sE e c h o)
    · cases h
  | .retN, Z, X, st, c, h, o => by
    unfold chkS at h
    split at h
    · exact ts_retN
    · cases h
  | .ite d a b, Z, X, st, c, h, o => by
    unfold chkS at h
    split at h
    · simp only [Bool.and_eq_true] at h
      obtain ⟨⟨⟨h1, ht⟩, h2⟩, h3⟩ := h
      exact ts_ite (sT d c h1 o.1 ht) (sSs a c h2 o.2.1) (sSs b c h3 o.2.2)
    · cases h
  | .forS tg it body, Z, X, st, c, h, o => by
    unfold chkS at h
    split at h
    · rename_i t i b pos
      simp only [Bool.and_eq_true] at h
      obtain ⟨⟨⟨⟨h1, ht⟩, hf⟩, hns⟩, h2⟩ := h
      have pi : PI X t i (TIof X.K it) := sIt it c h1 (fun is htg => by
        subst htg
        cases t <;> first | (cases ht; done) | exact ⟨_, _, _, rfl⟩) o.1
      exact ps_weak (ps_for (by rw [c.g.xe]; exact PassesOwn.never) c.g.calm pi (pg_tg c ht) (sSs body c h2 o.2) (fold_no hns X.env)) fun D σ H h => for_red (all_free hf) h
    · cases h
  | .whl d body, Z, X, st, c, h, o => by
    unfold chkS at h
    split at h
    · simp only [Bool.and_eq_true] at h
      obtain ⟨⟨h1, ht⟩, h2⟩ := h
      exact ps_weak (ps_while (by rw [c.g.xe]; exact PassesOwn.never) (sT d c h1 o.1 ht) (sSs body c h2 o.2)) fun D σ H h => while_red h
    · cases h
  | .pass, Z, X, st, c, h, o => by
    unfold chkS at h
    split at h
    · exact ts_pass
    · cases h
  | .brk, Z, X, st, c, h, o => by
    unfold chkS at h
    split at h
    · exact ts_brk
    · cases h
  | .cont, Z, X, st, c, h, o => by
    unfold chkS at h
    split at h
    · exact ts_cont
    · cases h
  | .raise x, Z, X, st, c, h, o => ts_raise
  | .frz j, Z, X, st, c, h, o => by unfold chkS at h; cases h
theorem sSs : ∀ (ss : Ss) {Z : Sc} {X : Cx} {sts : List Stmt}, Whr P w K mg base k Z X → chkSs Z ss sts = true → okSs (lkOf P w K mg base k) ss → PSs X sts (TSsof X.K Z.R ss)
  | .nil, Z, X, sts, c, h, o => by
    unfold chkSs at h
    split at h
    · exact tss_nil
    · cases h
  | .cons s ss, Z, X, sts, c, h, o => by
    unfold chkSs at h
    split at h
    · simp only [Bool.and_eq_true] at h
      exact tss_frz (free_no h.1) (sSs ss c h.2 o.2)
    · split at h
      · simp only [Bool.and_eq_true] at h
        exact tss_cons (sS s c h.1 o.1) (sSs ss c h.2 o.2)
      · cases h
end
end
end PF

set_option maxRecDepth 100000
set_option maxHeartbeats 1000000
namespace PF
open PySem PySem.Spec PyProof.Rows L2
/-! ### a def by its body -/
def initE (n : Nat) (as : List AV) : AEnv := as.map some ++ List.replicate (n - as.length) none
def finals : List AV → AEnv → Nat → List AV
  | [], _, _ => []
  | .o ds :: r, env, i => (match getE env i with | some (.o ds') => .o ds' | _ => .o ds) :: finals r env (i + 1)
  | .d x :: r, env, i => .d x :: finals r env (i + 1)
  | .b j :: r, env, i => .b j :: finals r env (i + 1)
def retK (R : List Nat) (r : AV) (env : AEnv) (k : AV → Prop) : Prop :=
  match r with
  | .d x => k (.d x)
  | .o ds => k (.o ds)
  | .b j => j ∉ R ∧ (match getE env j with | some (.o ds) => k (.o ds) | _ => False)
structure Body (np n : Nat) (R : List Nat) (b : Ss) (sp : ASp) : Prop where
  len : ∀ as Q X, sp.run as Q X → as.length = np
  lent : ∀ as Q X, sp.run as Q X → ∀ (i : Nat) ds, as[i]? = some (.o ds) → i ∈ R
  run : ∀ as Q, sp.run as Q (fun _ => False) → wSs X0 b (initE n as) { nx := fun env => Q (.d .none) (finals as env 0), rt := fun r env => retK R r env fun r' => Q r' (finals as env 0) }
theorem get_init {n : Nat} {as : List AV} {i : Nat} : getE (initE n as) i = as[i]? := by
  unfold initE
  have rep : ∀ m i, getE (List.replicate m none) i = none := by
    intro m
    induction m with
    | zero => intro i; rfl
    | succ m ih => intro i; cases i with | zero => rfl | succ i => exact ih i
  induction as generalizing i n with
  | nil => simp [rep]
  | cons a as ih =>
    cases i with
    | zero => rfl
    | succ i =>
      show getE (as.map some ++ List.replicate (n - (as.length + 1)) none) i = _
      have := ih (n := n - 1) (i := i)
      rw [show n - 1 - as.length = n - (as.length + 1) by omega] at this
      rw [this]
      simp
theorem fin_len : ∀ {as : List AV} {env : AEnv} {i : Nat}, (finals as env i).length = as.length
  | [], _, _ => rfl
  | .d _ :: r, env, i => by show (finals r env (i + 1)).length + 1 = _; rw [fin_len]; rfl
  | .o _ :: r, env, i => by show (finals r env (i + 1)).length + 1 = _; rw [fin_len]; rfl
  | .b _ :: r, env, i => by show (finals r env (i + 1)).length + 1 = _; rw [fin_len]; rfl
theorem fin_get : ∀ {as : List AV} {env : AEnv} {m i : Nat} {a : AV}, (finals as env m)[i]? = some a → (∃ ds, as[i]? = some (.o ds) ∧ ((∃ ds', getE env (m + i) = some (.o ds') ∧ a = .o ds') ∨ ((∀ ds', getE env (m + i) ≠ some (.o ds')) ∧ a = .o ds))) ∨ (as[i]? = some a ∧ ∀ ds, a ≠ .o ds)
  | [], _, _, _, _, h => by simp [finals] at h
  | x :: r, env, m, 0, a, h => by
    cases x with
    | d y => simp [finals] at h; subst h; exact .inr ⟨rfl, fun ds z => by cases z⟩
    | b y => simp [finals] at h; subst h; exact .inr ⟨rfl, fun ds z => by cases z⟩
    | o y =>
      simp only [finals, List.getElem?_cons_zero, Option.some.injEq] at h
      refine .inl ⟨y, rfl, ?_⟩
      rw [Nat.add_zero]
      split at h
      · rename_i ds' hg
        exact .inl ⟨ds', hg, h.symm⟩
      · rename_i hg
        exact .inr ⟨hg, h.symm⟩
  | x :: r, env, m, i + 1, a, h => by
    have h' : (finals r env (m + 1))[i]? = some a := by cases x <;> simpa [finals] using h
    rcases fin_get h' with ⟨ds, h1, h2⟩ | ⟨h1, h2⟩
    · refine .inl ⟨ds, by simpa using h1, ?_⟩
      rw [show m + (i + 1) = m + 1 + i by omega]
      exact h2
    · exact .inr ⟨by simpa using h1, h2⟩
section
variable {P : Program} {w : World} {K : PySem.W.Frag} {mg : Str → Option Value} {base : Heap}
/-- the entry of a def -/
def entry (as : List AV) (vs : List V) (O : List Addr) (H : Hp) : Fi := ⟨O, H, fun i => match as[i]?, vs[i]? with | some (.o _), some (.ref p) => some p | _, _ => none⟩
theorem entry_par {as : List AV} {vs : List V} {O : List Addr} {H : Hp} {i : Nat} {p : Addr} : (entry as vs O H).par i = some p ↔ (∃ ds, as[i]? = some (.o ds)) ∧ vs[i]? = some (.ref p) := by
  show (match as[i]?, vs[i]? with | some (.o _), some (.ref p) => some p | _, _ => none) = some p ↔ _
  constructor
  · intro h
    split at h
    · rename_i ds q h1 h2
      cases h
      exact ⟨⟨ds, h1⟩, h2⟩
    · cases h
  · rintro ⟨⟨ds, h1⟩, h2⟩
    rw [h1, h2]
theorem start_get {N : List Str} {vs : List V} {i : Nat} {v : V} (h : vs[i]? = some v) : (L2.start N vs)[i]? = some (some v) := by
  unfold L2.start
  obtain ⟨hl, _⟩ := List.getElem?_eq_some_iff.mp h
  rw [List.getElem?_append_left (by simpa using hl), List.getElem?_map, h]
  rfl
theorem entry_ok {as : List AV} {vs : List V} {O : List Addr} {H : Hp} {N : List Str} (a : ArgsOk K O H vs as) (hn : vs.length ≤ N.length) : EnvOk K (entry as vs O H) O H (L2.start N vs) (initE N.length as) where
  len := by
    unfold L2.start initE
    rw [List.length_append, List.length_append, List.length_map, List.length_map, List.length_replicate, List.length_replicate, a.len]
  dat := fun i x h => by
    rw [get_init] at h
    obtain ⟨v, h1, h2⟩ := a.dat i x h
    exact ⟨v, start_get h1, h2⟩
  own := fun i ds h => by
    rw [get_init] at h
    obtain ⟨p, us, h1, h2, h3, h4⟩ := a.own i ds h
    exact ⟨p, us, start_get h1, h2, h3, h4⟩
  nob := fun i j h => by
    rw [get_init] at h
    exact a.nob i j h
  inj := fun i j ds ds' p h1 h2 _ _ => by
    rw [get_init] at h1 h2
    exact a.one i j ds ds' h1 h2
  live := a.live
  sub := fun _ h => h
  new := fun _ h => .inl h
  keep := fun _ _ h _ => h
  ownF := fun i ds p h1 h2 => by
    rw [get_init] at h1
    obtain ⟨q, us, g1, _⟩ := a.own i ds h1
    rw [start_get g1] at h2
    cases h2
    exact .inl ⟨i, entry_par.mpr ⟨⟨ds, h1⟩, g1⟩⟩
  par := fun i p h => by
    obtain ⟨⟨ds, h1⟩, h2⟩ := entry_par.mp h
    exact ⟨start_get h2, ds, by rw [get_init]; exact h1⟩
/-- the body's wish, read -/
theorem body_red {np : Nat} {N : List Str} {R : List Nat} {b : Ss} {sp : ASp} (B : Body np N.length R b sp) (hn : np ≤ N.length) {vs : List V} {H : Hp} {Q : VK} (h : liftSp K sp vs H Q E0) : TSsof K R b { nx := fun _ H' => Q .non H', rt := Q } (L2.start N vs) H := by
  obtain ⟨as, O, ao, hr⟩ := h
  have hl := B.len _ _ _ hr
  have en := entry_ok (N := N) ao (by rw [ao.len, hl]; exact hn)
  have fr : FR (entry as vs O H) R := ⟨fun i p z => by
    obtain ⟨⟨ds, h1⟩, _⟩ := entry_par.mp z
    exact B.lent _ _ _ hr i ds h1, ao.live⟩
  -- what stands at the end
  have fin : ∀ {σ' : L2.St} {H' : Hp} {O' : List Addr} {env' : AEnv}, EnvOk K (entry as vs O H) O' H' σ' env' → Shape as (finals as env' 0) ∧ ArgsOk K O H' vs (finals as env' 0) ∧ (∀ a o, H a = some o → (∀ (i : Nat) ds, as[i]? = some (.o ds) → vs[i]? ≠ some (.ref a)) → H' a = some o) ∧
      ∀ (i : Nat) ds, (finals as env' 0)[i]? = some (.o ds) → ∃ p us, vs[i]? = some (.ref p) ∧ p ∈ O ∧ H' p = some (.lst us) ∧ DpAll K (Wo H' O') us ds := by
    intro σ' H' O' env' e
    have sO : ∀ p, p ∈ O → p ∈ O' := fun p hp => e.sub p hp
    have keepD : ∀ a o, H a = some o → (∀ (i : Nat) ds, as[i]? = some (.o ds) → vs[i]? ≠ some (.ref a)) → H' a = some o := fun a o h1 h2 => e.keep a o h1 fun ⟨i, hi⟩ => by
      obtain ⟨⟨ds, g1⟩, g2⟩ := entry_par.mp hi
      exact h2 i ds g1 g2
    have lentO : ∀ (i : Nat) ds a, as[i]? = some (.o ds) → vs[i]? = some (.ref a) → a ∈ O := fun i ds a h1 h2 => by
      obtain ⟨p, us, g1, g2, _⟩ := ao.own i ds h1
      rw [h2] at g1; cases g1
      exact g2
    have sm : Same (Wo H O) (Wo H' O) := fun a o z => by
      obtain ⟨n, z⟩ := wo_some z
      rw [wo_out n]
      exact keepD a o z fun i ds h1 h2 => n (lentO i ds a h1 h2)
    have ow : ∀ (i : Nat) ds, (finals as env' 0)[i]? = some (.o ds) → ∃ p us, vs[i]? = some (.ref p) ∧ p ∈ O ∧ H' p = some (.lst us) ∧ DpAll K (Wo H' O') us ds := fun i ds h => by
      rcases fin_get h with ⟨ds0, h1, h2⟩ | ⟨h1, h2⟩
      · obtain ⟨p, us0, g1, g2, g3, g4⟩ := ao.own i ds0 h1
        have hp := entry_par (O := O) (H := H) |>.mpr ⟨⟨ds0, h1⟩, g1⟩
        obtain ⟨k1, ds1, k2⟩ := e.par i p hp
        rw [Nat.zero_add] at h2
        rcases h2 with ⟨ds', h3, h4⟩ | ⟨h3, h4⟩
        · cases h4
          rw [k2] at h3; cases h3
          obtain ⟨p', us, m1, m2, m3, m4⟩ := e.own i _ k2
          rw [k1] at m1; cases m1
          exact ⟨p, us, g1, g2, m3, m4⟩
        · exact (h3 ds1 k2).elim
      · exact (h2 ds rfl).elim
    refine ⟨⟨fin_len, fun i ds h => ?_⟩, ⟨by rw [fin_len]; exact ao.len, fun i x h => ?_, fun i ds h => ?_, fun i j h => ?_, fun i j ds ds' h1 h2 => ?_, fun p hp => e.live p (sO p hp)⟩, keepD, ow⟩
    · have hlt : i < (finals as env' 0).length := by rw [fin_len]; exact (List.getElem?_eq_some_iff.mp h).1
      have hg : (finals as env' 0)[i]? = some (finals as env' 0)[i] := List.getElem?_eq_getElem hlt
      rcases fin_get hg with ⟨ds0, h1, h2⟩ | ⟨h1, h2⟩
      · rcases h2 with ⟨ds', _, h4⟩ | ⟨_, h4⟩
        · exact ⟨ds', by rw [hg, h4]⟩
        · exact ⟨ds0, by rw [hg, h4]⟩
      · rw [h] at h1
        exact (h2 ds (Option.some.inj h1).symm).elim
    · rcases fin_get h with ⟨ds0, h1, h2⟩ | ⟨h1, h2⟩
      · rcases h2 with ⟨ds', _, h4⟩ | ⟨_, h4⟩ <;> cases h4
      · obtain ⟨v, g1, g2⟩ := ao.dat i x h1
        exact ⟨v, g1, dp_mono sm g2⟩
    · obtain ⟨p, us, g1, g2, g3, g4⟩ := ow i ds h
      exact ⟨p, us, g1, g2, g3, dps_mono (wo_sub sO) g4⟩
    · rcases fin_get h with ⟨ds0, h1, h2⟩ | ⟨h1, h2⟩
      · rcases h2 with ⟨ds', _, h4⟩ | ⟨_, h4⟩ <;> cases h4
      · exact ao.nob i j h1
    · rcases fin_get h1 with ⟨x, g1, _⟩ | ⟨_, g1⟩
      · rcases fin_get h2 with ⟨y, k1, _⟩ | ⟨_, k1⟩
        · exact ao.one i j _ _ g1 k1
        · exact (k1 ds' rfl).elim
      · exact (g1 ds rfl).elim
  have hb := B.run as _ hr
  refine ⟨entry as vs O H, O, initE N.length as, fr, en, wSs_mono b ⟨fun env' q σ' H' O' e x => ?_, fun r env' q v σ' H' O' e s a => ?_, fun _ q => False.elim q, fun _ q => False.elim q⟩ hb⟩
  · obtain ⟨f1, f2, f3, f4⟩ := fin e
    exact q .non H' f1 f2 f3 .non trivial
  · obtain ⟨f1, f2, f3, f4⟩ := fin e
    have sO : ∀ p, p ∈ O → p ∈ O' := fun p hp => e.sub p hp
    cases r with
    | d x => exact q v H' f1 f2 f3 (dp_mono (wo_sub sO) s) trivial
    | o ds =>
      obtain ⟨p, us, rfl, n, no, hp, hd⟩ := s
      refine q _ H' f1 f2 f3 ⟨p, us, rfl, n, fun z => no (sO p z), hp, dps_mono (wo_sub (fun z hz => ?_)) hd⟩ fun p' hp' i xs hi => ?_
      · rcases List.mem_cons.mp hz with g | g
        · rw [g]; exact List.mem_cons_self
        · exact List.mem_cons_of_mem _ (sO z g)
      · cases hp'
        obtain ⟨a1, us1, g1, g2, g3, _⟩ := f4 i xs hi
        rcases fin_get hi with ⟨ds0, h1, h2⟩ | ⟨h1, h2⟩
        · have hpar := entry_par (O := O) (H := H) |>.mpr ⟨⟨ds0, h1⟩, g1⟩
          obtain ⟨k1, ds1, k2⟩ := e.par i a1 hpar
          rw [Nat.zero_add] at h2
          rcases h2 with ⟨ds', h3, h4⟩ | ⟨h3, h4⟩
          · cases h4
            obtain ⟨a2, us2, m1, m2, m3, m4⟩ := (a p rfl).own i xs h3
            rw [k1] at m1; cases m1
            refine ⟨a1, us2, g1, m3, dps_mono (wo_sub (fun z hz => ?_)) m4⟩
            rcases List.mem_cons.mp hz with g | g
            · rw [g]; exact List.mem_cons_self
            · exact List.mem_cons_of_mem _ (sO z g)
          · exact (h3 ds1 k2).elim
        · exact (h2 xs rfl).elim
    | b j =>
      obtain ⟨hjR, q⟩ := q
      split at q
      · rename_i ds hg
        obtain ⟨p, rfl, hs⟩ := s
        obtain ⟨p', us, g1, g2, g3, g4⟩ := e.own j ds hg
        rw [hs] at g1; cases g1
        have hH0 : H p = none := by
          rcases e.ownF j ds p hg hs with ⟨i, hi⟩ | z
          · obtain ⟨k1, ds1, k2⟩ := e.par i p hi
            have : i = j := e.inj i j _ _ p k2 hg k1 hs
            subst this
            exact (hjR (fr.par i p hi)).elim
          · exact z
        have npO : p ∉ O := fun z => ao.live p z hH0
        have sub2 : ∀ z, z ∈ p :: O → z ∈ O' := fun z hz => by
          rcases List.mem_cons.mp hz with h | h
          · rw [h]; exact g2
          · exact sO z h
        refine q _ H' f1 f2 f3 ⟨p, us, rfl, hH0, npO, g3, dps_mono (wo_sub sub2) g4⟩ fun p' hp' i xs hi => ?_
        cases hp'
        obtain ⟨a1, us1, m1, m2, m3, m4⟩ := f4 i xs hi
        exact ⟨a1, us1, m1, m3, dps_mono (wo_sub sub2) m4⟩
      · exact q.elim
/-- THE RULE for a def -/
theorem fn_g {k : Nat} {x qual : Str} {st : Stmt} {f : Addr} {fd : FuncData} {N ps : List Str} {R : List Nat} {b : Ss} {sp : ASp} (Fn : Fun K x qual st f fd) (S : FnScope N ps (defScope st)) (B : Body ps.length N.length R b sp)
    (hchk : chkSs ⟨N, defScope st, fun _ => true, R⟩ b (defBody st) = true) (hok : okSs (lkOf P w K mg base k) b) (hbn : ∀ x ∈ bnames, mg x = none) : FnG P w K mg base (k + 1) f fd ps (liftSp K sp) := by
  have hpl : ps.length ≤ N.length := by
    have := congrArg List.length S.pre
    rw [List.length_take] at this
    omega
  have hlen : ∀ vs H Q E, liftSp K sp vs H Q E → vs.length = ps.length := fun vs H Q E ⟨as, O, ao, hr⟩ => by rw [ao.len]; exact B.len _ _ _ hr
  obtain ⟨oc, od, kV, doc, pm, an, cdv, ct, osl, rfl, lk, hcd⟩ := Fn.ex
  refine ⟨hlen, fun A outer s H args us vs Q hr hg e0 hb rv hsp => ?_⟩
  have old : ∀ c o, base.get? c = some o → s.heap.get? c = some o := fun c o z => (e0.bs c o z).1
  have KX : K.In s.heap := e0.mod.kin.keeps old
  refine codeAny_call_function hr.depth (KX _ _ lk) rfl S.co S.gen rfl (PySem.W.codeRec_of KX hcd) (hb _ _ _ _ ?_)
  refine wpAny_newFunctionEnv_cells S.kind (fun y hy => ?_) fun env he s1 ic => ?_
  · obtain ⟨n, v⟩ := y
    have hm : n ∈ ps := (List.of_mem_zip hy).1
    rcases S.par n hm with q | q
    · exact .inl q
    · exact .inr ⟨q, PySem.W.cellsFrom_some _ _ _ (.inl q)⟩
  · subst he
    refine ⟨(e0.mod.nolimit.keeps old).keeps ic.toInCall.keep, codeAny_func ?_⟩
    have I := inv_start (CX := CX0) (E := E0) (cd := cdv) S hr.hd e0 (hlen _ _ _ _ hsp) rv ic
    have I' := I.wish (fun _ _ => False)
    have c : Whr P w K mg base k ⟨N, defScope st, fun _ => true, R⟩ (cxOf CX0 P w K mg base N qual (defScope st) f cdv A outer s H E0).nox :=
      ⟨⟨rfl, S.nd, rfl, S.kind, fun _ _ => rfl, rfl, hr.deeper _, hg, rfl⟩, rfl, rfl, rfl, rfl, rfl, hbn⟩
    have go := (sSs b c hchk hok).run [] s1 (L2.start N vs) H { nx := fun _ H' => Q .non H', rt := Q } I' (body_red B hpl hsp)
    refine wpAny_mono go (fun fl s' hs => ?_) fun _ _ z => z.elim
    have done : ∀ {σ' : L2.St} {H' : Hp} {v : V} {u : Value}, Inv (cxOf CX0 P w K mg base N qual (defScope st) f cdv A outer s H E0).nox [] σ' H' s' → RelV v u → Q v H' → CE outer P w H s Q u s' := fun {σ' H' v u} J r q => ⟨v, H', J.os, J.bare, J.base, J.hok, r, q⟩
    cases fl with
    | ret u =>
      obtain ⟨v, σ', H', J, r, q⟩ := hs
      exact done J r q
    | next =>
      obtain ⟨σ', H', J, q⟩ := hs
      exact done (v := V.non) (u := Value.none) J rfl q
    | brk =>
      obtain ⟨_, _, _, q⟩ := hs
      exact False.elim q
    | cont =>
      obtain ⟨_, _, _, q⟩ := hs
      exact False.elim q
end
end PF

set_option maxRecDepth 100000
set_option maxHeartbeats 1000000
namespace PF
open PySem PySem.Spec PyProof.Rows L2
/-! ### the law's end -/
abbrev FP (K : PySem.W.Frag) (x : Str) (st : Stmt) (f : Addr) (fd : FuncData) : Prop := FunD K x x (defArgs st) (defBody st) (defScope st) [] [] f fd
theorem fun_of {K : PySem.W.Frag} {x : Str} {st : Stmt} {f : Addr} {fd : FuncData} (F : FP K x st f fd) : Fun K x x st f fd := by
  refine ⟨?_, F.kp⟩
  obtain ⟨oc, od, dV, kV, doc, pm, an, cdv, ct, osl, e, l, c, hD, _⟩ := F.ex
  rcases hD with ⟨_, z⟩ | ⟨z, _⟩
  · subst z
    exact ⟨oc, od, kV, doc, pm, an, cdv, ct, osl, e, l, c⟩
  · exact absurd rfl z
/-- the law: a bare list of whole numbers comes in, True goes out -/
def lawSp (n : Nat) : ASp where
  run := fun as Q _ => ∃ ns : List Int, as = [.d (.list (ns.map .int))] ∧ ns.length ≤ n ∧ (∀ z ∈ ns, Builtin.Int.intBits z ≤ 1048576) ∧ Q (.d (.bool true)) as
  mono := fun vs Q Q' X X' h1 _ ⟨ns, e, hl, hz, q⟩ => ⟨ns, e, hl, hz, h1 _ _ q⟩
theorem dp_ints {K : PySem.W.Frag} {H : Hp} : ∀ ns : List Int, DpAll K H (ns.map V.int) (ns.map PyData.int)
  | [] => .nil
  | n :: r => .cons (.int n) (dp_ints r)
theorem wo_nil {H : Hp} : Wo H [] = H := by
  funext a
  simp [Wo]
theorem law_end {P : Program} {w : World} {K : PySem.W.Frag} {mg mb : Str → Option Value} {k n : Nat} {f a : Addr} {fd : FuncData} {x : Str} {t : Shared} {us : List Value} {ns : List Int}
    (KX : K.In t.heap) (hns : t.heap.Ns mainGlobals mg) (nb : t.heap.Ns builtinsNs mb) (bb : ∀ x : Str, x ≠ "__name__" → mb x = bootBuiltins x) (lim : t.heap.NoLimit) (g0 : t.gens = #[])
    (la : t.heap.get? a = some { cls := .type "list", data := .seq us.toArray }) (hi : IntsAre us ns) (hl : ns.length ≤ n) (hn : n ≤ sizeLine) (hz : ∀ z ∈ ns, Builtin.Int.intBits z ≤ 1048576) (room : Room k callerA)
    (F : ∀ base : Heap, K.In base → base.Ns mainGlobals mg → FnG P w K mg base k f fd [x] (liftSp K (lawSp n))) (hbind : ∀ (s : Shared) (u : Value), BindsTo s fd ⟨[u], []⟩ [(x, u)]) :
    codeAny (model P w) callerA (.call (.ref f) ⟨[.ref a], []⟩) (fun r s' => r = .ok (.ret (.bool true)) ∧ OldK t.heap s'.heap ∧ s'.os = t.os ∧ AllBare s'.gens) t := by
  have rel := vals_ints hi
  have len2 := hi.length
  have len3 : ns.length ≤ sizeLine := Nat.le_trans hl hn
  have main : ∀ H : Hp, Only H → SqL K H a (ns.map V.int) → HOk P w H t.heap → (∀ c, H c ≠ none → c = a) → (H a ≠ none → K.lookup a = none) →
      codeAny (model P w) callerA (.call (.ref f) ⟨[.ref a], []⟩) (fun r s' => r = .ok (.ret (.bool true)) ∧ OldK t.heap s'.heap ∧ s'.os = t.os ∧ AllBare s'.gens) t := by
    intro H only sq hok just out
    have un : ∀ {c : Addr} {o : Obj}, t.heap.get? c = some o → H c = none → (hidT t.heap H).get? c = some o := fun e n => hidT_get e n
    have nod : ∀ {c : Addr} {o : Obj} {es : Array DictEntry} {ep : Nat}, t.heap.get? c = some o → o.data = .dict es ep → H c = none := fun {c o es ep} e d => by
      rcases hq : H c with _ | u
      · rfl
      · have ec : c = a := just c (fun z => by rw [hq] at z; cases z)
        rw [ec, la] at e
        cases e
        have d2 : Data.seq us.toArray _ = Data.dict es ep := d
        cases d2
    have nsH : ∀ {c : Addr} {m : Str → Option Value}, t.heap.Ns c m → (hidT t.heap H).Ns c m := fun {c m} ⟨o, es, ep, e, d, r⟩ => ⟨o, es, ep, un e (nod e d), d, r⟩
    have kH : K.In (hidT t.heap H) := fun c o e => un (KX c o e) (by
      rcases hq : H c with _ | u
      · rfl
      · have ec : c = a := just c (fun z => by rw [hq] at z; cases z)
        rw [ec] at e hq
        rw [out (fun z => by rw [hq] at z; cases z)] at e
        cases e)
    have md : Mod K mg (hidT t.heap H) := ⟨kH, nsH hns, ⟨mb, nsH nb, bb⟩, let ⟨mc, h1, h2⟩ := lim; ⟨mc, nsH h1, h2⟩⟩
    have en : Env0 P w K mg (hidT t.heap H) callerA [] t H := ⟨rfl, md, fun c o e => of_hidT e, Nat.le_of_eq (hidT_size _ _), trivial, fun c hc => absurd (show c ∈ ([] : List Addr) from hc) (by simp), hok, .of_eq g0⟩
    have spn : liftSp K (lawSp n) [.ref a] H (fun v _ => v = .bl true) E0 := by
      refine ⟨[.d (.list (ns.map .int))], [], ⟨rfl, fun i y h => ?_, fun i ds h => ?_, fun i j h => ?_, fun i j ds ds' h => ?_, fun p hp => ?_⟩, ns, rfl, hl, hz, fun v H' _ _ _ r _ => ?_⟩
      · match i, h with
        | 0, h =>
          cases h
          exact ⟨_, rfl, by rw [wo_nil]; exact .lst sq (dp_ints ns)⟩
        | i + 1, h => simp at h
      · match i, h with
        | 0, h => cases h
        | i + 1, h => simp at h
      · match i, h with
        | 0, h => cases h
        | i + 1, h => simp at h
      · match i, h with
        | 0, h => cases h
        | i + 1, h => simp at h
      · cases hp
      · have r2 : Dp K (Wo H' []) v (.bool true) := r
        cases r2
        rfl
    refine codeAny_mono ((F _ kH (nsH hns)).run callerA [] t H ⟨[.ref a], []⟩ [.ref a] [.ref a] _ room rfl en (hbind t (.ref a)) (.cons rfl .nil) spn) fun r s' h => ?_
    match r, h with
    | .ok (.ret u), h =>
      obtain ⟨v, H', os, bare, und, hok', rv, q⟩ := h
      have q' : v = .bl true := q
      subst q'
      have eu : u = Value.bool true := rv
      subst eu
      refine ⟨rfl, OldK.of_keep fun c o e => ?_, os, bare⟩
      rcases hq : H c with _ | ho
      · exact und.keep c o e hq (by intro z; exact absurd (show c ∈ ([] : List Addr) from z) (by simp)) (by simp)
      · rcases only c with z | ⟨ob, xs, z⟩
        · rw [hq] at z; cases z
        · obtain ⟨e1, _⟩ := hok c _ z
          obtain ⟨e2, _⟩ := hok' c _ (und.frzs c ob _ z)
          rw [e] at e1; cases e1
          exact e2
  rcases hk : K.lookup a with _ | o
  · refine main (fun c => if c = a then some (.frz { cls := .type "list", data := .seq us.toArray } (.lst (ns.map V.int))) else none) (fun c => ?_) (.inl (.inr ⟨{ cls := .type "list", data := .seq us.toArray }, if_pos rfl⟩)) (fun c u z => ?_) (fun c z => ?_) fun _ => hk
    · by_cases hc : c = a
      · exact .inr ⟨_, _, if_pos hc⟩
      · exact .inl (if_neg hc)
    · by_cases hc : c = a
      · have z2 := (if_pos hc).symm.trans z
        cases z2
        rw [hc]
        exact ⟨la, by rw [List.length_map]; exact len3, us, _, rel, la⟩
      · have z2 := (if_neg hc).symm.trans z
        cases z2
    · by_cases hc : c = a
      · exact hc
      · exact absurd (if_neg hc) z
  · have e := KX a o hk
    rw [la] at e
    cases e
    exact main (fun _ => none) (fun _ => .inl rfl) (.inr ⟨_, us.toArray, _, hk, rfl, rfl, rfl, by rw [List.size_toArray, len2]; exact len3, by simpa using rel⟩) (fun c u z => by cases (show (none : Option HO) = some u from z)) (fun c z => absurd rfl z) fun z => absurd rfl z
theorem walk_g {l : PySem.W.OpenLaw} {n k : Nat} {q : Program} {loose : List Str} {XP : (Str → Option Value) → Heap → Prop} {YP : World → Heap → Prop} {d : DefRec} {x : Str}
    (hn : l.most = some n) (hn2 : n ≤ sizeLine) (hdf : d.params.defaults = []) (room : Room k callerA)
    (F : ∀ (w : World) (mg : Str → Option Value) (f : Addr) (h : Heap), YP w h → h.Ns mainGlobals mg → mg d.name = some (.ref f) →
      ∃ (K : PySem.W.Frag) (fd : FuncData), K.In h ∧ (∀ (s : Shared) (u : Value), BindsTo s fd ⟨[u], []⟩ [(x, u)]) ∧
        ∀ base : Heap, K.In base → base.Ns mainGlobals mg → FnG l.prog w K mg base k f fd [x] (liftSp K (lawSp n))) :
    PySem.W.WalkO q loose XP YP l.row.toRowW d [] (fun f vs => PySem.call f vs) := by
  refine Att.attach_callB hn hdf fun w t0 t mg mb f o pm cd doc a us ns G Y ho hd hcd hmg la hi hl hz g0 => ?_
  obtain ⟨K, fd, KX, hb, hF⟩ := F w mg f _ Y G.T.g hmg
  exact law_end KX G.T.g G.T.b G.T.builtins G.T.nolimit g0 la hi hl hn2 hz room hF hb
/-! ### what the head tells -/
theorem glob_int {K : PySem.W.Frag} {h : Heap} {mg : Str → Option Value} {x : Str} {i : Int} (X : K.In h) (G : h.Ns mainGlobals mg) (c : (He.Fa.int x i).ok K = true) : GlobOk K mg x (.int i) := by
  obtain ⟨t, e⟩ := He.int_ok X G c
  exact ⟨.int i, _, e, ⟨t, rfl⟩, fun H => .int i⟩
/-- plain tables of whole numbers -/
def DvI (ns : List Int) : List He.Dv := ns.map He.Dv.int
theorem glob_tup {K : PySem.W.Frag} {h : Heap} {mg : Str → Option Value} {x : Str} {ns : List Int} (X : K.In h) (G : h.Ns mainGlobals mg) (c : (He.Fa.glo x).ok K = true) (t : He.tupB K x (DvI ns) = true) : GlobOk K mg x (.tuple (ns.map .int)) := by
  refine ⟨.ref (He.ga K x), _, He.glo_ok X G c, rfl, fun H => .tup (He.tupB_ok t H) ?_⟩
  have : (DvI ns).map (He.Dv.v K) = ns.map V.int := by
    unfold DvI
    rw [List.map_map]
    rfl
  rw [this]
  exact dp_ints ns
/-- the head's facts, with one more look at the part of the heap -/
def hookP (n : Nat) (ex : PySem.W.Frag → Bool) (fa : List He.Fa) (fn : List He.DefD) : PySem.W.Hook where
  α := Bool × He.AlD
  obs := fun s => let K := He.frG s.heap.get? (He.asD s.heap.get? n); (ex K, He.obsD fa fn K)
  val := fun _ => (true, He.valD fn)
  says := fun _ h => ∃ K : PySem.W.Frag, K.In h ∧ ex K = true ∧ He.SaysD fa fn K
  of := fun _ _ e => ⟨_, He.frG_in, congrArg Prod.fst e, congrArg Prod.snd e⟩
  keeps := fun _ _ _ ⟨K, i, c⟩ k => ⟨K, PySem.W.Frag.In.keeps i k, c⟩
def obP (n : Nat) (ex : PySem.W.Frag → Bool) (fa : List He.Fa) (fn : List He.DefD) (s : PySem.W.SharedT) : Bool × He.AlD := let K := He.frG (HandSHeadRun.getT s) (He.asD (HandSHeadRun.getT s) n); (ex K, He.obsD fa fn K)
theorem obP_eq {n : Nat} {ex : PySem.W.Frag → Bool} {fa : List He.Fa} {fn : List He.DefD} (s : PySem.W.SharedT) : obP n ex fa fn s = (hookP n ex fa fn).obs s.abs := by
  have e : HandSHeadRun.getT s = s.abs.heap.get? := funext (HandSHeadRun.getT_eq s)
  show (let K := He.frG (HandSHeadRun.getT s) (He.asD (HandSHeadRun.getT s) n); (ex K, He.obsD fa fn K)) = _
  rw [e]
  rfl
/-- a def of the head, under its name -/
theorem call_of {P : Program} {w : World} {K : PySem.W.Frag} {mg : Str → Option Value} {base : Heap} {k : Nat} {x : Str} {st : Stmt} {f : Addr} {fd : FuncData} {ps : List Str} {sp : ASp} (F : FP K x st f fd) (g : mg x = some (.ref f)) (G : FnG P w K mg base k f fd ps (liftSp K sp))
    (hb : ∀ (kV doc pm : Value) (an : Option Addr) (cdv ct : Value) (us : List Value), us.length = ps.length → bindArgs (PySem.W.fnOf x x (defArgs st) (defBody st) (defScope st) .none kV doc pm an cdv ct) ⟨us, []⟩ = pure (ps.zip us)) : CallOk P w K mg base k x sp :=
  ⟨f, fd, ps, G, g, F.kp, F.bindsN hb⟩
theorem callK_of {P : Program} {w : World} {K : PySem.W.Frag} {mg : Str → Option Value} {base : Heap} {k : Nat} {x : Str} {st : Stmt} {f : Addr} {fd : FuncData} {ps ks : List Str} {sp : ASp} (F : FP K x st f fd) (g : mg x = some (.ref f)) (G : FnG P w K mg base k f fd ps (liftSp K sp))
    (hb : ∀ (kV doc pm : Value) (an : Option Addr) (cdv ct : Value) (ws : List Value), ws.length = ks.length → ∃ us, ps.mapM (fun p => (ks.zip ws).lookup p) = some us ∧ bindArgs (PySem.W.fnOf x x (defArgs st) (defBody st) (defScope st) .none kV doc pm an cdv ct) ⟨[], ks.zip ws⟩ = pure (ps.zip us)) : CallKOk P w K mg base k x sp ps ks := by
  refine ⟨f, fd, G, g, F.kp, fun s ws _ hl => ?_⟩
  obtain ⟨oc, od, dV, kV, doc, pm, an, cdv, ct, osl, e, l, c, hD, _⟩ := F.ex
  rcases hD with ⟨_, z⟩ | ⟨z, _⟩
  · subst z
    obtain ⟨us, h1, h2⟩ := hb kV doc pm an cdv ct ws hl
    exact ⟨us, h1, by rw [e]; exact .of_eq h2⟩
  · exact absurd rfl z
theorem CallOk.mono {P : Program} {w : World} {K : PySem.W.Frag} {mg : Str → Option Value} {base : Heap} {j k : Nat} {x : Str} {sp : ASp} (h : CallOk P w K mg base j x sp) (l : j ≤ k) : CallOk P w K mg base k x sp := by
  obtain ⟨f, fd, ps, G, r⟩ := h
  exact ⟨f, fd, ps, G.mono l, r⟩
theorem CallKOk.mono {P : Program} {w : World} {K : PySem.W.Frag} {mg : Str → Option Value} {base : Heap} {j k : Nat} {x : Str} {sp : ASp} {ps ks : List Str} (h : CallKOk P w K mg base j x sp ps ks) (l : j ≤ k) : CallKOk P w K mg base k x sp ps ks := by
  obtain ⟨f, fd, G, r⟩ := h
  exact ⟨f, fd, G.mono l, r⟩
end PF

set_option maxRecDepth 100000
set_option maxHeartbeats 1000000
namespace PF
open PySem
/-! ### promises as wishes -/
def lendD : List AV → Option (List PyData)
  | [] => some []
  | .d x :: r => (lendD r).map (x :: ·)
  | .o ds :: r => (lendD r).map (.list ds :: ·)
  | .b _ :: _ => none
abbrev WF := List PyData → (AV → Prop) → Prop
def WF.Mono (f : WF) : Prop := ∀ xs k k', (∀ r, k r → k' r) → f xs k → f xs k'
/-- data in -/
def spW (f : WF) (m : f.Mono) : ASp where
  run := fun as Q _ => ∃ xs : List PyData, as = xs.map AV.d ∧ f xs fun r => Q r as
  mono := fun vs Q Q' X X' h _ ⟨xs, e, q⟩ => ⟨xs, e, m _ _ _ (fun r q => h _ _ q) q⟩
theorem lend_d : ∀ {vs : List AV} {xs : List PyData} {env : AEnv} {k : List AV → Prop}, lendD vs = some xs → (lendK env vs k ↔ k (xs.map AV.d))
  | [], xs, env, k, h => by cases h; exact Iff.rfl
  | .d x :: r, xs, env, k, h => by
    unfold lendD at h
    obtain ⟨ys, h1, rfl⟩ := Option.map_eq_some_iff.mp h
    exact lend_d (vs := r) (k := fun as => k (.d x :: as)) h1
  | .o ds :: r, xs, env, k, h => by
    unfold lendD at h
    obtain ⟨ys, h1, rfl⟩ := Option.map_eq_some_iff.mp h
    exact lend_d (vs := r) (k := fun as => k (.d (.list ds) :: as)) h1
  | .b j :: r, xs, env, k, h => by cases h
theorem lend_lent : ∀ {vs : List AV} {xs : List PyData}, lendD vs = some xs → lent vs = []
  | [], _, _ => rfl
  | .d x :: r, xs, h => by
    unfold lendD at h
    obtain ⟨ys, h1, rfl⟩ := Option.map_eq_some_iff.mp h
    exact lend_lent (vs := r) h1
  | .o ds :: r, xs, h => by
    unfold lendD at h
    obtain ⟨ys, h1, rfl⟩ := Option.map_eq_some_iff.mp h
    exact lend_lent (vs := r) h1
  | .b j :: r, xs, h => by cases h
theorem lend_back : ∀ {vs : List AV} {xs : List PyData} {env : AEnv} {as : List AV}, lendD vs = some xs → backL env vs as = env
  | [], _, env, as, _ => by cases as <;> rfl
  | .d x :: r, xs, env, [], h => rfl
  | .o x :: r, xs, env, [], h => rfl
  | .d x :: r, xs, env, a :: as, h => by
    unfold lendD at h
    obtain ⟨ys, h1, rfl⟩ := Option.map_eq_some_iff.mp h
    exact lend_back (vs := r) h1
  | .o ds :: r, xs, env, a :: as, h => by
    unfold lendD at h
    obtain ⟨ys, h1, rfl⟩ := Option.map_eq_some_iff.mp h
    exact lend_back (vs := r) h1
  | .b j :: r, xs, env, as, h => by cases h
theorem map_d_inj : ∀ {xs ys : List PyData}, xs.map AV.d = ys.map AV.d → xs = ys
  | [], [], _ => rfl
  | [], _ :: _, h => by cases h
  | _ :: _, [], h => by cases h
  | x :: xs, y :: ys, h => by
    simp only [List.map_cons, List.cons.injEq, AV.d.injEq] at h
    rw [h.1, map_d_inj h.2]
theorem call_W {f : WF} {m : f.Mono} {vs : List AV} {xs : List PyData} {env : AEnv} {Q : AV → AEnv → Prop} {X : XQ} (h : lendD vs = some xs) : callK (spW f m) vs env Q X ↔ f xs fun r => Q r env := by
  unfold callK
  rw [lend_d h, lend_lent h]
  constructor
  · rintro ⟨_, ys, e, q⟩
    rw [map_d_inj e]
    exact m _ _ _ (fun r (q : Q r (backL env vs (xs.map AV.d))) => by rw [lend_back h] at q; exact q) q
  · intro q
    exact ⟨Nat.zero_le _, xs, rfl, m _ _ _ (fun r q => by show Q r (backL env vs (xs.map AV.d)); rw [lend_back h]; exact q) q⟩
abbrev LF := List PyData → List PyData → (AV → List PyData → Prop) → Prop
def LF.Mono (f : LF) : Prop := ∀ l xs k k', (∀ r l, k r l → k' r l) → f l xs k → f l xs k'
/-- one list is lent, then data -/
def spL (f : LF) (m : f.Mono) : ASp where
  run := fun as Q _ => ∃ (l : List PyData) (xs : List PyData), as = .o l :: xs.map AV.d ∧ f l xs fun r l' => Q r (.o l' :: xs.map AV.d)
  mono := fun vs Q Q' X X' h _ ⟨l, xs, e, q⟩ => ⟨l, xs, e, m _ _ _ _ (fun r l' q => h _ _ q) q⟩
theorem call_L {f : LF} {m : f.Mono} {vs : List AV} {l xs : List PyData} {j : Nat} {env : AEnv} {Q : AV → AEnv → Prop} {X : XQ} (hj : getE env j = some (.o l)) (h : lendD vs = some xs) : callK (spL f m) (.b j :: vs) env Q X ↔ f l xs fun r l' => Q r (setE env j (some (.o l'))) := by
  unfold callK lendK
  rw [hj]
  simp only [lend_d h, lent, lend_lent h]
  constructor
  · rintro ⟨_, l2, ys, e, q⟩
    simp only [List.cons.injEq, AV.o.injEq] at e
    rw [e.1, map_d_inj e.2]
    exact m _ _ _ _ (fun r l' (q : Q r (backL (setE env j (some (.o l'))) vs (ys.map AV.d))) => by rw [lend_back h] at q; exact q) q
  · intro q
    exact ⟨by simp, l, xs, rfl, m _ _ _ _ (fun r l' q => by show Q r (backL (setE env j (some (.o l'))) vs (xs.map AV.d)); rw [lend_back h]; exact q) q⟩
theorem fin_d : ∀ {xs : List PyData} {env : AEnv} {i : Nat}, finals (xs.map AV.d) env i = xs.map AV.d
  | [], _, _ => rfl
  | x :: r, env, i => by show AV.d x :: finals (r.map AV.d) env (i + 1) = _; rw [fin_d]; rfl
theorem retK_mono {R : List Nat} {r : AV} {env : AEnv} {k k' : AV → Prop} (h : ∀ r, k r → k' r) (q : retK R r env k) : retK R r env k' := by
  unfold retK at q ⊢
  split at q
  · exact h _ q
  · exact h _ q
  · refine ⟨q.1, ?_⟩
    have q2 := q.2
    split at q2
    · exact h _ q2
    · exact q2.elim
theorem body_W {np n : Nat} {R : List Nat} {b : Ss} {f : WF} {m : f.Mono} (hl : ∀ xs k, f xs k → xs.length = np) (h : ∀ xs (k : AV → Prop), f xs k → wSs X0 b (initE n (xs.map AV.d)) { nx := fun _ => k (.d .none), rt := fun r env => retK R r env k }) : Body np n R b (spW f m) where
  len := fun as Q X ⟨xs, e, q⟩ => by rw [e, List.length_map]; exact hl _ _ q
  lent := fun as Q X ⟨xs, e, q⟩ i ds z => by
    rw [e, List.getElem?_map] at z
    cases hx : xs[i]? with
    | none => rw [hx] at z; cases z
    | some y => rw [hx] at z; cases z
  run := fun as Q ⟨xs, e, q⟩ => by
    subst e
    refine wSs_mono b ?_ (h xs (fun r => Q r (xs.map AV.d)) q)
    refine ⟨fun env z => ?_, fun r env z => ?_, fun _ z => z, fun _ z => z⟩
    · show Q (.d .none) (finals (xs.map AV.d) env 0)
      rw [fin_d]; exact z
    · exact retK_mono (k := fun r => Q r (xs.map AV.d)) (fun r z => by show Q r (finals (xs.map AV.d) env 0); rw [fin_d]; exact z) z
def endL (env : AEnv) (p : List PyData → Prop) : Prop := match getE env 0 with
  | some (.o l) => p l
  | _ => False
theorem body_L {np n : Nat} {b : Ss} {f : LF} {m : f.Mono} (hl : ∀ l xs k, f l xs k → xs.length + 1 = np) (h : ∀ l xs (k : AV → List PyData → Prop), f l xs k → wSs X0 b (initE n (.o l :: xs.map AV.d)) { nx := fun env => endL env fun l' => k (.d .none) l', rt := fun r env => retK [0] r env fun r' => endL env fun l' => k r' l' }) : Body np n [0] b (spL f m) where
  len := fun as Q X ⟨l, xs, e, q⟩ => by rw [e, List.length_cons, List.length_map]; exact hl _ _ _ q
  lent := fun as Q X ⟨l, xs, e, q⟩ i ds z => by
    rw [e] at z
    cases i with
    | zero => exact List.mem_cons_self
    | succ i =>
      rw [List.getElem?_cons_succ, List.getElem?_map] at z
      cases hx : xs[i]? with
      | none => rw [hx] at z; cases z
      | some y => rw [hx] at z; cases z
  run := fun as Q ⟨l, xs, e, q⟩ => by
    subst e
    have fin : ∀ {env : AEnv} {p : List PyData → Prop}, endL env p → ∃ l', p l' ∧ finals (.o l :: xs.map AV.d) env 0 = .o l' :: xs.map AV.d := fun {env p} z => by
      unfold endL at z
      split at z
      · rename_i l' hg
        refine ⟨l', z, ?_⟩
        show (match getE env 0 with | some (.o ds') => AV.o ds' | _ => AV.o l) :: finals (xs.map AV.d) env 1 = _
        rw [hg, fin_d]
      · exact z.elim
    refine wSs_mono b ?_ (h l xs (fun r l' => Q r (.o l' :: xs.map AV.d)) q)
    refine ⟨fun env z => ?_, fun r env z => ?_, fun _ z => z, fun _ z => z⟩
    · obtain ⟨l', z, e⟩ := fin z
      show Q (.d .none) (finals (.o l :: xs.map AV.d) env 0)
      rw [e]; exact z
    · refine retK_mono (k := fun r' => endL env fun l' => Q r' (.o l' :: xs.map AV.d)) (k' := fun r' => Q r' (finals (.o l :: xs.map AV.d) env 0)) (fun r z => ?_) z
      obtain ⟨l', z, e⟩ := fin z
      show Q r (finals (.o l :: xs.map AV.d) env 0)
      rw [e]; exact z
/-! ### loops -/
/-- a walk by an invariant over what is left -/
theorem for_inv {body : AEnv → AEnds → Prop} {tg : Tg} {D : AEnds} (I : List PyData → AEnv → Prop) (m : ∀ env D D', AEnds.Le D D' → body env D → body env D') (h0 : ∀ env, I [] env → D.nx env)
    (hs : ∀ x xs env, I (x :: xs) env → tgK tg x env fun env1 => body env1 { D with nx := I xs, ct := I xs, bk := D.nx }) : ∀ {items : List PyData} {env : AEnv}, I items env → forW body tg D items env
  | [], env, h => h0 env h
  | x :: xs, env, h => by
    refine tgK_mono (fun env1 q => ?_) (hs x xs env h)
    refine m _ { D with nx := I xs, ct := I xs, bk := D.nx } _ ?_ q
    exact ⟨fun e z => for_inv I m h0 hs z, fun _ _ z => z, fun _ z => z, fun e z => for_inv I m h0 hs z⟩
theorem body_mono {b : Ss} (env : AEnv) (D D' : AEnds) (l : AEnds.Le D D') (h : wSs X0 b env D) : wSs X0 b env D' := wSs_mono b l h
end PF

set_option maxRecDepth 100000
namespace K26
open PySem PF
/-! ### turns: fractions of a whole, counted modulo one -/
def T (a b : Int) : Prop := 0 ≤ a ∧ a < b ∧ Int.gcd a b = 1
/-- two fractions differ by a whole number -/
def Cg (a b c d : Int) : Prop := ∃ k : Int, a * d - c * b = k * (b * d)
theorem Cg.refl (a b : Int) : Cg a b a b := ⟨0, by grind⟩
theorem Cg.symm {a b c d : Int} (h : Cg a b c d) : Cg c d a b := by
  obtain ⟨k, h⟩ := h
  exact ⟨-k, by grind⟩
theorem Cg.trans {a b c d e f : Int} (hd : d ≠ 0) (h1 : Cg a b c d) (h2 : Cg c d e f) : Cg a b e f := by
  obtain ⟨k, h1⟩ := h1
  obtain ⟨m, h2⟩ := h2
  refine ⟨k + m, ?_⟩
  have : d * (a * f - e * b) = d * ((k + m) * (b * f)) := by grind
  exact Int.eq_of_mul_eq_mul_left hd this
theorem Cg.add {a b c d e f g h : Int} (h1 : Cg a b c d) (h2 : Cg e f g h) : Cg (a * f + e * b) (b * f) (c * h + g * d) (d * h) := by
  obtain ⟨k, h1⟩ := h1
  obtain ⟨m, h2⟩ := h2
  exact ⟨k + m, by grind⟩
theorem Cg.neg {a b c d : Int} (h : Cg a b c d) : Cg (-a) b (-c) d := by
  obtain ⟨k, h⟩ := h
  exact ⟨-k, by grind⟩
theorem Cg.scale {a b c d : Int} (n : Int) (h : Cg a b c d) : Cg (n * a) b (n * c) d := by
  obtain ⟨k, h⟩ := h
  exact ⟨n * k, by grind⟩
theorem dvd_cop {a b d : Int} (h : Int.gcd b a = 1) (hd : b ∣ a * d) : b ∣ d := by
  refine Int.natAbs_dvd_natAbs.mp (Nat.Coprime.dvd_of_dvd_mul_left (k := b.natAbs) (m := a.natAbs) h ?_)
  have := Int.natAbs_dvd_natAbs.mpr hd
  rwa [Int.natAbs_mul] at this
theorem coprime_eq {a b c d : Int} (hb : 0 < b) (hd : 0 < d) (h1 : Int.gcd a b = 1) (h2 : Int.gcd c d = 1) (e : a * d = c * b) : b = d := by
  have bd : b ∣ d := by
    have : b ∣ a * d := ⟨c, by grind⟩
    exact dvd_cop (by rw [Int.gcd_comm]; exact h1) this
  have db : d ∣ b := by
    have : d ∣ c * b := ⟨a, by grind⟩
    exact dvd_cop (by rw [Int.gcd_comm]; exact h2) this
  exact Int.dvd_antisymm (by omega) (by omega) bd db
theorem T.uniq {a b c d : Int} (h1 : T a b) (h2 : T c d) (h : Cg a b c d) : a = c ∧ b = d := by
  obtain ⟨k, h⟩ := h
  obtain ⟨a0, ab, g1⟩ := h1
  obtain ⟨c0, cd, g2⟩ := h2
  have hb : 0 < b := by omega
  have hd : 0 < d := by omega
  have P := Int.mul_pos hb hd
  have u1 : a * d < b * d := Int.mul_lt_mul_of_pos_right ab hd
  have u2 : c * b < d * b := Int.mul_lt_mul_of_pos_right cd hb
  have l1 : 0 ≤ a * d := Int.mul_nonneg a0 (by omega)
  have l2 : 0 ≤ c * b := Int.mul_nonneg c0 (by omega)
  have k0 : k = 0 := by
    have e : d * b = b * d := Int.mul_comm _ _
    rcases Int.lt_trichotomy k 0 with z | z | z
    · have : k * (b * d) ≤ (-1) * (b * d) := Int.mul_le_mul_of_nonneg_right (by omega) (by omega)
      omega
    · exact z
    · have : 1 * (b * d) ≤ k * (b * d) := Int.mul_le_mul_of_nonneg_right (by omega) (by omega)
      omega
  subst k0
  have e : a * d = c * b := by omega
  have be := coprime_eq hb hd g1 g2 e
  subst be
  exact ⟨Int.eq_of_mul_eq_mul_right (by omega) e, rfl⟩
/-- shortest terms, then the part below one -/
def nrm (u v : Int) : Int × Int := ((u / Int.gcd u v) % (v / Int.gcd u v), v / Int.gcd u v)
theorem gcd_pos {u v : Int} (hv : 0 < v) : 0 < ((Int.gcd u v : Nat) : Int) := by
  have := Int.gcd_pos_of_ne_zero_right u (show v ≠ 0 by omega)
  omega
theorem frac_g {u v : Int} (hv : 0 < v) : ∃ g a b : Int, 0 < g ∧ g = Int.gcd u v ∧ u = a * g ∧ v = b * g ∧ u / Int.gcd u v = a ∧ v / Int.gcd u v = b ∧ 0 < b ∧ Int.gcd a b = 1 := by
  have gp := gcd_pos (u := u) hv
  obtain ⟨a, ha⟩ := Int.gcd_dvd_left u v
  obtain ⟨b, hb⟩ := Int.gcd_dvd_right u v
  have ea : u / Int.gcd u v = a := by
    conv => lhs; rw [ha]
    rw [← ha]
    exact Int.ediv_eq_of_eq_mul_right (by omega) ha
  have eb : v / Int.gcd u v = b := Int.ediv_eq_of_eq_mul_right (by omega) hb
  refine ⟨_, a, b, gp, rfl, by rw [Int.mul_comm]; exact ha, by rw [Int.mul_comm]; exact hb, ea, eb, ?_, ?_⟩
  · rcases Int.lt_trichotomy b 0 with z | z | z
    · have := Int.mul_neg_of_pos_of_neg gp z
      omega
    · subst z; simp at hb; omega
    · exact z
  · have := Int.gcd_ediv_gcd_ediv_gcd (i := u) (j := v) (by omega)
    rw [ea, eb] at this
    exact this
theorem nrm_T {u v : Int} (hv : 0 < v) : T (nrm u v).1 (nrm u v).2 := by
  obtain ⟨g, a, b, gp, _, ha, hb, ea, eb, bp, co⟩ := frac_g (u := u) hv
  unfold nrm
  rw [ea, eb]
  refine ⟨Int.emod_nonneg _ (by omega), Int.emod_lt_of_pos _ bp, ?_⟩
  show Int.gcd (a % b) b = 1
  have e : a % b = a - (a / b) * b := by
    have := Int.emod_add_mul_ediv a b
    have := Int.mul_comm b (a / b)
    omega
  rw [e, Int.gcd_comm, Int.gcd_sub_mul_right_right, Int.gcd_comm]
  exact co
theorem nrm_Cg {u v : Int} (hv : 0 < v) : Cg (nrm u v).1 (nrm u v).2 u v := by
  obtain ⟨g, a, b, gp, _, ha, hb, ea, eb, bp, co⟩ := frac_g (u := u) hv
  unfold nrm
  rw [ea, eb]
  show Cg (a % b) b u v
  refine ⟨-(a / b), ?_⟩
  have := Int.emod_add_mul_ediv a b
  subst ha hb
  have e : a % b = a - b * (a / b) := by omega
  rw [e]
  grind
theorem nrm_le {u v : Int} (hv : 0 < v) : (nrm u v).2 ≤ v := by
  obtain ⟨g, a, b, gp, _, ha, hb, ea, eb, bp, co⟩ := frac_g (u := u) hv
  unfold nrm
  rw [eb]
  show b ≤ v
  rw [hb]
  have : b * 1 ≤ b * g := Int.mul_le_mul_of_nonneg_left (by omega) (by omega)
  omega
theorem nrm_eq {u v a b : Int} (hv : 0 < v) (t : T a b) (h : Cg a b u v) : nrm u v = (a, b) := by
  have := T.uniq (nrm_T hv) t ((nrm_Cg hv).trans (by omega) h.symm)
  exact Prod.ext this.1 this.2
end K26

set_option maxRecDepth 100000
set_option maxHeartbeats 1000000
namespace K26
open PySem PF
def gv_PARTS : PyData := (.int (30))
def gv_PRIMES : PyData := (.tuple [(.int (2)), (.int (3)), (.int (5))])
theorem atI_lt {α : Type} {xs : List α} {i : Int} (h0 : 0 ≤ i) (h1 : i < xs.length) : L2.atI xs i = xs[i.toNat]? := by
  unfold L2.atI L2.ixN
  rw [if_pos h0, if_pos h1]
  rfl
theorem atI_0 {α : Type} {x : α} {xs : List α} : L2.atI (x :: xs) 0 = some x := by
  rw [atI_lt (by decide) (by simp only [List.length_cons]; omega)]
  rfl
theorem atI_1 {α : Type} {x y : α} {xs : List α} : L2.atI (x :: y :: xs) 1 = some y := by
  rw [atI_lt (by decide) (by simp only [List.length_cons]; omega)]
  rfl
theorem atI_2 {α : Type} {x y z : α} {xs : List α} : L2.atI (x :: y :: z :: xs) 2 = some z := by
  rw [atI_lt (by decide) (by simp only [List.length_cons]; omega)]
  rfl
theorem set_0 {α : Type} {x w : α} {xs : List α} : List.set (x :: xs) (Int.toNat 0) w = w :: xs := rfl
theorem set_2 {α : Type} {x y z w : α} {xs : List α} : List.set (x :: y :: z :: xs) (Int.toNat 2) w = x :: y :: w :: xs := rfl
theorem call_W0 {f : WF} {m : f.Mono} {env : AEnv} {Q : AV → AEnv → Prop} {X : XQ} : callK (spW f m) [] env Q X ↔ f [] fun r => Q r env := call_W rfl
theorem call_W1 {f : WF} {m : f.Mono} {a : PyData} {env : AEnv} {Q : AV → AEnv → Prop} {X : XQ} : callK (spW f m) [.d a] env Q X ↔ f [a] fun r => Q r env := call_W rfl
theorem call_W2 {f : WF} {m : f.Mono} {a b : PyData} {env : AEnv} {Q : AV → AEnv → Prop} {X : XQ} : callK (spW f m) [.d a, .d b] env Q X ↔ f [a, b] fun r => Q r env := call_W rfl
theorem call_W3 {f : WF} {m : f.Mono} {a b c : PyData} {env : AEnv} {Q : AV → AEnv → Prop} {X : XQ} : callK (spW f m) [.d a, .d b, .d c] env Q X ↔ f [a, b, c] fun r => Q r env := call_W rfl
theorem callNone : True := trivial
theorem call_L0 {f : LF} {m : f.Mono} {l : List PyData} {env : AEnv} {Q : AV → AEnv → Prop} {X : XQ} : callK (spL f m) [.b 0] (some (.o l) :: env) Q X ↔ f l [] fun r l' => Q r (some (.o l') :: env) := call_L (vs := []) (xs := []) (env := some (.o l) :: env) rfl rfl
theorem call_L1 {f : LF} {m : f.Mono} {l : List PyData} {a : PyData} {env : AEnv} {Q : AV → AEnv → Prop} {X : XQ} : callK (spL f m) [.b 0, .d a] (some (.o l) :: env) Q X ↔ f l [a] fun r l' => Q r (some (.o l') :: env) := call_L (vs := [.d a]) (xs := [a]) (env := some (.o l) :: env) rfl rfl
theorem call_L2 {f : LF} {m : f.Mono} {l : List PyData} {a b : PyData} {env : AEnv} {Q : AV → AEnv → Prop} {X : XQ} : callK (spL f m) [.b 0, .d a, .d b] (some (.o l) :: env) Q X ↔ f l [a, b] fun r l' => Q r (some (.o l') :: env) := call_L (vs := [.d a, .d b]) (xs := [a, b]) (env := some (.o l) :: env) rfl rfl
/-! ### sizes -/
def sz (n : Nat) (x : Int) : Prop := x.natAbs < 2 ^ n
theorem sz.mono {n m : Nat} {x : Int} (h : sz n x) (l : n ≤ m) : sz m x := Nat.lt_of_lt_of_le h (Nat.pow_le_pow_right (by decide) l)
theorem sz.mul {n m : Nat} {x y : Int} (h : sz n x) (g : sz m y) : sz (n + m) (x * y) := by
  unfold sz at *
  rw [Int.natAbs_mul, Nat.pow_add]
  exact Nat.mul_lt_mul'' h g
theorem sz.add {n : Nat} {x y : Int} (h : sz n x) (g : sz n y) : sz (n + 1) (x + y) := by
  unfold sz at *
  rw [Nat.pow_succ]
  have := Int.natAbs_add_le x y
  omega
theorem sz.neg {n : Nat} {x : Int} (h : sz n x) : sz n (-x) := by
  unfold sz at *
  rw [Int.natAbs_neg]
  exact h
theorem sz.sub {n : Nat} {x y : Int} (h : sz n x) (g : sz n y) : sz (n + 1) (x - y) := by
  rw [Int.sub_eq_add_neg]
  exact h.add g.neg
theorem sz.le {n : Nat} {x y : Int} (h : sz n y) (h0 : 0 ≤ x) (l : x ≤ y) : sz n x := by
  unfold sz at *
  omega
theorem sz.log {n : Nat} {x : Int} (h : sz n x) : x.natAbs.log2 ≤ n := by
  by_cases z : x.natAbs = 0
  · rw [z]; exact Nat.zero_le _
  · exact Nat.le_of_lt ((Nat.log2_lt z).mpr h)
theorem sz.mulOk {n m : Nat} {x y : Int} (h : sz n x) (g : sz m y) (l : n + m < 1000000) : mulOk x y := by
  unfold PF.mulOk
  have := h.log
  have := g.log
  omega
theorem sz.divOk {n : Nat} {x : Int} (h : sz n x) (l : n < 9000) (p : x ≠ 0) : divOk x := ⟨p, by have := h.log; omega⟩
theorem fdiv_p {a b : Int} (h : 0 < b) : a.fdiv b = a / b := by rw [Int.fdiv_eq_ediv_of_nonneg _ (by omega)]
theorem fmod_p {a b : Int} (h : 0 < b) : a.fmod b = a % b := by rw [Int.fmod_eq_emod_of_nonneg _ (by omega)]
/-! ### common_divisor -/
def w_common_divisor : WF
  | [.int a, .int b], k => k (.d (.int (Int.gcd a b)))
  | _, _ => False
theorem m_common_divisor : w_common_divisor.Mono := by
  intro xs k k' h q
  unfold w_common_divisor at q ⊢
  split <;> simp_all
def sp_common_divisor : ASp := spW w_common_divisor m_common_divisor
def lc_common_divisor_1 : E := (.cmp .ne (.var 1) (.int 0))
def lb_common_divisor_2 : Ss := (.cons (.par [0, 1] (.cons (.var 1) (.cons (.bin .mod (.var 0) (.var 1)) .nil)))
  .nil)
def b_common_divisor : Ss := (.cons (.par [0, 1] (.cons (.bi .abs (.cons (.var 0) .nil)) (.cons (.bi .abs (.cons (.var 1) .nil)) .nil)))
  (.cons (.whl lc_common_divisor_1 lb_common_divisor_2)
  (.cons (.ret (.var 0))
  .nil)))
theorem gcd_step {x y : Int} : Int.gcd y (x % y) = Int.gcd x y := by
  have e : x % y = x - (x / y) * y := by
    have := Int.emod_add_mul_ediv x y
    have := Int.mul_comm y (x / y)
    omega
  rw [e, Int.gcd_sub_mul_right_right, Int.gcd_comm]
theorem p_common_divisor : Body 2 2 [] b_common_divisor sp_common_divisor := by
  refine body_W (fun xs k h => ?_) fun xs k h => ?_
  · unfold w_common_divisor at h; split at h <;> simp_all
  unfold w_common_divisor at h
  split at h
  case h_2 => exact h.elim
  rename_i a b
  unfold b_common_divisor
  simp only [wSs, wS, wEs, wE, wIt, getE, setE, rdsK, rdK, biK, datasK, dataK, setMany, cmpK, binK, truthK, truth, ixK, initE, tgK, seqK, lstK, retK, isTy, tyOf, endL, List.map_cons, List.map_nil, List.length_cons, List.length_nil, List.cons_append, List.nil_append, List.replicate, List.replicate_zero, List.append_nil, Nat.reduceSub, Nat.reduceAdd, atI_0, atI_1, atI_2, set_0, set_2, call_W2, call_W1, call_W0, call_W3, call_L0, call_L1, call_L2, callNone, Option.some.injEq]
  refine ⟨trivial, ?_⟩
  refine ⟨fun m env => ∃ x y : Int, env = [some (.d (.int x)), some (.d (.int y))] ∧ 0 ≤ x ∧ 0 ≤ y ∧ m = y.toNat ∧ Int.gcd x y = Int.gcd a b, ⟨_, _, _, rfl, ?_, ?_, rfl, ?_⟩, ?_⟩
  · split <;> omega
  · split <;> omega
  · split <;> split <;> simp [Int.gcd]
  · rintro m env ⟨x, y, rfl, hx, hy, rfl, hg⟩
    simp only [wSs, wS, wEs, wE, wIt, getE, setE, rdsK, rdK, biK, datasK, dataK, setMany, cmpK, binK, truthK, truth, ixK, initE, tgK, seqK, lstK, retK, isTy, tyOf, endL, List.map_cons, List.map_nil, List.length_cons, List.length_nil, List.cons_append, List.nil_append, List.replicate, List.replicate_zero, List.append_nil, Nat.reduceSub, Nat.reduceAdd, atI_0, atI_1, atI_2, set_0, set_2, call_W2, call_W1, call_W0, call_W3, call_L0, call_L1, call_L2, callNone, Option.some.injEq, lc_common_divisor_1, lb_common_divisor_2]
    refine ⟨rfl, rfl, ?_⟩
    by_cases h0 : y = 0
    · subst h0
      simp only [PyData.eqv]
      simp only [Int.gcd_zero_right] at hg
      have e : x = ((Int.gcd a b : Nat) : Int) := by omega
      rw [e]
      exact h
    · rw [if_pos (by simp [PyData.eqv, h0])]
      have yp : 0 < y := by omega
      have e1 := Int.emod_nonneg x h0
      have e2 := Int.emod_lt_of_pos x yp
      refine ⟨_, fun env' q => q, h0, trivial, _, ?_, _, _, rfl, hy, ?_, rfl, ?_⟩
      · rw [fmod_p yp]; omega
      · rw [fmod_p yp]; exact e1
      · rw [← hg, fmod_p yp]; exact gcd_step
/-! ### fractions -/
def tn (a b : Int) : PyData := .tuple [.int a, .int b]
def frac (u v : Int) : PyData := tn (u / Int.gcd u v) (v / Int.gcd u v)
def nrmD (u v : Int) : PyData := tn (nrm u v).1 (nrm u v).2
def w_fraction_of : WF
  | [.int u, .int v], k => (0 < v ∧ sz 8000 v) ∧ k (.d (frac u v))
  | _, _ => False
theorem m_fraction_of : w_fraction_of.Mono := by
  intro xs k k' h q
  unfold w_fraction_of at q ⊢
  split <;> simp_all
def sp_fraction_of : ASp := spW w_fraction_of m_fraction_of
def b_fraction_of : Ss := (.cons (.asgF 2 (.call "common_divisor" sp_common_divisor (.cons (.var 0) (.cons (.var 1) .nil))))
  (.cons (.ite (.cmp .lt (.var 1) (.int 0)) (.cons (.asgF 2 (.neg (.var 2)))
  .nil) .nil)
  (.cons (.ret (.tup (.cons (.bin .fdiv (.var 0) (.var 2)) (.cons (.bin .fdiv (.var 1) (.var 2)) .nil))))
  .nil)))
theorem gcd_le {u v : Int} (hv : 0 < v) : ((Int.gcd u v : Nat) : Int) ≤ v := by
  have := Int.gcd_dvd_right u v
  exact Int.le_of_dvd hv this
theorem p_fraction_of : Body 2 3 [] b_fraction_of sp_fraction_of := by
  refine body_W (fun xs k h => ?_) fun xs k h => ?_
  · unfold w_fraction_of at h; split at h <;> simp_all
  unfold w_fraction_of at h
  split at h
  case h_2 => exact h.elim
  rename_i u v
  obtain ⟨⟨hv, hs⟩, h⟩ := h
  have gp := gcd_pos (u := u) hv
  have ok : divOk ((Int.gcd u v : Nat) : Int) := (hs.le (by omega) (gcd_le hv)).divOk (by decide) (by omega)
  unfold b_fraction_of
  simp only [wSs, wS, wEs, wE, wIt, getE, setE, rdsK, rdK, biK, datasK, dataK, setMany, cmpK, binK, truthK, truth, ixK, initE, tgK, seqK, lstK, retK, isTy, tyOf, endL, List.map_cons, List.map_nil, List.length_cons, List.length_nil, List.cons_append, List.nil_append, List.replicate, List.replicate_zero, List.append_nil, Nat.reduceSub, Nat.reduceAdd, atI_0, atI_1, atI_2, set_0, set_2, call_W2, call_W1, call_W0, call_W3, call_L0, call_L1, call_L2, callNone, Option.some.injEq, sp_common_divisor, w_common_divisor, decide_eq_true_eq]
  rw [if_neg (by omega)]
  refine ⟨ok, ok, ?_⟩
  rw [fdiv_p gp, fdiv_p gp]
  exact h
end K26

set_option maxRecDepth 100000
set_option maxHeartbeats 1000000
namespace K26
open PySem PF
def A2 (a b : Int) : Prop := 0 < b ∧ sz 2000 a ∧ sz 2000 b
def w_fraction_sum : WF
  | [.tuple [.int a, .int b], .tuple [.int c, .int d]], k => (A2 a b ∧ A2 c d) ∧ k (.d (frac (a * d + c * b) (b * d)))
  | _, _ => False
theorem m_fraction_sum : w_fraction_sum.Mono := by
  intro xs k k' h q
  unfold w_fraction_sum at q ⊢
  split <;> simp_all
def sp_fraction_sum : ASp := spW w_fraction_sum m_fraction_sum
def b_fraction_sum : Ss := (.cons (.ret (.call "fraction_of" sp_fraction_of (.cons (.bin .add (.bin .mul (.ix (.var 0) (.int 0)) (.ix (.var 1) (.int 1))) (.bin .mul (.ix (.var 1) (.int 0)) (.ix (.var 0) (.int 1)))) (.cons (.bin .mul (.ix (.var 0) (.int 1)) (.ix (.var 1) (.int 1))) .nil))))
  .nil)
theorem A2.ok {a b c d : Int} (h : A2 a b) (g : A2 c d) : mulOk a d ∧ mulOk c b ∧ mulOk b d ∧ 0 < b * d ∧ sz 8000 (b * d) :=
  ⟨h.2.1.mulOk g.2.2 (by decide), g.2.1.mulOk h.2.2 (by decide), h.2.2.mulOk g.2.2 (by decide), Int.mul_pos h.1 g.1, (h.2.2.mul g.2.2).mono (by decide)⟩
theorem p_fraction_sum : Body 2 2 [] b_fraction_sum sp_fraction_sum := by
  refine body_W (fun xs k h => ?_) fun xs k h => ?_
  · unfold w_fraction_sum at h; split at h <;> simp_all
  unfold w_fraction_sum at h
  split at h
  case h_2 => exact h.elim
  rename_i a b c d
  obtain ⟨⟨h1, h2⟩, h⟩ := h
  obtain ⟨o1, o2, o3, o4, o5⟩ := h1.ok h2
  unfold b_fraction_sum
  simp only [wSs, wS, wEs, wE, wIt, getE, setE, rdsK, rdK, biK, datasK, dataK, setMany, cmpK, binK, truthK, truth, ixK, initE, tgK, seqK, lstK, retK, isTy, tyOf, endL, List.map_cons, List.map_nil, List.length_cons, List.length_nil, List.cons_append, List.nil_append, List.replicate, List.replicate_zero, List.append_nil, Nat.reduceSub, Nat.reduceAdd, atI_0, atI_1, atI_2, set_0, set_2, call_W2, call_W1, call_W0, call_W3, call_L0, call_L1, call_L2, callNone, Option.some.injEq, sp_fraction_of, w_fraction_of]
  exact ⟨o1, o2, o3, ⟨o4, o5⟩, h⟩
def w_fraction_difference : WF
  | [.tuple [.int a, .int b], .tuple [.int c, .int d]], k => (A2 a b ∧ A2 c d) ∧ k (.d (frac (a * d - c * b) (b * d)))
  | _, _ => False
theorem m_fraction_difference : w_fraction_difference.Mono := by
  intro xs k k' h q
  unfold w_fraction_difference at q ⊢
  split <;> simp_all
def sp_fraction_difference : ASp := spW w_fraction_difference m_fraction_difference
def b_fraction_difference : Ss := (.cons (.ret (.call "fraction_of" sp_fraction_of (.cons (.bin .sub (.bin .mul (.ix (.var 0) (.int 0)) (.ix (.var 1) (.int 1))) (.bin .mul (.ix (.var 1) (.int 0)) (.ix (.var 0) (.int 1)))) (.cons (.bin .mul (.ix (.var 0) (.int 1)) (.ix (.var 1) (.int 1))) .nil))))
  .nil)
theorem p_fraction_difference : Body 2 2 [] b_fraction_difference sp_fraction_difference := by
  refine body_W (fun xs k h => ?_) fun xs k h => ?_
  · unfold w_fraction_difference at h; split at h <;> simp_all
  unfold w_fraction_difference at h
  split at h
  case h_2 => exact h.elim
  rename_i a b c d
  obtain ⟨⟨h1, h2⟩, h⟩ := h
  obtain ⟨o1, o2, o3, o4, o5⟩ := h1.ok h2
  unfold b_fraction_difference
  simp only [wSs, wS, wEs, wE, wIt, getE, setE, rdsK, rdK, biK, datasK, dataK, setMany, cmpK, binK, truthK, truth, ixK, initE, tgK, seqK, lstK, retK, isTy, tyOf, endL, List.map_cons, List.map_nil, List.length_cons, List.length_nil, List.cons_append, List.nil_append, List.replicate, List.replicate_zero, List.append_nil, Nat.reduceSub, Nat.reduceAdd, atI_0, atI_1, atI_2, set_0, set_2, call_W2, call_W1, call_W0, call_W3, call_L0, call_L1, call_L2, callNone, Option.some.injEq, sp_fraction_of, w_fraction_of]
  exact ⟨o1, o2, o3, ⟨o4, o5⟩, h⟩
def w_fraction_product : WF
  | [.tuple [.int a, .int b], .int n], k => (A2 a b ∧ sz 2000 n) ∧ k (.d (frac (a * n) b))
  | _, _ => False
theorem m_fraction_product : w_fraction_product.Mono := by
  intro xs k k' h q
  unfold w_fraction_product at q ⊢
  split <;> simp_all
def sp_fraction_product : ASp := spW w_fraction_product m_fraction_product
def b_fraction_product : Ss := (.cons (.ret (.call "fraction_of" sp_fraction_of (.cons (.bin .mul (.ix (.var 0) (.int 0)) (.var 1)) (.cons (.ix (.var 0) (.int 1)) .nil))))
  .nil)
theorem p_fraction_product : Body 2 2 [] b_fraction_product sp_fraction_product := by
  refine body_W (fun xs k h => ?_) fun xs k h => ?_
  · unfold w_fraction_product at h; split at h <;> simp_all
  unfold w_fraction_product at h
  split at h
  case h_2 => exact h.elim
  rename_i a b n
  obtain ⟨⟨h1, h2⟩, h⟩ := h
  unfold b_fraction_product
  simp only [wSs, wS, wEs, wE, wIt, getE, setE, rdsK, rdK, biK, datasK, dataK, setMany, cmpK, binK, truthK, truth, ixK, initE, tgK, seqK, lstK, retK, isTy, tyOf, endL, List.map_cons, List.map_nil, List.length_cons, List.length_nil, List.cons_append, List.nil_append, List.replicate, List.replicate_zero, List.append_nil, Nat.reduceSub, Nat.reduceAdd, atI_0, atI_1, atI_2, set_0, set_2, call_W2, call_W1, call_W0, call_W3, call_L0, call_L1, call_L2, callNone, Option.some.injEq, sp_fraction_of, w_fraction_of]
  exact ⟨h1.2.1.mulOk h2 (by decide), ⟨h1.1, h1.2.2.mono (by decide)⟩, h⟩
def w_turn_left : WF
  | [.tuple [.int a, .int b]], k => 0 < b ∧ k (.d (tn (a % b) b))
  | _, _ => False
theorem m_turn_left : w_turn_left.Mono := by
  intro xs k k' h q
  unfold w_turn_left at q ⊢
  split <;> simp_all
def sp_turn_left : ASp := spW w_turn_left m_turn_left
def b_turn_left : Ss := (.cons (.ret (.tup (.cons (.bin .mod (.ix (.var 0) (.int 0)) (.ix (.var 0) (.int 1))) (.cons (.ix (.var 0) (.int 1)) .nil))))
  .nil)
theorem p_turn_left : Body 1 1 [] b_turn_left sp_turn_left := by
  refine body_W (fun xs k h => ?_) fun xs k h => ?_
  · unfold w_turn_left at h; split at h <;> simp_all
  unfold w_turn_left at h
  split at h
  case h_2 => exact h.elim
  rename_i a b
  obtain ⟨h1, h⟩ := h
  unfold b_turn_left
  simp only [wSs, wS, wEs, wE, wIt, getE, setE, rdsK, rdK, biK, datasK, dataK, setMany, cmpK, binK, truthK, truth, ixK, initE, tgK, seqK, lstK, retK, isTy, tyOf, endL, List.map_cons, List.map_nil, List.length_cons, List.length_nil, List.cons_append, List.nil_append, List.replicate, List.replicate_zero, List.append_nil, Nat.reduceSub, Nat.reduceAdd, atI_0, atI_1, atI_2, set_0, set_2, call_W2, call_W1, call_W0, call_W3, call_L0, call_L1, call_L2, callNone, Option.some.injEq]
  refine ⟨by omega, ?_⟩
  rw [fmod_p h1]
  exact h
theorem quo_pos {u v : Int} (hv : 0 < v) : 0 < v / Int.gcd u v := by
  obtain ⟨g, a, b, gp, _, ha, hb, ea, eb, bp, co⟩ := frac_g (u := u) hv
  rw [eb]; exact bp
def w_turn_sum : WF
  | [.tuple [.int a, .int b], .tuple [.int c, .int d]], k => (A2 a b ∧ A2 c d) ∧ k (.d (nrmD (a * d + c * b) (b * d)))
  | _, _ => False
theorem m_turn_sum : w_turn_sum.Mono := by
  intro xs k k' h q
  unfold w_turn_sum at q ⊢
  split <;> simp_all
def sp_turn_sum : ASp := spW w_turn_sum m_turn_sum
def b_turn_sum : Ss := (.cons (.ret (.call "turn_left" sp_turn_left (.cons (.call "fraction_sum" sp_fraction_sum (.cons (.var 0) (.cons (.var 1) .nil))) .nil)))
  .nil)
theorem p_turn_sum : Body 2 2 [] b_turn_sum sp_turn_sum := by
  refine body_W (fun xs k h => ?_) fun xs k h => ?_
  · unfold w_turn_sum at h; split at h <;> simp_all
  unfold w_turn_sum at h
  split at h
  case h_2 => exact h.elim
  rename_i a b c d
  obtain ⟨⟨h1, h2⟩, h⟩ := h
  unfold b_turn_sum
  simp only [wSs, wS, wEs, wE, wIt, getE, setE, rdsK, rdK, biK, datasK, dataK, setMany, cmpK, binK, truthK, truth, ixK, initE, tgK, seqK, lstK, retK, isTy, tyOf, endL, List.map_cons, List.map_nil, List.length_cons, List.length_nil, List.cons_append, List.nil_append, List.replicate, List.replicate_zero, List.append_nil, Nat.reduceSub, Nat.reduceAdd, atI_0, atI_1, atI_2, set_0, set_2, call_W2, call_W1, call_W0, call_W3, call_L0, call_L1, call_L2, callNone, Option.some.injEq, sp_fraction_sum, w_fraction_sum, sp_turn_left, w_turn_left, frac, tn]
  exact ⟨⟨h1, h2⟩, quo_pos (h1.ok h2).2.2.2.1, h⟩
def w_turn_difference : WF
  | [.tuple [.int a, .int b], .tuple [.int c, .int d]], k => (A2 a b ∧ A2 c d) ∧ k (.d (nrmD (a * d - c * b) (b * d)))
  | _, _ => False
theorem m_turn_difference : w_turn_difference.Mono := by
  intro xs k k' h q
  unfold w_turn_difference at q ⊢
  split <;> simp_all
def sp_turn_difference : ASp := spW w_turn_difference m_turn_difference
def b_turn_difference : Ss := (.cons (.ret (.call "turn_left" sp_turn_left (.cons (.call "fraction_difference" sp_fraction_difference (.cons (.var 0) (.cons (.var 1) .nil))) .nil)))
  .nil)
theorem p_turn_difference : Body 2 2 [] b_turn_difference sp_turn_difference := by
  refine body_W (fun xs k h => ?_) fun xs k h => ?_
  · unfold w_turn_difference at h; split at h <;> simp_all
  unfold w_turn_difference at h
  split at h
  case h_2 => exact h.elim
  rename_i a b c d
  obtain ⟨⟨h1, h2⟩, h⟩ := h
  unfold b_turn_difference
  simp only [wSs, wS, wEs, wE, wIt, getE, setE, rdsK, rdK, biK, datasK, dataK, setMany, cmpK, binK, truthK, truth, ixK, initE, tgK, seqK, lstK, retK, isTy, tyOf, endL, List.map_cons, List.map_nil, List.length_cons, List.length_nil, List.cons_append, List.nil_append, List.replicate, List.replicate_zero, List.append_nil, Nat.reduceSub, Nat.reduceAdd, atI_0, atI_1, atI_2, set_0, set_2, call_W2, call_W1, call_W0, call_W3, call_L0, call_L1, call_L2, callNone, Option.some.injEq, sp_fraction_difference, w_fraction_difference, sp_turn_left, w_turn_left, frac, tn]
  exact ⟨⟨h1, h2⟩, quo_pos (h1.ok h2).2.2.2.1, h⟩
def w_turn_product : WF
  | [.tuple [.int a, .int b], .int n], k => (A2 a b ∧ sz 2000 n) ∧ k (.d (nrmD (a * n) b))
  | _, _ => False
theorem m_turn_product : w_turn_product.Mono := by
  intro xs k k' h q
  unfold w_turn_product at q ⊢
  split <;> simp_all
def sp_turn_product : ASp := spW w_turn_product m_turn_product
def b_turn_product : Ss := (.cons (.ret (.call "turn_left" sp_turn_left (.cons (.call "fraction_product" sp_fraction_product (.cons (.var 0) (.cons (.var 1) .nil))) .nil)))
  .nil)
theorem p_turn_product : Body 2 2 [] b_turn_product sp_turn_product := by
  refine body_W (fun xs k h => ?_) fun xs k h => ?_
  · unfold w_turn_product at h; split at h <;> simp_all
  unfold w_turn_product at h
  split at h
  case h_2 => exact h.elim
  rename_i a b n
  obtain ⟨⟨h1, h2⟩, h⟩ := h
  unfold b_turn_product
  simp only [wSs, wS, wEs, wE, wIt, getE, setE, rdsK, rdK, biK, datasK, dataK, setMany, cmpK, binK, truthK, truth, ixK, initE, tgK, seqK, lstK, retK, isTy, tyOf, endL, List.map_cons, List.map_nil, List.length_cons, List.length_nil, List.cons_append, List.nil_append, List.replicate, List.replicate_zero, List.append_nil, Nat.reduceSub, Nat.reduceAdd, atI_0, atI_1, atI_2, set_0, set_2, call_W2, call_W1, call_W0, call_W3, call_L0, call_L1, call_L2, callNone, Option.some.injEq, sp_fraction_product, w_fraction_product, sp_turn_left, w_turn_left, frac, tn]
  exact ⟨⟨h1, h2⟩, quo_pos h1.1, h⟩
/-! ### forms -/
theorem shp_int {i : Int} : SeqAt.shaped (.int i) = true := rfl
def w_is_integer : WF
  | [.int _], k => k (.d (.bool true))
  | _, _ => False
theorem m_is_integer : w_is_integer.Mono := by
  intro xs k k' h q
  unfold w_is_integer at q ⊢
  split <;> simp_all
def sp_is_integer : ASp := spW w_is_integer m_is_integer
def b_is_integer : Ss := (.cons (.ret (.and (.inst (.var 0) [.int]) (.not (.inst (.var 0) [.bool]))))
  .nil)
theorem p_is_integer : Body 1 1 [] b_is_integer sp_is_integer := by
  refine body_W (fun xs k h => ?_) fun xs k h => ?_
  · unfold w_is_integer at h; split at h <;> simp_all
  unfold w_is_integer at h
  split at h
  case h_2 => exact h.elim
  unfold b_is_integer
  simp only [wSs, wS, wEs, wE, wIt, getE, setE, rdsK, rdK, biK, datasK, dataK, setMany, cmpK, binK, truthK, truth, ixK, initE, tgK, seqK, lstK, retK, isTy, tyOf, endL, List.map_cons, List.map_nil, List.length_cons, List.length_nil, List.cons_append, List.nil_append, List.replicate, List.replicate_zero, List.append_nil, Nat.reduceSub, Nat.reduceAdd, atI_0, atI_1, atI_2, set_0, set_2, call_W2, call_W1, call_W0, call_W3, call_L0, call_L1, call_L2, callNone, Option.some.injEq]
  simpa using h
def w_is_from : WF
  | [.int a, .int x], k => k (.d (.bool (decide (a ≤ x))))
  | _, _ => False
theorem m_is_from : w_is_from.Mono := by
  intro xs k k' h q
  unfold w_is_from at q ⊢
  split <;> simp_all
def sp_is_from : ASp := spW w_is_from m_is_from
def b_is_from : Ss := (.cons (.ret (.and (.call "is_integer" sp_is_integer (.cons (.var 1) .nil)) (.cmp .ge (.var 1) (.var 0))))
  .nil)
theorem p_is_from : Body 2 2 [] b_is_from sp_is_from := by
  refine body_W (fun xs k h => ?_) fun xs k h => ?_
  · unfold w_is_from at h; split at h <;> simp_all
  unfold w_is_from at h
  split at h
  case h_2 => exact h.elim
  unfold b_is_from
  simp only [wSs, wS, wEs, wE, wIt, getE, setE, rdsK, rdK, biK, datasK, dataK, setMany, cmpK, binK, truthK, truth, ixK, initE, tgK, seqK, lstK, retK, isTy, tyOf, endL, List.map_cons, List.map_nil, List.length_cons, List.length_nil, List.cons_append, List.nil_append, List.replicate, List.replicate_zero, List.append_nil, Nat.reduceSub, Nat.reduceAdd, atI_0, atI_1, atI_2, set_0, set_2, call_W2, call_W1, call_W0, call_W3, call_L0, call_L1, call_L2, callNone, Option.some.injEq, sp_is_integer, w_is_integer, if_true]
  exact h
def w_is_fraction : WF
  | [.tuple [.int a, .int b]], k => (1 ≤ b ∧ Int.gcd a b = 1) ∧ k (.d (.bool true))
  | _, _ => False
theorem m_is_fraction : w_is_fraction.Mono := by
  intro xs k k' h q
  unfold w_is_fraction at q ⊢
  split <;> simp_all
def sp_is_fraction : ASp := spW w_is_fraction m_is_fraction
def b_is_fraction : Ss := (.cons (.ite (.or (.not (.inst (.var 0) [.tuple])) (.or (.cmp .ne (.bi .len (.cons (.var 0) .nil)) (.int 2)) (.or (.not (.call "is_integer" sp_is_integer (.cons (.ix (.var 0) (.int 0)) .nil))) (.not (.call "is_from" sp_is_from (.cons (.int 1) (.cons (.ix (.var 0) (.int 1)) .nil))))))) (.cons (.ret (.bool false))
  .nil) .nil)
  (.cons (.ret (.cmp .eq (.call "common_divisor" sp_common_divisor (.cons (.ix (.var 0) (.int 0)) (.cons (.ix (.var 0) (.int 1)) .nil))) (.int 1)))
  .nil))
theorem p_is_fraction : Body 1 1 [] b_is_fraction sp_is_fraction := by
  refine body_W (fun xs k h => ?_) fun xs k h => ?_
  · unfold w_is_fraction at h; split at h <;> simp_all
  unfold w_is_fraction at h
  split at h
  case h_2 => exact h.elim
  rename_i a b
  obtain ⟨⟨h1, h2⟩, h⟩ := h
  unfold b_is_fraction
  simp only [wSs, wS, wEs, wE, wIt, getE, setE, rdsK, rdK, biK, datasK, dataK, setMany, cmpK, binK, truthK, truth, ixK, initE, tgK, seqK, lstK, retK, isTy, tyOf, endL, List.map_cons, List.map_nil, List.length_cons, List.length_nil, List.cons_append, List.nil_append, List.replicate, List.replicate_zero, List.append_nil, Nat.reduceSub, Nat.reduceAdd, atI_0, atI_1, atI_2, set_0, set_2, call_W2, call_W1, call_W0, call_W3, call_L0, call_L1, call_L2, callNone, Option.some.injEq, sp_is_integer, w_is_integer, sp_is_from, w_is_from, sp_common_divisor, w_common_divisor, h2]
  simp [PyData.eqv, shp_int, h1]
  exact h
def w_is_turn : WF
  | [.tuple [.int a, .int b]], k => T a b ∧ k (.d (.bool true))
  | _, _ => False
theorem m_is_turn : w_is_turn.Mono := by
  intro xs k k' h q
  unfold w_is_turn at q ⊢
  split <;> simp_all
def sp_is_turn : ASp := spW w_is_turn m_is_turn
def b_is_turn : Ss := (.cons (.ret (.and (.call "is_fraction" sp_is_fraction (.cons (.var 0) .nil)) (.chain .le .lt (.int 0) (.ix (.var 0) (.int 0)) (.ix (.var 0) (.int 1)))))
  .nil)
theorem p_is_turn : Body 1 1 [] b_is_turn sp_is_turn := by
  refine body_W (fun xs k h => ?_) fun xs k h => ?_
  · unfold w_is_turn at h; split at h <;> simp_all
  unfold w_is_turn at h
  split at h
  case h_2 => exact h.elim
  rename_i a b
  obtain ⟨⟨h1, h2, h3⟩, h⟩ := h
  unfold b_is_turn
  simp only [wSs, wS, wEs, wE, wIt, getE, setE, rdsK, rdK, biK, datasK, dataK, setMany, cmpK, binK, truthK, truth, ixK, initE, tgK, seqK, lstK, retK, isTy, tyOf, endL, List.map_cons, List.map_nil, List.length_cons, List.length_nil, List.cons_append, List.nil_append, List.replicate, List.replicate_zero, List.append_nil, Nat.reduceSub, Nat.reduceAdd, atI_0, atI_1, atI_2, set_0, set_2, call_W2, call_W1, call_W0, call_W3, call_L0, call_L1, call_L2, callNone, Option.some.injEq, sp_is_fraction, w_is_fraction, if_true]
  refine ⟨⟨by omega, h3⟩, ?_⟩
  simp [h1, h2]
  exact h
def w_check_turn : WF
  | [.tuple [.int a, .int b]], k => T a b ∧ k (.d .none)
  | _, _ => False
theorem m_check_turn : w_check_turn.Mono := by
  intro xs k k' h q
  unfold w_check_turn at q ⊢
  split <;> simp_all
def sp_check_turn : ASp := spW w_check_turn m_check_turn
def b_check_turn : Ss := (.cons (.ite (.not (.call "is_turn" sp_is_turn (.cons (.var 0) .nil))) (.cons (.raise "InvalidTurn")
  .nil) .nil)
  .nil)
theorem p_check_turn : Body 1 1 [] b_check_turn sp_check_turn := by
  refine body_W (fun xs k h => ?_) fun xs k h => ?_
  · unfold w_check_turn at h; split at h <;> simp_all
  unfold w_check_turn at h
  split at h
  case h_2 => exact h.elim
  rename_i a b
  obtain ⟨h1, h⟩ := h
  unfold b_check_turn
  simp only [wSs, wS, wEs, wE, wIt, getE, setE, rdsK, rdK, biK, datasK, dataK, setMany, cmpK, binK, truthK, truth, ixK, initE, tgK, seqK, lstK, retK, isTy, tyOf, endL, List.map_cons, List.map_nil, List.length_cons, List.length_nil, List.cons_append, List.nil_append, List.replicate, List.replicate_zero, List.append_nil, Nat.reduceSub, Nat.reduceAdd, atI_0, atI_1, atI_2, set_0, set_2, call_W2, call_W1, call_W0, call_W3, call_L0, call_L1, call_L2, callNone, Option.some.injEq, sp_is_turn, w_is_turn]
  refine ⟨h1, ?_⟩
  simpa using h
/-! ### places -/
def partF (a b : Int) : PyData := .tuple [.int (30 * a / b), frac (a * (30 / Int.gcd (30 * a / b) 30) - (30 * a / b) / Int.gcd (30 * a / b) 30 * b) (b * (30 / Int.gcd (30 * a / b) 30))]
def w_part_in : WF
  | [.tuple [.int a, .int b]], k => (T a b ∧ sz 1900 b) ∧ k (.d (partF a b))
  | _, _ => False
theorem m_part_in : w_part_in.Mono := by
  intro xs k k' h q
  unfold w_part_in at q ⊢
  split <;> simp_all
def sp_part_in : ASp := spW w_part_in m_part_in
def b_part_in : Ss := (.cons (.asgF 1 (.bin .fdiv (.bin .mul (.glob "PARTS" gv_PARTS) (.ix (.var 0) (.int 0))) (.ix (.var 0) (.int 1))))
  (.cons (.ret (.tup (.cons (.var 1) (.cons (.call "fraction_difference" sp_fraction_difference (.cons (.var 0) (.cons (.call "fraction_of" sp_fraction_of (.cons (.var 1) (.cons (.glob "PARTS" gv_PARTS) .nil))) .nil))) .nil))))
  .nil))
theorem T.pos {a b : Int} (h : T a b) : 0 < b := by have := h.1; have := h.2.1; omega
theorem T.a2 {a b : Int} (h : T a b) (s : sz 2000 b) : A2 a b := ⟨h.pos, s.le h.1 (Int.le_of_lt h.2.1), s⟩
theorem sz_lit {x : Int} {n : Nat} (h : x.natAbs < 2 ^ n) : sz n x := h
theorem part_lt {a b : Int} (h : T a b) : 0 ≤ 30 * a / b ∧ 30 * a / b < 30 := by
  refine ⟨Int.ediv_nonneg (by have := h.1; omega) (by have := h.pos; omega), ?_⟩
  exact Int.ediv_lt_of_lt_mul h.pos (by have := h.2.1; omega)
theorem cut_le {u v : Int} (hu : 0 ≤ u) (hv : 0 < v) : 0 ≤ u / Int.gcd u v ∧ u / Int.gcd u v ≤ u ∧ v / Int.gcd u v ≤ v := by
  have gp := gcd_pos (u := u) hv
  exact ⟨Int.ediv_nonneg hu (by omega), Int.ediv_le_self _ hu, Int.ediv_le_self _ (by omega)⟩
theorem p_part_in : Body 1 2 [] b_part_in sp_part_in := by
  refine body_W (fun xs k h => ?_) fun xs k h => ?_
  · unfold w_part_in at h; split at h <;> simp_all
  unfold w_part_in at h
  split at h
  case h_2 => exact h.elim
  rename_i a b
  obtain ⟨⟨h1, h2⟩, h⟩ := h
  have bp := h1.pos
  have h0 := h1.1
  obtain ⟨p0, p1⟩ := part_lt h1
  obtain ⟨c1, c2, c3⟩ := cut_le (u := 30 * a / b) (v := 30) p0 (by decide)
  have q0 := quo_pos (u := 30 * a / b) (v := 30) (by decide)
  have s30 : sz 5 30 := by unfold sz; decide
  have sa : sz 1900 a := h2.le h0 (Int.le_of_lt h1.2.1)
  unfold b_part_in
  simp only [wSs, wS, wEs, wE, wIt, getE, setE, rdsK, rdK, biK, datasK, dataK, setMany, cmpK, binK, truthK, truth, ixK, initE, tgK, seqK, lstK, retK, isTy, tyOf, endL, List.map_cons, List.map_nil, List.length_cons, List.length_nil, List.cons_append, List.nil_append, List.replicate, List.replicate_zero, List.append_nil, Nat.reduceSub, Nat.reduceAdd, atI_0, atI_1, atI_2, set_0, set_2, call_W2, call_W1, call_W0, call_W3, call_L0, call_L1, call_L2, callNone, Option.some.injEq, gv_PARTS, sp_fraction_difference, w_fraction_difference, sp_fraction_of, w_fraction_of, frac, tn]
  rw [fdiv_p bp]
  refine ⟨s30.mulOk sa (by decide), h2.divOk (by decide) (by omega), ⟨by decide, s30.mono (by decide)⟩, ⟨⟨bp, sa.mono (by decide), h2.mono (by decide)⟩, q0, ?_, ?_⟩, h⟩
  · exact (s30.le c1 (by omega)).mono (by decide)
  · exact (s30.le (by omega) c3).mono (by decide)
def w_turn_of : WF
  | [.int u, .int v], k => (0 < v ∧ sz 8000 v) ∧ k (.d (nrmD u v))
  | _, _ => False
theorem m_turn_of : w_turn_of.Mono := by
  intro xs k k' h q
  unfold w_turn_of at q ⊢
  split <;> simp_all
def sp_turn_of : ASp := spW w_turn_of m_turn_of
def b_turn_of : Ss := (.cons (.ite (.or (.not (.call "is_integer" sp_is_integer (.cons (.var 0) .nil))) (.not (.call "is_from" sp_is_from (.cons (.int 1) (.cons (.var 1) .nil))))) (.cons (.raise "InvalidTurn")
  .nil) .nil)
  (.cons (.ret (.call "turn_left" sp_turn_left (.cons (.call "fraction_of" sp_fraction_of (.cons (.var 0) (.cons (.var 1) .nil))) .nil)))
  .nil))
theorem p_turn_of : Body 2 2 [] b_turn_of sp_turn_of := by
  refine body_W (fun xs k h => ?_) fun xs k h => ?_
  · unfold w_turn_of at h; split at h <;> simp_all
  unfold w_turn_of at h
  split at h
  case h_2 => exact h.elim
  rename_i u v
  obtain ⟨⟨h1, h2⟩, h⟩ := h
  unfold b_turn_of
  simp only [wSs, wS, wEs, wE, wIt, getE, setE, rdsK, rdK, biK, datasK, dataK, setMany, cmpK, binK, truthK, truth, ixK, initE, tgK, seqK, lstK, retK, isTy, tyOf, endL, List.map_cons, List.map_nil, List.length_cons, List.length_nil, List.cons_append, List.nil_append, List.replicate, List.replicate_zero, List.append_nil, Nat.reduceSub, Nat.reduceAdd, atI_0, atI_1, atI_2, set_0, set_2, call_W2, call_W1, call_W0, call_W3, call_L0, call_L1, call_L2, callNone, Option.some.injEq, sp_is_integer, w_is_integer, sp_is_from, w_is_from, sp_fraction_of, w_fraction_of, sp_turn_left, w_turn_left, frac, tn]
  have e : decide (1 ≤ v) = true := decide_eq_true (by omega)
  simp only [e, Bool.not_true, Bool.false_eq_true, if_false]
  exact ⟨⟨h1, h2⟩, quo_pos h1, h⟩
def w_added : WF
  | [.tuple [.int a, .int b], .tuple [.int c, .int d]], k => ((T a b ∧ sz 2000 b) ∧ (T c d ∧ sz 2000 d)) ∧ k (.d (nrmD (a * d + c * b) (b * d)))
  | _, _ => False
theorem m_added : w_added.Mono := by
  intro xs k k' h q
  unfold w_added at q ⊢
  split <;> simp_all
def sp_added : ASp := spW w_added m_added
def b_added : Ss := (.cons (.expr (.call "check_turn" sp_check_turn (.cons (.var 0) .nil)))
  (.cons (.expr (.call "check_turn" sp_check_turn (.cons (.var 1) .nil)))
  (.cons (.ret (.call "turn_sum" sp_turn_sum (.cons (.var 0) (.cons (.var 1) .nil))))
  .nil)))
theorem p_added : Body 2 2 [] b_added sp_added := by
  refine body_W (fun xs k h => ?_) fun xs k h => ?_
  · unfold w_added at h; split at h <;> simp_all
  unfold w_added at h
  split at h
  case h_2 => exact h.elim
  rename_i a b c d
  obtain ⟨⟨h1, h2⟩, h⟩ := h
  unfold b_added
  simp only [wSs, wS, wEs, wE, wIt, getE, setE, rdsK, rdK, biK, datasK, dataK, setMany, cmpK, binK, truthK, truth, ixK, initE, tgK, seqK, lstK, retK, isTy, tyOf, endL, List.map_cons, List.map_nil, List.length_cons, List.length_nil, List.cons_append, List.nil_append, List.replicate, List.replicate_zero, List.append_nil, Nat.reduceSub, Nat.reduceAdd, atI_0, atI_1, atI_2, set_0, set_2, call_W2, call_W1, call_W0, call_W3, call_L0, call_L1, call_L2, callNone, Option.some.injEq, sp_check_turn, w_check_turn, sp_turn_sum, w_turn_sum]
  exact ⟨h1.1, h2.1, ⟨h1.1.a2 h1.2, h2.1.a2 h2.2⟩, h⟩
def w_taken : WF
  | [.tuple [.int a, .int b], .tuple [.int c, .int d]], k => ((T a b ∧ sz 2000 b) ∧ (T c d ∧ sz 2000 d)) ∧ k (.d (nrmD (a * d - c * b) (b * d)))
  | _, _ => False
theorem m_taken : w_taken.Mono := by
  intro xs k k' h q
  unfold w_taken at q ⊢
  split <;> simp_all
def sp_taken : ASp := spW w_taken m_taken
def b_taken : Ss := (.cons (.expr (.call "check_turn" sp_check_turn (.cons (.var 0) .nil)))
  (.cons (.expr (.call "check_turn" sp_check_turn (.cons (.var 1) .nil)))
  (.cons (.ret (.call "turn_difference" sp_turn_difference (.cons (.var 0) (.cons (.var 1) .nil))))
  .nil)))
theorem p_taken : Body 2 2 [] b_taken sp_taken := by
  refine body_W (fun xs k h => ?_) fun xs k h => ?_
  · unfold w_taken at h; split at h <;> simp_all
  unfold w_taken at h
  split at h
  case h_2 => exact h.elim
  rename_i a b c d
  obtain ⟨⟨h1, h2⟩, h⟩ := h
  unfold b_taken
  simp only [wSs, wS, wEs, wE, wIt, getE, setE, rdsK, rdK, biK, datasK, dataK, setMany, cmpK, binK, truthK, truth, ixK, initE, tgK, seqK, lstK, retK, isTy, tyOf, endL, List.map_cons, List.map_nil, List.length_cons, List.length_nil, List.cons_append, List.nil_append, List.replicate, List.replicate_zero, List.append_nil, Nat.reduceSub, Nat.reduceAdd, atI_0, atI_1, atI_2, set_0, set_2, call_W2, call_W1, call_W0, call_W3, call_L0, call_L1, call_L2, callNone, Option.some.injEq, sp_check_turn, w_check_turn, sp_turn_difference, w_turn_difference]
  exact ⟨h1.1, h2.1, ⟨h1.1.a2 h1.2, h2.1.a2 h2.2⟩, h⟩
def w_times : WF
  | [.tuple [.int a, .int b], .int n], k => ((T a b ∧ sz 2000 b) ∧ sz 2000 n) ∧ k (.d (nrmD (a * n) b))
  | _, _ => False
theorem m_times : w_times.Mono := by
  intro xs k k' h q
  unfold w_times at q ⊢
  split <;> simp_all
def sp_times : ASp := spW w_times m_times
def b_times : Ss := (.cons (.expr (.call "check_turn" sp_check_turn (.cons (.var 0) .nil)))
  (.cons (.ite (.not (.call "is_integer" sp_is_integer (.cons (.var 1) .nil))) (.cons (.raise "InvalidNumber")
  .nil) .nil)
  (.cons (.ret (.call "turn_product" sp_turn_product (.cons (.var 0) (.cons (.var 1) .nil))))
  .nil)))
theorem p_times : Body 2 2 [] b_times sp_times := by
  refine body_W (fun xs k h => ?_) fun xs k h => ?_
  · unfold w_times at h; split at h <;> simp_all
  unfold w_times at h
  split at h
  case h_2 => exact h.elim
  rename_i a b n
  obtain ⟨⟨h1, h2⟩, h⟩ := h
  unfold b_times
  simp only [wSs, wS, wEs, wE, wIt, getE, setE, rdsK, rdK, biK, datasK, dataK, setMany, cmpK, binK, truthK, truth, ixK, initE, tgK, seqK, lstK, retK, isTy, tyOf, endL, List.map_cons, List.map_nil, List.length_cons, List.length_nil, List.cons_append, List.nil_append, List.replicate, List.replicate_zero, List.append_nil, Nat.reduceSub, Nat.reduceAdd, atI_0, atI_1, atI_2, set_0, set_2, call_W2, call_W1, call_W0, call_W3, call_L0, call_L1, call_L2, callNone, Option.some.injEq, sp_check_turn, w_check_turn, sp_is_integer, w_is_integer, sp_turn_product, w_turn_product, Bool.not_true, Bool.false_eq_true, if_false]
  exact ⟨h1.1, ⟨h1.1.a2 h1.2, h2⟩, h⟩
def w_part_of : WF
  | [.tuple [.int a, .int b]], k => (T a b ∧ sz 1900 b) ∧ k (.d (partF a b))
  | _, _ => False
theorem m_part_of : w_part_of.Mono := by
  intro xs k k' h q
  unfold w_part_of at q ⊢
  split <;> simp_all
def sp_part_of : ASp := spW w_part_of m_part_of
def b_part_of : Ss := (.cons (.expr (.call "check_turn" sp_check_turn (.cons (.var 0) .nil)))
  (.cons (.ret (.call "part_in" sp_part_in (.cons (.var 0) .nil)))
  .nil))
theorem p_part_of : Body 1 1 [] b_part_of sp_part_of := by
  refine body_W (fun xs k h => ?_) fun xs k h => ?_
  · unfold w_part_of at h; split at h <;> simp_all
  unfold w_part_of at h
  split at h
  case h_2 => exact h.elim
  rename_i a b
  obtain ⟨h1, h⟩ := h
  unfold b_part_of
  simp only [wSs, wS, wEs, wE, wIt, getE, setE, rdsK, rdK, biK, datasK, dataK, setMany, cmpK, binK, truthK, truth, ixK, initE, tgK, seqK, lstK, retK, isTy, tyOf, endL, List.map_cons, List.map_nil, List.length_cons, List.length_nil, List.cons_append, List.nil_append, List.replicate, List.replicate_zero, List.append_nil, Nat.reduceSub, Nat.reduceAdd, atI_0, atI_1, atI_2, set_0, set_2, call_W2, call_W1, call_W0, call_W3, call_L0, call_L1, call_L2, callNone, Option.some.injEq, sp_check_turn, w_check_turn, sp_part_in, w_part_in]
  exact ⟨h1.1, h1, h⟩
def keptF (p : Int) : Bool := decide (p % 2 < 1) && (decide (p % 3 < 2) && decide (p % 5 < 4))
def w_is_kept : WF
  | [.tuple [.int a, .int b]], k => (T a b ∧ sz 1900 b) ∧ k (.d (.bool (keptF (30 * a / b))))
  | _, _ => False
theorem m_is_kept : w_is_kept.Mono := by
  intro xs k k' h q
  unfold w_is_kept at q ⊢
  split <;> simp_all
def sp_is_kept : ASp := spW w_is_kept m_is_kept
def ce_is_kept_1 : E := (.cmp .lt (.bin .mod (.bi .int (.cons (.var 1) .nil)) (.var 2)) (.bin .sub (.var 2) (.int 1)))
def b_is_kept : Ss := (.cons (.expr (.call "check_turn" sp_check_turn (.cons (.var 0) .nil)))
  (.cons (.asgF 1 (.ix (.call "part_in" sp_part_in (.cons (.var 0) .nil)) (.int 0)))
  (.cons (.ret (.bi .all (.cons (.comp ce_is_kept_1 none .none (.nm 2) (.seq (.glob "PRIMES" gv_PRIMES)) [("prime", 2)]) .nil)))
  .nil)))
theorem el_is_kept {a : Option AV} {p q : Int} {Q : AV → AEnv → Prop} : wE ce_is_kept_1 [a, some (.d (.int p)), some (.d (.int q))] Q X0 ↔ q ≠ 0 ∧ Q (.d (.bool (decide (p.fmod q < q - 1)))) [a, some (.d (.int p)), some (.d (.int q))] := by
  simp only [ce_is_kept_1, wSs, wS, wEs, wE, wIt, getE, setE, rdsK, rdK, biK, datasK, dataK, setMany, cmpK, binK, truthK, truth, ixK, initE, tgK, seqK, lstK, retK, isTy, tyOf, endL, List.map_cons, List.map_nil, List.length_cons, List.length_nil, List.cons_append, List.nil_append, List.replicate, List.replicate_zero, List.append_nil, Nat.reduceSub, Nat.reduceAdd, atI_0, atI_1, atI_2, set_0, set_2, call_W2, call_W1, call_W0, call_W3, call_L0, call_L1, call_L2, callNone, Option.some.injEq]
theorem p_is_kept : Body 1 3 [] b_is_kept sp_is_kept := by
  refine body_W (fun xs k h => ?_) fun xs k h => ?_
  · unfold w_is_kept at h; split at h <;> simp_all
  unfold w_is_kept at h
  split at h
  case h_2 => exact h.elim
  rename_i a b
  obtain ⟨h1, h⟩ := h
  unfold b_is_kept
  obtain ⟨x, hx⟩ : ∃ x, partF a b = .tuple [.int (30 * a / b), x] := ⟨_, rfl⟩
  simp only [wSs, wS, wEs, wE, wIt, getE, setE, rdsK, rdK, biK, datasK, dataK, setMany, cmpK, binK, truthK, truth, ixK, initE, tgK, seqK, lstK, retK, isTy, tyOf, endL, List.map_cons, List.map_nil, List.length_cons, List.length_nil, List.cons_append, List.nil_append, List.replicate, List.replicate_zero, List.append_nil, Nat.reduceSub, Nat.reduceAdd, atI_0, atI_1, atI_2, set_0, set_2, call_W2, call_W1, call_W0, call_W3, call_L0, call_L1, call_L2, callNone, Option.some.injEq, sp_check_turn, w_check_turn, sp_part_in, w_part_in, hx]
  refine ⟨h1.1, h1, ?_⟩
  generalize 30 * a / b = p at h
  simp only [gv_PRIMES, wSs, wS, wEs, wE, wIt, getE, setE, rdsK, rdK, biK, datasK, dataK, setMany, cmpK, binK, truthK, truth, ixK, initE, tgK, seqK, lstK, retK, isTy, tyOf, endL, List.map_cons, List.map_nil, List.length_cons, List.length_nil, List.cons_append, List.nil_append, List.replicate, List.replicate_zero, List.append_nil, Nat.reduceSub, Nat.reduceAdd, atI_0, atI_1, atI_2, set_0, set_2, call_W2, call_W1, call_W0, call_W3, call_L0, call_L1, call_L2, callNone, Option.some.injEq, noOwn, wipeE, backE]
  refine ⟨⟨trivial, trivial⟩, ?_⟩
  simp only [compW, wSs, wS, wEs, wE, wIt, getE, setE, rdsK, rdK, biK, datasK, dataK, setMany, cmpK, binK, truthK, truth, ixK, initE, tgK, seqK, lstK, retK, isTy, tyOf, endL, List.map_cons, List.map_nil, List.length_cons, List.length_nil, List.cons_append, List.nil_append, List.replicate, List.replicate_zero, List.append_nil, Nat.reduceSub, Nat.reduceAdd, atI_0, atI_1, atI_2, set_0, set_2, call_W2, call_W1, call_W0, call_W3, call_L0, call_L1, call_L2, callNone, Option.some.injEq, wipeE, backE, el_is_kept]
  refine ⟨by decide, by decide, by decide, ?_⟩
  rw [fmod_p (by decide), fmod_p (by decide), fmod_p (by decide)]
  simp only [boolsOf, Option.map_some]
  have e : List.all [decide (p % 2 < 2 - 1), decide (p % 3 < 3 - 1), decide (p % 5 < 5 - 1)] id = keptF p := by
    simp [keptF]
  rw [e]
  exact h
end K26

set_option maxRecDepth 100000
set_option maxHeartbeats 1000000
namespace K26
open PySem PF
/-! ### the draws -/
def Urn (n : Nat) (l : List PyData) : Prop := ∃ a b c : Int, l = [.int a, .int b, .int c] ∧ 0 ≤ a ∧ (0 ≤ b ∧ b < 10 ^ 40) ∧ 0 ≤ c ∧ c ≤ n
theorem Urn.mono {n m : Nat} {l : List PyData} (h : Urn n l) (e : n ≤ m) : Urn m l := by
  obtain ⟨a, b, c, h1, h2, h3, h4, h5⟩ := h
  exact ⟨a, b, c, h1, h2, h3, h4, by omega⟩
theorem sz.bits {n : Nat} {x : Int} (h : sz n x) : Builtin.Int.intBits x ≤ n := by
  unfold Builtin.Int.intBits
  split
  · exact Nat.zero_le _
  · rename_i z
    have z' : x.natAbs ≠ 0 := fun q => z (by rw [Int.natAbs_eq_zero.mp q]; rfl)
    exact (Nat.log2_lt z').mpr h
theorem sz.pow {n : Nat} {x e : Int} (h : sz n x) (h0 : 0 ≤ e) (l : (n : Int) * e ≤ 2 ^ 27) : powOk x e := by
  refine ⟨h0, Int.le_trans (Int.mul_le_mul_of_nonneg_right ?_ h0) l⟩
  have := h.bits
  omega
def w__law_urn : WF
  | [.list xs, .int i], k => ((∃ ns : List Int, xs = ns.map .int) ∧ 0 ≤ i ∧ i ≤ 100) ∧ ∀ l, Urn 0 l → k (.o l)
  | _, _ => False
theorem m__law_urn : w__law_urn.Mono := by
  intro xs k k' h q
  unfold w__law_urn at q ⊢
  split <;> simp_all
def sp__law_urn : ASp := spW w__law_urn m__law_urn
def b__law_urn : Ss := (.cons (.asgF 2 (.ife (.cmp .lt (.var 1) (.bi .len (.cons (.var 0) .nil))) (.ix (.var 0) (.var 1)) (.bin .add (.bin .mul (.int 61) (.var 1)) (.int 43))))
  (.cons (.ret (.lst (.cons (.bi .max2 (.cons (.int 0) (.cons (.bin .sub (.bi .abs (.cons (.var 2) .nil)) (.bin .pow (.int 10) (.int 18))) .nil))) (.cons (.bin .add (.bin .add (.bin .mul (.bin .mod (.bi .int (.cons (.var 2) .nil)) (.bin .add (.bin .pow (.int 10) (.int 27)) (.int 103))) (.int 7)) (.bin .mul (.int 3) (.var 1))) (.int 2)) (.cons (.int 0) .nil)))))
  .nil))
theorem s10 : sz 4 10 := by unfold sz; decide
theorem urn_end {k : AV → Prop} {z i : Int} (hi : 0 ≤ i ∧ i ≤ 100) (h : ∀ l, Urn 0 l → k (.o l)) (A : Int) : k (.o [.int (if A > 0 then A else 0), .int (z % 1000000000000000000000000103 * 7 + 3 * i + 2), .int 0]) := by
  refine h _ ⟨_, _, _, rfl, ?_, ⟨?_, ?_⟩, by omega, by omega⟩
  · split <;> omega
  · omega
  · omega
theorem p__law_urn : Body 2 3 [] b__law_urn sp__law_urn := by
  refine body_W (fun xs k h => ?_) fun xs k h => ?_
  · unfold w__law_urn at h; split at h <;> simp_all
  unfold w__law_urn at h
  split at h
  case h_2 => exact h.elim
  rename_i xs i
  obtain ⟨⟨⟨ns, rfl⟩, hi⟩, h⟩ := h
  have hi1 := hi.1
  have s3 : sz 7 i := by unfold sz; omega
  have s61 : sz 7 61 := by unfold sz; decide
  have s33 : sz 7 3 := by unfold sz; decide
  have s7 : sz 7 7 := by unfold sz; decide
  have sm : ∀ z : Int, sz 100 (z % 1000000000000000000000000103) := fun z => by
    unfold sz
    have : z % 1000000000000000000000000103 < 1000000000000000000000000103 := Int.emod_lt_of_pos _ (by decide)
    omega
  unfold b__law_urn
  simp only [wSs, wS, wEs, wE, wIt, getE, setE, rdsK, rdK, biK, datasK, dataK, setMany, cmpK, binK, truthK, truth, ixK, initE, tgK, seqK, lstK, retK, isTy, tyOf, endL, List.map_cons, List.map_nil, List.length_cons, List.length_nil, List.cons_append, List.nil_append, List.replicate, List.replicate_zero, List.append_nil, Nat.reduceSub, Nat.reduceAdd, atI_0, atI_1, atI_2, set_0, set_2, call_W2, call_W1, call_W0, call_W3, call_L0, call_L1, call_L2, callNone, Option.some.injEq, List.length_map]
  by_cases hl : i < (ns.length : Int)
  · have e : L2.atI (ns.map PyData.int) i = some (.int (ns[i.toNat]'(by omega))) := by
      rw [atI_lt hi.1 (by rw [List.length_map]; exact hl), List.getElem?_map, List.getElem?_eq_getElem (by omega)]
      rfl
    simp only [decide_eq_true hl, if_true, e, wSs, wS, wEs, wE, wIt, getE, setE, rdsK, rdK, biK, datasK, dataK, setMany, cmpK, binK, truthK, truth, ixK, initE, tgK, seqK, lstK, retK, isTy, tyOf, endL, List.map_cons, List.map_nil, List.length_cons, List.length_nil, List.cons_append, List.nil_append, List.replicate, List.replicate_zero, List.append_nil, Nat.reduceSub, Nat.reduceAdd, atI_0, atI_1, atI_2, set_0, set_2, call_W2, call_W1, call_W0, call_W3, call_L0, call_L1, call_L2, callNone, Option.some.injEq]
    refine ⟨s10.pow (by decide) (by decide), s10.pow (by decide) (by decide), by decide, ?_⟩
    rw [fmod_p (by decide)]
    exact ⟨(sm _).mulOk s7 (by decide), s33.mulOk s3 (by decide), urn_end hi h _⟩
  · simp only [decide_eq_false hl, Bool.false_eq_true, if_false, wSs, wS, wEs, wE, wIt, getE, setE, rdsK, rdK, biK, datasK, dataK, setMany, cmpK, binK, truthK, truth, ixK, initE, tgK, seqK, lstK, retK, isTy, tyOf, endL, List.map_cons, List.map_nil, List.length_cons, List.length_nil, List.cons_append, List.nil_append, List.replicate, List.replicate_zero, List.append_nil, Nat.reduceSub, Nat.reduceAdd, atI_0, atI_1, atI_2, set_0, set_2, call_W2, call_W1, call_W0, call_W3, call_L0, call_L1, call_L2, callNone, Option.some.injEq]
    refine ⟨s61.mulOk s3 (by decide), s10.pow (by decide) (by decide), s10.pow (by decide) (by decide), by decide, ?_⟩
    rw [fmod_p (by decide)]
    exact ⟨(sm _).mulOk s7 (by decide), s33.mulOk s3 (by decide), urn_end hi h _⟩
def w__law_pick : LF := fun l xs k => ∃ (n : Nat) (many : Int), xs = [.int many] ∧ Urn n l ∧ n < 1000000000 ∧ 0 < many ∧ sz 2000 many ∧ ∀ r l', 0 ≤ r → r < many → Urn (n + 1) l' → k (.d (.int r)) l'
theorem m__law_pick : w__law_pick.Mono := fun l xs k k' h ⟨n, many, h1, h2, h3, h4, h5, h6⟩ => ⟨n, many, h1, h2, h3, h4, h5, fun r l' a b c => h _ _ (h6 r l' a b c)⟩
def sp__law_pick : ASp := spL w__law_pick m__law_pick
def b__law_pick : Ss := (.cons (.ite (.cmp .gt (.ix (.var 0) (.int 0)) (.int 0)) (.cons (.asgF 3 (.bin .mod (.bi .int (.cons (.ix (.var 0) (.int 0)) .nil)) (.var 1)))
  (.cons (.setIx 0 (.int 0) (.bin .fdiv (.ix (.var 0) (.int 0)) (.var 1)))
  (.cons (.ret (.var 3))
  .nil))) .nil)
  (.cons (.setIx 0 (.int 2) (.bin .add (.ix (.var 0) (.int 2)) (.int 1)))
  (.cons (.asgF 2 (.bin .mod (.bin .pow (.bi .int (.cons (.bin .add (.ix (.var 0) (.int 1)) (.bin .mul (.int 70001) (.ix (.var 0) (.int 2)))) .nil)) (.int 3)) (.bin .add (.bin .pow (.int 10) (.int 32)) (.int 49))))
  (.cons (.asgF 2 (.bin .mod (.bin .pow (.bi .int (.cons (.bin .add (.var 2) (.bin .mul (.int 60013) (.ix (.var 0) (.int 2)))) .nil)) (.int 2)) (.bin .add (.bin .pow (.int 10) (.int 31)) (.int 33))))
  (.cons (.ret (.bin .mod (.bi .int (.cons (.bin .fdiv (.var 2) (.int 524288)) .nil)) (.var 1)))
  .nil)))))
theorem p__law_pick : Body 2 4 [0] b__law_pick sp__law_pick := by
  refine body_L (fun l xs k h => ?_) fun l xs k h => ?_
  · obtain ⟨n, many, rfl, _⟩ := h; rfl
  obtain ⟨n, m, rfl, ⟨a, b, c, rfl, ha, hb, hc, hcn⟩, hn, hm, sm, h⟩ := h
  unfold b__law_pick
  simp only [wSs, wS, wEs, wE, wIt, getE, setE, rdsK, rdK, biK, datasK, dataK, setMany, cmpK, binK, truthK, truth, ixK, initE, tgK, seqK, lstK, retK, isTy, tyOf, endL, List.map_cons, List.map_nil, List.length_cons, List.length_nil, List.cons_append, List.nil_append, List.replicate, List.replicate_zero, List.append_nil, Nat.reduceSub, Nat.reduceAdd, atI_0, atI_1, atI_2, set_0, set_2, call_W2, call_W1, call_W0, call_W3, call_L0, call_L1, call_L2, callNone, Option.some.injEq]
  by_cases h0 : 0 < a
  · simp only [decide_eq_true h0, if_true, wSs, wS, wEs, wE, wIt, getE, setE, rdsK, rdK, biK, datasK, dataK, setMany, cmpK, binK, truthK, truth, ixK, initE, tgK, seqK, lstK, retK, isTy, tyOf, endL, List.map_cons, List.map_nil, List.length_cons, List.length_nil, List.cons_append, List.nil_append, List.replicate, List.replicate_zero, List.append_nil, Nat.reduceSub, Nat.reduceAdd, atI_0, atI_1, atI_2, set_0, set_2, call_W2, call_W1, call_W0, call_W3, call_L0, call_L1, call_L2, callNone, Option.some.injEq]
    refine ⟨by omega, sm.divOk (by decide) (by omega), ⟨by decide, by decide⟩, ?_⟩
    rw [fmod_p hm, fdiv_p hm]
    refine h _ _ (Int.emod_nonneg _ (by omega)) (Int.emod_lt_of_pos _ hm) ⟨_, _, _, rfl, Int.ediv_nonneg ha (by omega), hb, hc, by omega⟩
  · simp only [decide_eq_false h0, Bool.false_eq_true, if_false, wSs, wS, wEs, wE, wIt, getE, setE, rdsK, rdK, biK, datasK, dataK, setMany, cmpK, binK, truthK, truth, ixK, initE, tgK, seqK, lstK, retK, isTy, tyOf, endL, List.map_cons, List.map_nil, List.length_cons, List.length_nil, List.cons_append, List.nil_append, List.replicate, List.replicate_zero, List.append_nil, Nat.reduceSub, Nat.reduceAdd, atI_0, atI_1, atI_2, set_0, set_2, call_W2, call_W1, call_W0, call_W3, call_L0, call_L1, call_L2, callNone, Option.some.injEq]
    have s7 : sz 17 70001 := by unfold sz; decide
    have s6 : sz 17 60013 := by unfold sz; decide
    have sc : sz 31 (c + 1) := by unfold sz; omega
    have sb : sz 133 b := by
      unfold sz
      have : (10 : Int) ^ 40 = 10000000000000000000000000000000000000000 := by decide
      omega
    have s1 : sz 134 (b + 70001 * (c + 1)) := sb.add ((s7.mul sc).mono (by decide))
    have s2 : ∀ z : Int, sz 110 (z.fmod (10 ^ Int.toNat 32 + 49)) := fun z => by
      rw [fmod_p (by decide)]
      have h1 := Int.emod_nonneg z (show (10 : Int) ^ Int.toNat 32 + 49 ≠ 0 by decide)
      have h2 := Int.emod_lt_of_pos z (show 0 < (10 : Int) ^ Int.toNat 32 + 49 by decide)
      have h3 : (10 : Int) ^ Int.toNat 32 + 49 = 100000000000000000000000000000049 := by decide
      unfold sz
      omega
    refine ⟨⟨by decide, by decide⟩, s7.mulOk sc (by decide), s1.pow (by decide) (by decide), s10.pow (by decide) (by decide), by decide, s6.mulOk sc (by decide), ((s2 _).add ((s6.mul sc).mono (by decide))).pow (by decide) (by decide), s10.pow (by decide) (by decide), by decide, ⟨by decide, by decide⟩, by omega, ?_⟩
    rw [fmod_p hm]
    exact h _ _ (Int.emod_nonneg _ (by omega)) (Int.emod_lt_of_pos _ hm) ⟨_, _, _, rfl, ha, hb, by omega, by omega⟩
/-! ### numbers of the law -/
def w__law_common : WF
  | [.int a, .int b], k => (0 ≤ a ∧ a < b ∧ sz 700 b) ∧ k (.d (.int (Int.gcd a b)))
  | _, _ => False
theorem m__law_common : w__law_common.Mono := by
  intro xs k k' h q
  unfold w__law_common at q ⊢
  split <;> simp_all
def sp__law_common : ASp := spW w__law_common m__law_common
def lb__law_common_1 : Ss := (.cons (.ite (.cmp .eq (.var 1) (.int 0)) (.cons (.ret (.var 0))
  .nil) .nil)
  (.cons (.asgF 3 (.bin .mod (.bi .int (.cons (.var 0) .nil)) (.var 1)))
  (.cons (.asgF 0 (.var 1))
  (.cons (.asgF 1 (.var 3))
  .nil))))
def b__law_common : Ss := (.cons (.forS (.nm 2) (.range1 (.int 1500)) lb__law_common_1)
  (.cons (.ret (.var 0))
  .nil))
theorem half {a b : Int} (h : b ≤ a) (hb : 0 < b) : 2 * (a % b) < a := by
  have h1 := Int.emod_lt_of_pos a hb
  have h2 := Int.emod_add_mul_ediv a b
  have h3 : 1 ≤ a / b := Int.le_ediv_of_mul_le hb (by omega)
  have h4 : b * 1 ≤ b * (a / b) := Int.mul_le_mul_of_nonneg_left h3 (by omega)
  omega
def CI (G : Nat) (m : Nat) (a b : Int) : Prop := 0 ≤ a ∧ 0 ≤ b ∧ Int.gcd a b = G ∧ ((b ≤ a ∧ a * b < 2 ^ m) ∨ (1 ≤ m ∧ a < b ∧ a * b * 2 < 2 ^ m))
theorem CI.step {G m : Nat} {a b : Int} (h : CI G (m + 1) a b) (hb : b ≠ 0) : CI G m b (a % b) := by
  obtain ⟨h1, h2, h3, h4⟩ := h
  have bp : 0 < b := by omega
  have e1 := Int.emod_nonneg a hb
  have e2 := Int.emod_lt_of_pos a bp
  have pw : (2 : Int) ^ (m + 1) = 2 ^ m * 2 := Int.pow_succ ..
  refine ⟨h2, e1, by rw [gcd_step]; exact h3, .inl ⟨by omega, ?_⟩⟩
  rcases h4 with ⟨g1, g2⟩ | ⟨_, g1, g2⟩
  · have hh := half g1 bp
    have : b * (2 * (a % b)) ≤ b * a := Int.mul_le_mul_of_nonneg_left (by omega) (by omega)
    have e3 : b * (2 * (a % b)) = 2 * (b * (a % b)) := by grind
    have e4 : b * a = a * b := Int.mul_comm _ _
    omega
  · have e5 : a % b = a := Int.emod_eq_of_lt h1 g1
    rw [e5]
    have e4 : b * a = a * b := Int.mul_comm _ _
    omega
theorem CI.last {G : Nat} {a b : Int} (h : CI G 0 a b) : b = 0 := by
  obtain ⟨h1, h2, h3, h4⟩ := h
  rcases h4 with ⟨g1, g2⟩ | ⟨g1, _⟩
  · by_cases z : b = 0
    · exact z
    · have : 1 * 1 ≤ a * b := Int.mul_le_mul (by omega) (by omega) (by decide) (by omega)
      have e : (2 : Int) ^ 0 = 1 := by decide
      omega
  · omega
theorem CI.zero {G m : Nat} {a : Int} (h : CI G m a 0) : a = G := by
  obtain ⟨h1, h2, h3, h4⟩ := h
  simp only [Int.gcd_zero_right] at h3
  omega
theorem rangeL_len (n : Int) : (rangeL 0 n).length = n.toNat := by simp [rangeL]
theorem p__law_common : Body 2 4 [] b__law_common sp__law_common := by
  refine body_W (fun xs k h => ?_) fun xs k h => ?_
  · unfold w__law_common at h; split at h <;> simp_all
  unfold w__law_common at h
  split at h
  case h_2 => exact h.elim
  rename_i a b
  obtain ⟨⟨h1, h2, h3⟩, h⟩ := h
  unfold b__law_common
  simp only [wSs, wS, wEs, wE, wIt, getE, setE, rdsK, rdK, biK, datasK, dataK, setMany, cmpK, binK, truthK, truth, ixK, initE, tgK, seqK, lstK, retK, isTy, tyOf, endL, List.map_cons, List.map_nil, List.length_cons, List.length_nil, List.cons_append, List.nil_append, List.replicate, List.replicate_zero, List.append_nil, Nat.reduceSub, Nat.reduceAdd, atI_0, atI_1, atI_2, set_0, set_2, call_W2, call_W1, call_W0, call_W3, call_L0, call_L1, call_L2, callNone, Option.some.injEq, rangeK]
  refine ⟨⟨by decide, by decide, by decide, by decide, by decide⟩, ?_⟩
  refine for_inv (fun xs env => ∃ (x y : Int) (s t : Option AV), env = [some (.d (.int x)), some (.d (.int y)), s, t] ∧ CI (Int.gcd a b) xs.length x y) (fun env D D' => body_mono env D D') ?_ ?_ ⟨a, b, _, _, rfl, h1, by omega, rfl, .inr ?_⟩
  · rintro env ⟨x, y, s, t, rfl, c⟩
    have y0 := c.last
    subst y0
    simp only [wSs, wS, wEs, wE, wIt, getE, setE, rdsK, rdK, biK, datasK, dataK, setMany, cmpK, binK, truthK, truth, ixK, initE, tgK, seqK, lstK, retK, isTy, tyOf, endL, List.map_cons, List.map_nil, List.length_cons, List.length_nil, List.cons_append, List.nil_append, List.replicate, List.replicate_zero, List.append_nil, Nat.reduceSub, Nat.reduceAdd, atI_0, atI_1, atI_2, set_0, set_2, call_W2, call_W1, call_W0, call_W3, call_L0, call_L1, call_L2, callNone, Option.some.injEq]
    rw [c.zero]
    exact h
  · rintro z xs env ⟨x, y, s, t, rfl, c⟩
    simp only [wSs, wS, wEs, wE, wIt, getE, setE, rdsK, rdK, biK, datasK, dataK, setMany, cmpK, binK, truthK, truth, ixK, initE, tgK, seqK, lstK, retK, isTy, tyOf, endL, List.map_cons, List.map_nil, List.length_cons, List.length_nil, List.cons_append, List.nil_append, List.replicate, List.replicate_zero, List.append_nil, Nat.reduceSub, Nat.reduceAdd, atI_0, atI_1, atI_2, set_0, set_2, call_W2, call_W1, call_W0, call_W3, call_L0, call_L1, call_L2, callNone, Option.some.injEq, lb__law_common_1]
    refine ⟨rfl, rfl, ?_⟩
    by_cases y0 : y = 0
    · subst y0
      rw [if_pos (by simp [PyData.eqv])]
      rw [c.zero]
      exact h
    · rw [if_neg (by simp [PyData.eqv, y0])]
      have yp : 0 < y := by have := c.2.1; omega
      refine ⟨y0, _, _, _, _, rfl, ?_⟩
      rw [fmod_p yp]
      exact CI.step c y0
  · rw [rangeL_len]
    refine ⟨by decide, h2, ?_⟩
    have sa : sz 700 a := h3.le h1 (by omega)
    have := sa.mul h3
    unfold sz at this
    have e : ((a * b).natAbs : Int) < ((2 ^ (700 + 700) : Nat) : Int) := by omega
    have p0 : 0 ≤ a * b := Int.mul_nonneg h1 (by omega)
    have e2 : ((2 ^ (700 + 700) : Nat) : Int) * 2 < 2 ^ (Int.toNat 1500) := by decide +kernel
    omega
def w__law_fraction : WF
  | [.int u, .int v], k => (0 ≤ u ∧ u < v ∧ sz 700 v) ∧ k (.d (frac u v))
  | _, _ => False
theorem m__law_fraction : w__law_fraction.Mono := by
  intro xs k k' h q
  unfold w__law_fraction at q ⊢
  split <;> simp_all
def sp__law_fraction : ASp := spW w__law_fraction m__law_fraction
def b__law_fraction : Ss := (.cons (.asgF 2 (.call "_law_common" sp__law_common (.cons (.bi .abs (.cons (.var 0) .nil)) (.cons (.var 1) .nil))))
  (.cons (.ret (.tup (.cons (.bin .fdiv (.var 0) (.var 2)) (.cons (.bin .fdiv (.var 1) (.var 2)) .nil))))
  .nil))
theorem p__law_fraction : Body 2 3 [] b__law_fraction sp__law_fraction := by
  refine body_W (fun xs k h => ?_) fun xs k h => ?_
  · unfold w__law_fraction at h; split at h <;> simp_all
  unfold w__law_fraction at h
  split at h
  case h_2 => exact h.elim
  rename_i u v
  obtain ⟨⟨h1, h2, h3⟩, h⟩ := h
  have hv : 0 < v := by omega
  have gp := gcd_pos (u := u) hv
  have ok : divOk ((Int.gcd u v : Nat) : Int) := (h3.le (by omega) (gcd_le hv)).divOk (by decide) (by omega)
  unfold b__law_fraction
  simp only [wSs, wS, wEs, wE, wIt, getE, setE, rdsK, rdK, biK, datasK, dataK, setMany, cmpK, binK, truthK, truth, ixK, initE, tgK, seqK, lstK, retK, isTy, tyOf, endL, List.map_cons, List.map_nil, List.length_cons, List.length_nil, List.cons_append, List.nil_append, List.replicate, List.replicate_zero, List.append_nil, Nat.reduceSub, Nat.reduceAdd, atI_0, atI_1, atI_2, set_0, set_2, call_W2, call_W1, call_W0, call_W3, call_L0, call_L1, call_L2, callNone, Option.some.injEq, sp__law_common, w__law_common]
  rw [if_neg (by omega)]
  refine ⟨⟨h1, h2, h3⟩, ok, ok, ?_⟩
  rw [fdiv_p gp, fdiv_p gp]
  exact h
def w__law_left : WF
  | [.int u, .int v], k => (0 < v ∧ sz 700 v) ∧ k (.d (frac (u % v) v))
  | _, _ => False
theorem m__law_left : w__law_left.Mono := by
  intro xs k k' h q
  unfold w__law_left at q ⊢
  split <;> simp_all
def sp__law_left : ASp := spW w__law_left m__law_left
def b__law_left : Ss := (.cons (.ret (.call "_law_fraction" sp__law_fraction (.cons (.bin .mod (.bi .int (.cons (.var 0) .nil)) (.var 1)) (.cons (.var 1) .nil))))
  .nil)
theorem p__law_left : Body 2 2 [] b__law_left sp__law_left := by
  refine body_W (fun xs k h => ?_) fun xs k h => ?_
  · unfold w__law_left at h; split at h <;> simp_all
  unfold w__law_left at h
  split at h
  case h_2 => exact h.elim
  rename_i u v
  obtain ⟨⟨h1, h3⟩, h⟩ := h
  unfold b__law_left
  simp only [wSs, wS, wEs, wE, wIt, getE, setE, rdsK, rdK, biK, datasK, dataK, setMany, cmpK, binK, truthK, truth, ixK, initE, tgK, seqK, lstK, retK, isTy, tyOf, endL, List.map_cons, List.map_nil, List.length_cons, List.length_nil, List.cons_append, List.nil_append, List.replicate, List.replicate_zero, List.append_nil, Nat.reduceSub, Nat.reduceAdd, atI_0, atI_1, atI_2, set_0, set_2, call_W2, call_W1, call_W0, call_W3, call_L0, call_L1, call_L2, callNone, Option.some.injEq, sp__law_fraction, w__law_fraction]
  rw [fmod_p h1]
  exact ⟨by omega, ⟨Int.emod_nonneg _ (by omega), Int.emod_lt_of_pos _ h1, h3⟩, h⟩
def w__law_whole : WF
  | [.int _], k => k (.d (.bool true))
  | _, _ => False
theorem m__law_whole : w__law_whole.Mono := by
  intro xs k k' h q
  unfold w__law_whole at q ⊢
  split <;> simp_all
def sp__law_whole : ASp := spW w__law_whole m__law_whole
def b__law_whole : Ss := (.cons (.ret (.and (.inst (.var 0) [.int]) (.not (.inst (.var 0) [.bool]))))
  .nil)
theorem p__law_whole : Body 1 1 [] b__law_whole sp__law_whole := by
  refine body_W (fun xs k h => ?_) fun xs k h => ?_
  · unfold w__law_whole at h; split at h <;> simp_all
  unfold w__law_whole at h
  split at h
  case h_2 => exact h.elim
  unfold b__law_whole
  simp only [wSs, wS, wEs, wE, wIt, getE, setE, rdsK, rdK, biK, datasK, dataK, setMany, cmpK, binK, truthK, truth, ixK, initE, tgK, seqK, lstK, retK, isTy, tyOf, endL, List.map_cons, List.map_nil, List.length_cons, List.length_nil, List.cons_append, List.nil_append, List.replicate, List.replicate_zero, List.append_nil, Nat.reduceSub, Nat.reduceAdd, atI_0, atI_1, atI_2, set_0, set_2, call_W2, call_W1, call_W0, call_W3, call_L0, call_L1, call_L2, callNone, Option.some.injEq]
  simpa using h
def w__law_is_turn : WF
  | [.tuple [.int a, .int b]], k => (T a b ∧ sz 700 b) ∧ k (.d (.bool true))
  | _, _ => False
theorem m__law_is_turn : w__law_is_turn.Mono := by
  intro xs k k' h q
  unfold w__law_is_turn at q ⊢
  split <;> simp_all
def sp__law_is_turn : ASp := spW w__law_is_turn m__law_is_turn
def b__law_is_turn : Ss := (.cons (.ite (.or (.not (.inst (.var 0) [.tuple])) (.or (.cmp .ne (.bi .len (.cons (.var 0) .nil)) (.int 2)) (.or (.not (.call "_law_whole" sp__law_whole (.cons (.ix (.var 0) (.int 0)) .nil))) (.not (.call "_law_whole" sp__law_whole (.cons (.ix (.var 0) (.int 1)) .nil)))))) (.cons (.ret (.bool false))
  .nil) .nil)
  (.cons (.ret (.and (.chain .le .lt (.int 0) (.ix (.var 0) (.int 0)) (.ix (.var 0) (.int 1))) (.cmp .eq (.call "_law_common" sp__law_common (.cons (.ix (.var 0) (.int 0)) (.cons (.ix (.var 0) (.int 1)) .nil))) (.int 1))))
  .nil))
theorem p__law_is_turn : Body 1 1 [] b__law_is_turn sp__law_is_turn := by
  refine body_W (fun xs k h => ?_) fun xs k h => ?_
  · unfold w__law_is_turn at h; split at h <;> simp_all
  unfold w__law_is_turn at h
  split at h
  case h_2 => exact h.elim
  rename_i a b
  obtain ⟨⟨⟨h1, h2, h3⟩, h4⟩, h⟩ := h
  unfold b__law_is_turn
  simp only [wSs, wS, wEs, wE, wIt, getE, setE, rdsK, rdK, biK, datasK, dataK, setMany, cmpK, binK, truthK, truth, ixK, initE, tgK, seqK, lstK, retK, isTy, tyOf, endL, List.map_cons, List.map_nil, List.length_cons, List.length_nil, List.cons_append, List.nil_append, List.replicate, List.replicate_zero, List.append_nil, Nat.reduceSub, Nat.reduceAdd, atI_0, atI_1, atI_2, set_0, set_2, call_W2, call_W1, call_W0, call_W3, call_L0, call_L1, call_L2, callNone, Option.some.injEq, sp__law_whole, w__law_whole, sp__law_common, w__law_common, h3]
  simp [PyData.eqv, shp_int, h1, h2, h4]
  exact h
end K26

set_option maxRecDepth 100000
set_option maxHeartbeats 1000000
namespace K26
open PySem PF
theorem frac_T {u v : Int} (h0 : 0 ≤ u) (h1 : u < v) : T (u / Int.gcd u v) (v / Int.gcd u v) := by
  have hv : 0 < v := by omega
  obtain ⟨g, a, b, gp, gd, ha, hb, ea, eb, bp, co⟩ := frac_g (u := u) hv
  rw [ea, eb]
  refine ⟨?_, ?_, co⟩
  · rw [← ea]; exact Int.ediv_nonneg h0 (by omega)
  · have : a * g < b * g := by rw [← ha, ← hb]; exact h1
    exact Int.lt_of_mul_lt_mul_right this (by omega)
def w__law_drawn_turn : LF := fun l xs k => ∃ n : Nat, xs = [] ∧ Urn n l ∧ n < 100000000 ∧ ∀ a b l', T a b → sz 300 b → Urn (n + 3) l' → k (.d (tn a b)) l'
theorem m__law_drawn_turn : w__law_drawn_turn.Mono := fun l xs k k' h ⟨n, h1, h2, h3, h4⟩ => ⟨n, h1, h2, h3, fun a b l' x y z => h _ _ (h4 a b l' x y z)⟩
def sp__law_drawn_turn : ASp := spL w__law_drawn_turn m__law_drawn_turn
def b__law_drawn_turn_2 : Ss := (.cons (.ret (.call "_law_fraction" sp__law_fraction (.cons (.call "_law_pick" sp__law_pick (.cons (.var 0) (.cons (.var 1) .nil))) (.cons (.var 1) .nil)))) .nil)
def b__law_drawn_turn : Ss := (.cons (.asgF 1 (.bin .add (.int 1) (.call "_law_pick" sp__law_pick (.cons (.var 0) (.cons (.ix (.lst (.cons (.int 60) (.cons (.int 60) (.cons (.int 2) (.cons (.bin .pow (.int 10) (.int 4)) (.cons (.bin .pow (.int 10) (.int 30)) (.cons (.bin .mul (.bin .pow (.int 10) (.int 45)) (.bin .pow (.int 10) (.int 44))) .nil))))))) (.call "_law_pick" sp__law_pick (.cons (.var 0) (.cons (.int 6) .nil)))) .nil))))) b__law_drawn_turn_2)
def oneOf (L : List Int) (i : Int) : Int := (L[i.toNat]?).getD 0
theorem atI_ints {L : List Int} {i : Int} (h0 : 0 ≤ i) (h1 : i < L.length) : L2.atI (L.map PyData.int) i = some (.int (oneOf L i)) := by
  rw [atI_lt h0 (by rw [List.length_map]; exact h1), List.getElem?_map]
  unfold oneOf
  rw [List.getElem?_eq_getElem (by omega)]
  rfl
theorem oneOf_mem {L : List Int} {i : Int} (h0 : 0 ≤ i) (h1 : i < L.length) : oneOf L i ∈ L := by
  unfold oneOf
  rw [List.getElem?_eq_getElem (by omega)]
  exact List.getElem_mem _
theorem p89 : (10 : Int) ^ Int.toNat 45 * 10 ^ Int.toNat 44 = 100000000000000000000000000000000000000000000000000000000000000000000000000000000000000000 := by decide +kernel
theorem mk89 : mulOk (10 ^ Int.toNat 45) (10 ^ Int.toNat 44) := by unfold mulOk; decide +kernel
theorem draw6 {x : Int} (h : x ∈ ([60, 60, 2, 10 ^ Int.toNat 4, 10 ^ Int.toNat 30, 10 ^ Int.toNat 45 * 10 ^ Int.toNat 44] : List Int)) : 0 < x ∧ sz 299 x := by
  unfold sz
  simp only [List.mem_cons, List.not_mem_nil, or_false] at h
  rcases h with rfl | rfl | rfl | rfl | rfl | rfl <;> decide +kernel
theorem p__law_drawn_turn : Body 1 2 [0] b__law_drawn_turn sp__law_drawn_turn := by
  refine body_L (fun l xs k h => ?_) fun l xs k h => ?_
  · obtain ⟨n, rfl, _⟩ := h; rfl
  obtain ⟨n, rfl, hU, hn, h⟩ := h
  unfold b__law_drawn_turn
  simp only [wSs, wS, wEs, wE, wIt, getE, setE, rdsK, rdK, biK, datasK, dataK, setMany, cmpK, binK, truthK, truth, ixK, initE, tgK, seqK, lstK, retK, isTy, tyOf, endL, List.map_cons, List.map_nil, List.length_cons, List.length_nil, List.cons_append, List.nil_append, List.replicate, List.replicate_zero, List.append_nil, Nat.reduceSub, Nat.reduceAdd, atI_0, atI_1, atI_2, set_0, set_2, call_W2, call_W1, call_W0, call_W3, call_L0, call_L1, call_L2, callNone, Option.some.injEq, sp__law_pick]
  refine ⟨s10.pow (by decide) (by decide), s10.pow (by decide) (by decide), s10.pow (by decide) (by decide), s10.pow (by decide) (by decide), mk89, n, 6, rfl, hU, by omega, by decide, by unfold sz; decide +kernel, fun i l1 i0 i1 U1 => ?_⟩
  have e := atI_ints (L := [60, 60, 2, 10 ^ Int.toNat 4, 10 ^ Int.toNat 30, 10 ^ Int.toNat 45 * 10 ^ Int.toNat 44]) i0 i1
  have d := draw6 (oneOf_mem (L := [60, 60, 2, 10 ^ Int.toNat 4, 10 ^ Int.toNat 30, 10 ^ Int.toNat 45 * 10 ^ Int.toNat 44]) i0 i1)
  simp only [List.map_cons, List.map_nil] at e
  simp only [e, wSs, wS, wEs, wE, wIt, getE, setE, rdsK, rdK, biK, datasK, dataK, setMany, cmpK, binK, truthK, truth, ixK, initE, tgK, seqK, lstK, retK, isTy, tyOf, endL, List.map_cons, List.map_nil, List.length_cons, List.length_nil, List.cons_append, List.nil_append, List.replicate, List.replicate_zero, List.append_nil, Nat.reduceSub, Nat.reduceAdd, atI_0, atI_1, atI_2, set_0, set_2, call_W2, call_W1, call_W0, call_W3, call_L0, call_L1, call_L2, callNone, Option.some.injEq]
  generalize oneOf _ i = m at d
  refine ⟨n + 1, m, rfl, U1, by omega, d.1, d.2.mono (by decide), fun r l2 r0 r1 U2 => ?_⟩
  simp only [b__law_drawn_turn_2, wSs, wS, wEs, wE, wIt, getE, setE, rdsK, rdK, biK, datasK, dataK, setMany, cmpK, binK, truthK, truth, ixK, initE, tgK, seqK, lstK, retK, isTy, tyOf, endL, List.map_cons, List.map_nil, List.length_cons, List.length_nil, List.cons_append, List.nil_append, List.replicate, List.replicate_zero, List.append_nil, Nat.reduceSub, Nat.reduceAdd, atI_0, atI_1, atI_2, set_0, set_2, call_W2, call_W1, call_W0, call_W3, call_L0, call_L1, call_L2, callNone, Option.some.injEq, sp__law_pick, sp__law_fraction]
  have s1 : sz 300 (1 + r) := by
    refine sz.le (y := m + 1) (d.2.add (sz.mono (n := 1) (by unfold sz; decide) (by decide))) (by omega) (by omega)
  refine ⟨n + 2, 1 + r, rfl, U2, by omega, by omega, s1.mono (by decide), fun u l3 u0 u1 U3 => ?_⟩
  simp only [wSs, wS, wEs, wE, wIt, getE, setE, rdsK, rdK, biK, datasK, dataK, setMany, cmpK, binK, truthK, truth, ixK, initE, tgK, seqK, lstK, retK, isTy, tyOf, endL, List.map_cons, List.map_nil, List.length_cons, List.length_nil, List.cons_append, List.nil_append, List.replicate, List.replicate_zero, List.append_nil, Nat.reduceSub, Nat.reduceAdd, atI_0, atI_1, atI_2, set_0, set_2, call_W2, call_W1, call_W0, call_W3, call_L0, call_L1, call_L2, callNone, Option.some.injEq, w__law_fraction]
  refine ⟨⟨u0, u1, s1.mono (by decide)⟩, ?_⟩
  have hv : 0 < 1 + r := by omega
  exact h _ _ _ (frac_T u0 u1) (s1.le (Int.le_of_lt (quo_pos hv)) (cut_le u0 hv).2.2) U3
def w__law_far : LF := fun l xs k => ∃ n : Nat, xs = [] ∧ Urn n l ∧ n < 100000000 ∧ ∀ x l', sz 299 x → Urn (n + 3) l' → k (.d (.int x)) l'
theorem m__law_far : w__law_far.Mono := fun l xs k k' h ⟨n, h1, h2, h3, h4⟩ => ⟨n, h1, h2, h3, fun x l' y z => h _ _ (h4 x l' y z)⟩
def sp__law_far : ASp := spL w__law_far m__law_far
def b__law_far : Ss := (.cons (.ret (.bin .mul (.call "_law_pick" sp__law_pick (.cons (.var 0) (.cons (.ix (.lst (.cons (.int 100) (.cons (.bin .pow (.int 10) (.int 30)) (.cons (.bin .mul (.bin .pow (.int 10) (.int 45)) (.bin .pow (.int 10) (.int 44))) .nil)))) (.call "_law_pick" sp__law_pick (.cons (.var 0) (.cons (.int 3) .nil)))) .nil))) (.ix (.lst (.cons (.int 1) (.cons (.int 1) (.cons (.neg (.int 1)) .nil)))) (.call "_law_pick" sp__law_pick (.cons (.var 0) (.cons (.int 3) .nil))))))
  .nil)
theorem far3 {x : Int} (h : x ∈ ([100, 10 ^ Int.toNat 30, 10 ^ Int.toNat 45 * 10 ^ Int.toNat 44] : List Int)) : 0 < x ∧ sz 298 x := by
  unfold sz
  simp only [List.mem_cons, List.not_mem_nil, or_false] at h
  rcases h with rfl | rfl | rfl <;> decide +kernel
theorem sgn3 {x : Int} (h : x ∈ ([1, 1, -1] : List Int)) : sz 1 x := by
  unfold sz
  simp only [List.mem_cons, List.not_mem_nil, or_false] at h
  rcases h with rfl | rfl | rfl <;> decide
theorem p__law_far : Body 1 1 [0] b__law_far sp__law_far := by
  refine body_L (fun l xs k h => ?_) fun l xs k h => ?_
  · obtain ⟨n, rfl, _⟩ := h; rfl
  obtain ⟨n, rfl, hU, hn, h⟩ := h
  unfold b__law_far
  simp only [wSs, wS, wEs, wE, wIt, getE, setE, rdsK, rdK, biK, datasK, dataK, setMany, cmpK, binK, truthK, truth, ixK, initE, tgK, seqK, lstK, retK, isTy, tyOf, endL, List.map_cons, List.map_nil, List.length_cons, List.length_nil, List.cons_append, List.nil_append, List.replicate, List.replicate_zero, List.append_nil, Nat.reduceSub, Nat.reduceAdd, atI_0, atI_1, atI_2, set_0, set_2, call_W2, call_W1, call_W0, call_W3, call_L0, call_L1, call_L2, callNone, Option.some.injEq, sp__law_pick]
  refine ⟨s10.pow (by decide) (by decide), s10.pow (by decide) (by decide), s10.pow (by decide) (by decide), mk89, n, 3, rfl, hU, by omega, by decide, by unfold sz; decide +kernel, fun i l1 i0 i1 U1 => ?_⟩
  have e := atI_ints (L := [100, 10 ^ Int.toNat 30, 10 ^ Int.toNat 45 * 10 ^ Int.toNat 44]) i0 i1
  have d := far3 (oneOf_mem (L := [100, 10 ^ Int.toNat 30, 10 ^ Int.toNat 45 * 10 ^ Int.toNat 44]) i0 i1)
  simp only [List.map_cons, List.map_nil] at e
  simp only [e, wSs, wS, wEs, wE, wIt, getE, setE, rdsK, rdK, biK, datasK, dataK, setMany, cmpK, binK, truthK, truth, ixK, initE, tgK, seqK, lstK, retK, isTy, tyOf, endL, List.map_cons, List.map_nil, List.length_cons, List.length_nil, List.cons_append, List.nil_append, List.replicate, List.replicate_zero, List.append_nil, Nat.reduceSub, Nat.reduceAdd, atI_0, atI_1, atI_2, set_0, set_2, call_W2, call_W1, call_W0, call_W3, call_L0, call_L1, call_L2, callNone, Option.some.injEq]
  generalize oneOf _ i = m at d
  refine ⟨n + 1, m, rfl, U1, by omega, d.1, d.2.mono (by decide), fun r l2 r0 r1 U2 => ?_⟩
  simp only [wSs, wS, wEs, wE, wIt, getE, setE, rdsK, rdK, biK, datasK, dataK, setMany, cmpK, binK, truthK, truth, ixK, initE, tgK, seqK, lstK, retK, isTy, tyOf, endL, List.map_cons, List.map_nil, List.length_cons, List.length_nil, List.cons_append, List.nil_append, List.replicate, List.replicate_zero, List.append_nil, Nat.reduceSub, Nat.reduceAdd, atI_0, atI_1, atI_2, set_0, set_2, call_W2, call_W1, call_W0, call_W3, call_L0, call_L1, call_L2, callNone, Option.some.injEq]
  refine ⟨n + 2, 3, rfl, U2, by omega, by decide, by unfold sz; decide +kernel, fun j l3 j0 j1 U3 => ?_⟩
  have e := atI_ints (L := [1, 1, -1]) j0 j1
  have d3 := sgn3 (oneOf_mem (L := [1, 1, -1]) j0 j1)
  simp only [List.map_cons, List.map_nil] at e
  simp only [e, wSs, wS, wEs, wE, wIt, getE, setE, rdsK, rdK, biK, datasK, dataK, setMany, cmpK, binK, truthK, truth, ixK, initE, tgK, seqK, lstK, retK, isTy, tyOf, endL, List.map_cons, List.map_nil, List.length_cons, List.length_nil, List.cons_append, List.nil_append, List.replicate, List.replicate_zero, List.append_nil, Nat.reduceSub, Nat.reduceAdd, atI_0, atI_1, atI_2, set_0, set_2, call_W2, call_W1, call_W0, call_W3, call_L0, call_L1, call_L2, callNone, Option.some.injEq]
  generalize oneOf _ j = q at d3
  have sr : sz 298 r := d.2.le r0 (by omega)
  exact ⟨sr.mulOk d3 (by decide), h _ _ (sr.mul d3) U3⟩
def w__law_is_left : WF
  | [.tuple [.int a, .int b], .int u, .int v], k => (T a b ∧ sz 700 b ∧ 0 < v ∧ sz 700 v ∧ sz 2000 u ∧ Cg a b u v) ∧ k (.d (.bool true))
  | _, _ => False
theorem m__law_is_left : w__law_is_left.Mono := by
  intro xs k k' h q
  unfold w__law_is_left at q ⊢
  split <;> simp_all
def sp__law_is_left : ASp := spW w__law_is_left m__law_is_left
def b__law_is_left : Ss := (.cons (.ret (.and (.call "_law_is_turn" sp__law_is_turn (.cons (.var 0) .nil)) (.cmp .eq (.bin .mod (.bi .int (.cons (.bin .sub (.bin .mul (.var 1) (.ix (.var 0) (.int 1))) (.bin .mul (.ix (.var 0) (.int 0)) (.var 2))) .nil)) (.bin .mul (.var 2) (.ix (.var 0) (.int 1)))) (.int 0))))
  .nil)
theorem p__law_is_left : Body 3 3 [] b__law_is_left sp__law_is_left := by
  refine body_W (fun xs k h => ?_) fun xs k h => ?_
  · unfold w__law_is_left at h; split at h <;> simp_all
  unfold w__law_is_left at h
  split at h
  case h_2 => exact h.elim
  rename_i a b u v
  obtain ⟨⟨h1, h2, h3, h4, h5, h6⟩, h⟩ := h
  have bp := h1.pos
  have sa : sz 700 a := h2.le h1.1 (Int.le_of_lt h1.2.1)
  unfold b__law_is_left
  simp only [wSs, wS, wEs, wE, wIt, getE, setE, rdsK, rdK, biK, datasK, dataK, setMany, cmpK, binK, truthK, truth, ixK, initE, tgK, seqK, lstK, retK, isTy, tyOf, endL, List.map_cons, List.map_nil, List.length_cons, List.length_nil, List.cons_append, List.nil_append, List.replicate, List.replicate_zero, List.append_nil, Nat.reduceSub, Nat.reduceAdd, atI_0, atI_1, atI_2, set_0, set_2, call_W2, call_W1, call_W0, call_W3, call_L0, call_L1, call_L2, callNone, Option.some.injEq, sp__law_is_turn, w__law_is_turn, if_true]
  have pp : 0 < v * b := Int.mul_pos h3 bp
  refine ⟨⟨h1, h2⟩, h5.mulOk h2 (by decide), sa.mulOk h4 (by decide), h4.mulOk h2 (by decide), by omega, rfl, rfl, ?_⟩
  rw [fmod_p pp]
  have e : (u * b - a * v) % (v * b) = 0 := by
    obtain ⟨q, h6⟩ := h6
    have : u * b - a * v = (v * b) * (-q) := by grind
    rw [this]
    exact Int.mul_emod_right _ _
  rw [e]
  simpa [PyData.eqv] using h
end K26

set_option maxRecDepth 100000
set_option maxHeartbeats 1000000
namespace K26
open PySem PF
theorem nrmD_get {u v : Int} (hv : 0 < v) : ∃ p q, nrmD u v = .tuple [.int p, .int q] ∧ T p q ∧ Cg p q u v ∧ q ≤ v := ⟨_, _, rfl, nrm_T hv, nrm_Cg hv, nrm_le hv⟩
theorem nrmD_eq {u v a b : Int} (hv : 0 < v) (t : T a b) (h : Cg a b u v) : nrmD u v = .tuple [.int a, .int b] := by
  unfold nrmD tn
  rw [nrm_eq hv t h]
theorem eqv_tn {a b : Int} : PyData.eqv (.tuple [.int a, .int b]) (.tuple [.int a, .int b]) = true := by simp [PyData.eqv, PyData.eqvAll]
theorem shp_tn {a b : Int} : SeqAt.shaped (.tuple [.int a, .int b]) = true := rfl
theorem ro_a {x y : AV} : reorder ["turn", "other_turn"] ["other_turn", "turn"] [x, y] = some [y, x] := rfl
theorem ro_t {x y : AV} : reorder ["turn", "factor"] ["factor", "turn"] [x, y] = some [y, x] := rfl
theorem ro_p {x : AV} : reorder ["turn"] ["turn"] [x] = some [x] := rfl
theorem ro_o {x y : AV} : reorder ["top", "bottom"] ["bottom", "top"] [x, y] = some [y, x] := rfl
theorem T01 : T 0 1 := ⟨by decide, by decide, by decide⟩
theorem T.sa {a b : Int} {n : Nat} (h : T a b) (s : sz n b) : sz n a := s.le h.1 (Int.le_of_lt h.2.1)
theorem rangeL_succ {i m : Int} (h : i < m) : rangeL i m = .int i :: rangeL (i + 1) m := by
  unfold rangeL
  rw [show (m - i).toNat = (m - (i + 1)).toNat + 1 by omega, List.range_succ_eq_map, List.map_cons, List.map_map]
  refine congr (congrArg _ ?_) ?_
  · simp
  · refine List.map_congr_left fun j _ => ?_
    simp only [Function.comp]
    congr 1
    omega
theorem range_cons {i m : Int} {x : PyData} {xs : List PyData} (h : x :: xs = rangeL i m) : x = .int i ∧ xs = rangeL (i + 1) m ∧ i < m := by
  by_cases hl : i < m
  · rw [rangeL_succ hl] at h
    cases h
    exact ⟨rfl, rfl, hl⟩
  · unfold rangeL at h
    rw [show (m - i).toNat = 0 by omega] at h
    cases h
def w__law_sums_right : LF := fun l xs k => ∃ (n : Nat) (a b c d : Int), xs = [.tuple [.int a, .int b], .tuple [.int c, .int d]] ∧ Urn n l ∧ n < 10000000 ∧ (T a b ∧ sz 300 b) ∧ (T c d ∧ sz 300 d) ∧ ∀ l', k (.d (.bool true)) l'
theorem m__law_sums_right : w__law_sums_right.Mono := fun l xs k k' h ⟨n, a, b, c, d, h1, h2, h3, h4, h5, h6⟩ => ⟨n, a, b, c, d, h1, h2, h3, h4, h5, fun l' => h _ _ (h6 l')⟩
def sp__law_sums_right : ASp := spL w__law_sums_right m__law_sums_right
def lb__law_sums_right_1 : Ss := (.cons (.ite (.cmp .ne (.call "times" sp_times (.cons (.var 1) (.cons (.var 7) .nil))) (.var 6)) (.cons (.ret (.bool false))
  .nil) .nil)
  (.cons (.asgF 6 (.call "added" sp_added (.cons (.var 6) (.cons (.var 1) .nil))))
  .nil))
def b__law_sums_right_12 : Ss := (.cons (.ret (.cmp .eq (.call "times" sp_times (.cons (.var 1) (.cons (.neg (.int 1)) .nil))) (.call "taken" sp_taken (.cons (.tup (.cons (.int 0) (.cons (.int 1) .nil))) (.cons (.var 1) .nil))))) .nil)
def b__law_sums_right_11 : Ss := (.cons (.forS (.nm 7) (.range1 (.call "_law_pick" sp__law_pick (.cons (.var 0) (.cons (.int 7) .nil)))) lb__law_sums_right_1) b__law_sums_right_12)
def b__law_sums_right_10 : Ss := (.cons (.asgF 6 (.tup (.cons (.int 0) (.cons (.int 1) .nil)))) b__law_sums_right_11)
def b__law_sums_right_9 : Ss := (.cons (.ite (.or (.not (.call "_law_is_left" sp__law_is_left (.cons (.call "times" sp_times (.cons (.var 1) (.cons (.var 5) .nil))) (.cons (.bin .mul (.ix (.var 1) (.int 0)) (.var 5)) (.cons (.ix (.var 1) (.int 1)) .nil))))) (.cmp .ne (.callK "times" sp_times ["turn", "factor"] ["factor", "turn"] (.cons (.int 1) (.cons (.var 1) .nil))) (.var 1))) (.cons (.ret (.bool false))
  .nil) .nil) b__law_sums_right_10)
def b__law_sums_right_8 : Ss := (.cons (.asgF 5 (.call "_law_far" sp__law_far (.cons (.var 0) .nil))) b__law_sums_right_9)
def b__law_sums_right_7 : Ss := (.cons (.ite (.or (.cmp .ne (.callK "taken" sp_taken ["turn", "other_turn"] ["other_turn", "turn"] (.cons (.var 2) (.cons (.var 1) .nil))) (.var 4)) (.cmp .ne (.call "added" sp_added (.cons (.var 4) (.cons (.var 2) .nil))) (.var 1))) (.cons (.ret (.bool false))
  .nil) .nil) b__law_sums_right_8)
def b__law_sums_right_6 : Ss := (.cons (.ite (.not (.call "_law_is_left" sp__law_is_left (.cons (.var 4) (.cons (.bin .sub (.bin .mul (.ix (.var 1) (.int 0)) (.ix (.var 2) (.int 1))) (.bin .mul (.ix (.var 2) (.int 0)) (.ix (.var 1) (.int 1)))) (.cons (.bin .mul (.ix (.var 1) (.int 1)) (.ix (.var 2) (.int 1))) .nil))))) (.cons (.ret (.bool false))
  .nil) .nil) b__law_sums_right_7)
def b__law_sums_right_5 : Ss := (.cons (.asgF 4 (.call "taken" sp_taken (.cons (.var 1) (.cons (.var 2) .nil)))) b__law_sums_right_6)
def b__law_sums_right_4 : Ss := (.cons (.ite (.or (.cmp .ne (.callK "added" sp_added ["turn", "other_turn"] ["other_turn", "turn"] (.cons (.var 1) (.cons (.var 2) .nil))) (.var 3)) (.cmp .ne (.callK "taken" sp_taken ["turn", "other_turn"] ["other_turn", "turn"] (.cons (.var 3) (.cons (.var 3) .nil))) (.tup (.cons (.int 0) (.cons (.int 1) .nil))))) (.cons (.ret (.bool false))
  .nil) .nil) b__law_sums_right_5)
def b__law_sums_right_3 : Ss := (.cons (.ite (.cmp .ne (.call "taken" sp_taken (.cons (.var 3) (.cons (.var 2) .nil))) (.var 1)) (.cons (.ret (.bool false))
  .nil) .nil) b__law_sums_right_4)
def b__law_sums_right_2 : Ss := (.cons (.ite (.not (.call "_law_is_left" sp__law_is_left (.cons (.var 3) (.cons (.bin .add (.bin .mul (.ix (.var 1) (.int 0)) (.ix (.var 2) (.int 1))) (.bin .mul (.ix (.var 2) (.int 0)) (.ix (.var 1) (.int 1)))) (.cons (.bin .mul (.ix (.var 1) (.int 1)) (.ix (.var 2) (.int 1))) .nil))))) (.cons (.ret (.bool false))
  .nil) .nil) b__law_sums_right_3)
def b__law_sums_right : Ss := (.cons (.asgF 3 (.call "added" sp_added (.cons (.var 1) (.cons (.var 2) .nil)))) b__law_sums_right_2)
theorem p__law_sums_right : Body 3 8 [0] b__law_sums_right sp__law_sums_right := by
  refine body_L (fun l xs k h => ?_) fun l xs k h => ?_
  · obtain ⟨n, a, b, c, d, rfl, _⟩ := h; rfl
  obtain ⟨n, a, b, c, d, rfl, hU, hn, ⟨ta, sb⟩, ⟨tc, sd⟩, h⟩ := h
  have bp := ta.pos
  have dp := tc.pos
  have sa := ta.sa sb
  have sc := tc.sa sd
  have bd := Int.mul_pos bp dp
  have S2 : ∀ {z : Int}, sz 300 z → sz 2000 z := fun z => z.mono (by decide)
  unfold b__law_sums_right
  generalize ht : b__law_sums_right_2 = tt
  simp only [initE, List.map_cons, List.map_nil, List.length_cons, List.length_nil, Nat.reduceAdd, Nat.reduceSub, List.replicate, List.cons_append, List.nil_append]
  simp only [wSs, wS, wEs, wE, wIt, getE, setE, rdsK, rdK, biK, datasK, dataK, setMany, cmpK, binK, truthK, truth, ixK, initE, tgK, seqK, lstK, retK, isTy, tyOf, endL, List.map_cons, List.map_nil, List.length_cons, List.length_nil, List.cons_append, List.nil_append, List.replicate, List.replicate_zero, List.append_nil, Nat.reduceSub, Nat.reduceAdd, atI_0, atI_1, atI_2, set_0, set_2, call_W2, call_W1, call_W0, call_W3, call_L0, call_L1, call_L2, callNone, Option.some.injEq, sp_added, w_added]
  refine ⟨⟨⟨ta, S2 sb⟩, tc, S2 sd⟩, ?_⟩
  obtain ⟨p, q, e1, t1, c1, l1⟩ := nrmD_get (u := a * d + c * b) bd
  have qp := t1.pos
  have sq : sz 600 q := (sb.mul sd).le (by omega) l1
  have sq2 : sz 2000 q := sq.mono (by decide)
  have qd := Int.mul_pos qp dp
  have qq := Int.mul_pos qp qp
  rw [e1]
  subst ht
  unfold b__law_sums_right_2
  generalize ht : b__law_sums_right_3 = tt
  simp only [wSs, wS, wEs, wE, wIt, getE, setE, rdsK, rdK, biK, datasK, dataK, setMany, cmpK, binK, truthK, truth, ixK, initE, tgK, seqK, lstK, retK, isTy, tyOf, endL, List.map_cons, List.map_nil, List.length_cons, List.length_nil, List.cons_append, List.nil_append, List.replicate, List.replicate_zero, List.append_nil, Nat.reduceSub, Nat.reduceAdd, atI_0, atI_1, atI_2, set_0, set_2, call_W2, call_W1, call_W0, call_W3, call_L0, call_L1, call_L2, callNone, Option.some.injEq, sp__law_is_left, w__law_is_left, Bool.not_true, Bool.false_eq_true, if_false]
  refine ⟨sa.mulOk sd (by decide), sc.mulOk sb (by decide), sb.mulOk sd (by decide), ⟨t1, sq.mono (by decide), bd, (sb.mul sd).mono (by decide), ((sa.mul sd).add (sc.mul sb)).mono (by decide), c1⟩, ?_⟩
  subst ht
  unfold b__law_sums_right_3
  generalize ht : b__law_sums_right_4 = tt
  simp only [wSs, wS, wEs, wE, wIt, getE, setE, rdsK, rdK, biK, datasK, dataK, setMany, cmpK, binK, truthK, truth, ixK, initE, tgK, seqK, lstK, retK, isTy, tyOf, endL, List.map_cons, List.map_nil, List.length_cons, List.length_nil, List.cons_append, List.nil_append, List.replicate, List.replicate_zero, List.append_nil, Nat.reduceSub, Nat.reduceAdd, atI_0, atI_1, atI_2, set_0, set_2, call_W2, call_W1, call_W0, call_W3, call_L0, call_L1, call_L2, callNone, Option.some.injEq, sp_taken, w_taken]
  have e2 : nrmD (p * d - c * q) (q * d) = .tuple [.int a, .int b] := by
    refine nrmD_eq qd ta ?_
    obtain ⟨z, c1⟩ := c1
    refine ⟨-z, ?_⟩
    have : b * d * (a * (q * d) - (p * d - c * q) * b) = b * d * (-z * (b * (q * d))) := by grind
    exact Int.eq_of_mul_eq_mul_left (by omega) this
  rw [e2]
  refine ⟨⟨⟨t1, sq2⟩, tc, S2 sd⟩, shp_tn, shp_tn, ?_⟩
  simp only [eqv_tn, Bool.not_true, Bool.false_eq_true, if_false]
  subst ht
  unfold b__law_sums_right_4
  generalize ht : b__law_sums_right_5 = tt
  simp only [wSs, wS, wEs, wE, wIt, getE, setE, rdsK, rdK, biK, datasK, dataK, setMany, cmpK, binK, truthK, truth, ixK, initE, tgK, seqK, lstK, retK, isTy, tyOf, endL, List.map_cons, List.map_nil, List.length_cons, List.length_nil, List.cons_append, List.nil_append, List.replicate, List.replicate_zero, List.append_nil, Nat.reduceSub, Nat.reduceAdd, atI_0, atI_1, atI_2, set_0, set_2, call_W2, call_W1, call_W0, call_W3, call_L0, call_L1, call_L2, callNone, Option.some.injEq, ro_a, sp_taken, w_taken, sp_added, w_added]
  have e3 : nrmD (c * b + a * d) (d * b) = .tuple [.int p, .int q] := by rw [← e1, Int.add_comm, Int.mul_comm d b]
  have e4 : nrmD (p * q - p * q) (q * q) = .tuple [.int 0, .int 1] := nrmD_eq qq T01 ⟨0, by grind⟩
  rw [e3, e4]
  refine ⟨⟨⟨tc, S2 sd⟩, ta, S2 sb⟩, shp_tn, shp_tn, ?_⟩
  simp only [eqv_tn, Bool.not_true, Bool.false_eq_true, if_false]
  refine ⟨⟨⟨t1, sq2⟩, t1, sq2⟩, shp_tn, shp_tn, ?_⟩
  subst ht
  unfold b__law_sums_right_5
  generalize ht : b__law_sums_right_6 = tt
  simp only [wSs, wS, wEs, wE, wIt, getE, setE, rdsK, rdK, biK, datasK, dataK, setMany, cmpK, binK, truthK, truth, ixK, initE, tgK, seqK, lstK, retK, isTy, tyOf, endL, List.map_cons, List.map_nil, List.length_cons, List.length_nil, List.cons_append, List.nil_append, List.replicate, List.replicate_zero, List.append_nil, Nat.reduceSub, Nat.reduceAdd, atI_0, atI_1, atI_2, set_0, set_2, call_W2, call_W1, call_W0, call_W3, call_L0, call_L1, call_L2, callNone, Option.some.injEq, sp_taken, w_taken]
  refine ⟨⟨⟨ta, S2 sb⟩, tc, S2 sd⟩, ?_⟩
  obtain ⟨r, s, e5, t5, c5, l5⟩ := nrmD_get (u := a * d - c * b) bd
  have ss : sz 600 s := (sb.mul sd).le (by have := t5.pos; omega) l5
  have sp := t5.pos
  have sD := Int.mul_pos sp dp
  rw [e5]
  subst ht
  unfold b__law_sums_right_6
  generalize ht : b__law_sums_right_7 = tt
  simp only [wSs, wS, wEs, wE, wIt, getE, setE, rdsK, rdK, biK, datasK, dataK, setMany, cmpK, binK, truthK, truth, ixK, initE, tgK, seqK, lstK, retK, isTy, tyOf, endL, List.map_cons, List.map_nil, List.length_cons, List.length_nil, List.cons_append, List.nil_append, List.replicate, List.replicate_zero, List.append_nil, Nat.reduceSub, Nat.reduceAdd, atI_0, atI_1, atI_2, set_0, set_2, call_W2, call_W1, call_W0, call_W3, call_L0, call_L1, call_L2, callNone, Option.some.injEq, sp__law_is_left, w__law_is_left, Bool.not_true, Bool.false_eq_true, if_false]
  refine ⟨sa.mulOk sd (by decide), sc.mulOk sb (by decide), sb.mulOk sd (by decide), ⟨t5, ss.mono (by decide), bd, (sb.mul sd).mono (by decide), ((sa.mul sd).sub (sc.mul sb)).mono (by decide), c5⟩, ?_⟩
  subst ht
  unfold b__law_sums_right_7
  generalize ht : b__law_sums_right_8 = tt
  simp only [wSs, wS, wEs, wE, wIt, getE, setE, rdsK, rdK, biK, datasK, dataK, setMany, cmpK, binK, truthK, truth, ixK, initE, tgK, seqK, lstK, retK, isTy, tyOf, endL, List.map_cons, List.map_nil, List.length_cons, List.length_nil, List.cons_append, List.nil_append, List.replicate, List.replicate_zero, List.append_nil, Nat.reduceSub, Nat.reduceAdd, atI_0, atI_1, atI_2, set_0, set_2, call_W2, call_W1, call_W0, call_W3, call_L0, call_L1, call_L2, callNone, Option.some.injEq, ro_a, sp_taken, w_taken, sp_added, w_added]
  have e6 : nrmD (r * d + c * s) (s * d) = .tuple [.int a, .int b] := by
    refine nrmD_eq sD ta ?_
    obtain ⟨z, c5⟩ := c5
    refine ⟨-z, ?_⟩
    have : b * d * (a * (s * d) - (r * d + c * s) * b) = b * d * (-z * (b * (s * d))) := by grind
    exact Int.eq_of_mul_eq_mul_left (by omega) this
  rw [e5, e6]
  refine ⟨⟨⟨ta, S2 sb⟩, tc, S2 sd⟩, shp_tn, shp_tn, ?_⟩
  simp only [eqv_tn, Bool.not_true, Bool.false_eq_true, if_false]
  refine ⟨⟨⟨t5, ss.mono (by decide)⟩, tc, S2 sd⟩, shp_tn, shp_tn, ?_⟩
  subst ht
  unfold b__law_sums_right_8
  generalize ht : b__law_sums_right_9 = tt
  simp only [wSs, wS, wEs, wE, wIt, getE, setE, rdsK, rdK, biK, datasK, dataK, setMany, cmpK, binK, truthK, truth, ixK, initE, tgK, seqK, lstK, retK, isTy, tyOf, endL, List.map_cons, List.map_nil, List.length_cons, List.length_nil, List.cons_append, List.nil_append, List.replicate, List.replicate_zero, List.append_nil, Nat.reduceSub, Nat.reduceAdd, atI_0, atI_1, atI_2, set_0, set_2, call_W2, call_W1, call_W0, call_W3, call_L0, call_L1, call_L2, callNone, Option.some.injEq, sp__law_far]
  refine ⟨n, rfl, hU, by omega, fun x l1 sx0 U1 => ?_⟩
  have sx : sz 300 x := sx0.mono (by decide)
  subst ht
  unfold b__law_sums_right_9
  generalize ht : b__law_sums_right_10 = tt
  simp only [wSs, wS, wEs, wE, wIt, getE, setE, rdsK, rdK, biK, datasK, dataK, setMany, cmpK, binK, truthK, truth, ixK, initE, tgK, seqK, lstK, retK, isTy, tyOf, endL, List.map_cons, List.map_nil, List.length_cons, List.length_nil, List.cons_append, List.nil_append, List.replicate, List.replicate_zero, List.append_nil, Nat.reduceSub, Nat.reduceAdd, atI_0, atI_1, atI_2, set_0, set_2, call_W2, call_W1, call_W0, call_W3, call_L0, call_L1, call_L2, callNone, Option.some.injEq, ro_t, sp__law_is_left, sp_times, w_times]
  obtain ⟨f, g, e7, t7, c7, l7⟩ := nrmD_get (u := a * x) bp
  have e8 : nrmD (a * 1) b = .tuple [.int a, .int b] := nrmD_eq bp ta ⟨0, by grind⟩
  rw [e7, e8]
  simp only [w__law_is_left, wSs, wS, wEs, wE, wIt, getE, setE, rdsK, rdK, biK, datasK, dataK, setMany, cmpK, binK, truthK, truth, ixK, initE, tgK, seqK, lstK, retK, isTy, tyOf, endL, List.map_cons, List.map_nil, List.length_cons, List.length_nil, List.cons_append, List.nil_append, List.replicate, List.replicate_zero, List.append_nil, Nat.reduceSub, Nat.reduceAdd, atI_0, atI_1, atI_2, set_0, set_2, call_W2, call_W1, call_W0, call_W3, call_L0, call_L1, call_L2, callNone, Option.some.injEq]
  refine ⟨⟨⟨ta, S2 sb⟩, S2 sx⟩, sa.mulOk sx (by decide), ⟨t7, (sb.le (by have := t7.pos; omega) l7).mono (by decide), bp, sb.mono (by decide), (sa.mul sx).mono (by decide), c7⟩, ?_⟩
  simp only [Bool.not_true, Bool.false_eq_true, if_false]
  refine ⟨⟨⟨ta, S2 sb⟩, sz.mono (n := 1) (by unfold sz; decide) (by decide)⟩, shp_tn, shp_tn, ?_⟩
  simp only [eqv_tn, Bool.not_true, Bool.false_eq_true, if_false]
  subst ht
  unfold b__law_sums_right_10
  generalize ht : b__law_sums_right_11 = tt
  simp only [wSs, wS, wEs, wE, wIt, getE, setE, rdsK, rdK, biK, datasK, dataK, setMany, cmpK, binK, truthK, truth, ixK, initE, tgK, seqK, lstK, retK, isTy, tyOf, endL, List.map_cons, List.map_nil, List.length_cons, List.length_nil, List.cons_append, List.nil_append, List.replicate, List.replicate_zero, List.append_nil, Nat.reduceSub, Nat.reduceAdd, atI_0, atI_1, atI_2, set_0, set_2, call_W2, call_W1, call_W0, call_W3, call_L0, call_L1, call_L2, callNone, Option.some.injEq]
  subst ht
  unfold b__law_sums_right_11
  generalize ht : b__law_sums_right_12 = tt
  simp only [wSs, wS, wEs, wE, wIt, getE, setE, rdsK, rdK, biK, datasK, dataK, setMany, cmpK, binK, truthK, truth, ixK, initE, tgK, seqK, lstK, retK, isTy, tyOf, endL, List.map_cons, List.map_nil, List.length_cons, List.length_nil, List.cons_append, List.nil_append, List.replicate, List.replicate_zero, List.append_nil, Nat.reduceSub, Nat.reduceAdd, atI_0, atI_1, atI_2, set_0, set_2, call_W2, call_W1, call_W0, call_W3, call_L0, call_L1, call_L2, callNone, Option.some.injEq, sp__law_pick]
  refine ⟨n + 3, 7, rfl, U1, by omega, by decide, sz.mono (n := 3) (by unfold sz; decide) (by decide), fun m l2 m0 m1 U2 => ?_⟩
  simp only [rangeK]
  refine ⟨⟨by decide, by decide, by omega, by omega, by have : sizeLine = 16777216 := rfl; omega⟩, ?_⟩
  have e9 : nrmD (a * 0) b = .tuple [.int 0, .int 1] := nrmD_eq bp T01 ⟨0, by grind⟩
  rw [← e9]
  refine for_inv (fun xs env => ∃ (i : Int) (s7 : Option AV), xs = rangeL i m ∧ 0 ≤ i ∧ i ≤ m ∧ env = [some (.o l2), some (.d (.tuple [.int a, .int b])), some (.d (.tuple [.int c, .int d])), some (.d (.tuple [.int p, .int q])), some (.d (.tuple [.int r, .int s])), some (.d (.int x)), some (.d (nrmD (a * i) b)), s7]) (fun env D D' => body_mono env D D') ?_ ?_ ⟨0, _, rfl, by omega, m0, rfl⟩
  · rintro env ⟨i, s7, _, _, _, rfl⟩
    subst ht
    unfold b__law_sums_right_12
    simp only [wSs, wS, wEs, wE, wIt, getE, setE, rdsK, rdK, biK, datasK, dataK, setMany, cmpK, binK, truthK, truth, ixK, initE, tgK, seqK, lstK, retK, isTy, tyOf, endL, List.map_cons, List.map_nil, List.length_cons, List.length_nil, List.cons_append, List.nil_append, List.replicate, List.replicate_zero, List.append_nil, Nat.reduceSub, Nat.reduceAdd, atI_0, atI_1, atI_2, set_0, set_2, call_W2, call_W1, call_W0, call_W3, call_L0, call_L1, call_L2, callNone, Option.some.injEq, sp_times, w_times, sp_taken, w_taken]
    have e10 : nrmD (0 * b - a * 1) (1 * b) = nrmD (a * -1) b := by
      rw [show (0 : Int) * b - a * 1 = a * -1 by omega, Int.one_mul]
    rw [e10]
    obtain ⟨f, g, e11, _, _, _⟩ := nrmD_get (u := a * -1) bp
    rw [e11]
    refine ⟨⟨⟨ta, S2 sb⟩, sz.mono (n := 1) (by unfold sz; decide) (by decide)⟩, ⟨⟨T01, sz.mono (n := 1) (by unfold sz; decide) (by decide)⟩, ta, S2 sb⟩, shp_tn, shp_tn, ?_⟩
    rw [eqv_tn]
    exact h _
  · rintro y xs env ⟨i, s7, hx, i0, im, rfl⟩
    obtain ⟨rfl, rfl, hlt⟩ := range_cons hx
    obtain ⟨f, g, e12, t12, c12, l12⟩ := nrmD_get (u := a * i) bp
    have gp := t12.pos
    rw [e12]
    simp only [wSs, wS, wEs, wE, wIt, getE, setE, rdsK, rdK, biK, datasK, dataK, setMany, cmpK, binK, truthK, truth, ixK, initE, tgK, seqK, lstK, retK, isTy, tyOf, endL, List.map_cons, List.map_nil, List.length_cons, List.length_nil, List.cons_append, List.nil_append, List.replicate, List.replicate_zero, List.append_nil, Nat.reduceSub, Nat.reduceAdd, atI_0, atI_1, atI_2, set_0, set_2, call_W2, call_W1, call_W0, call_W3, call_L0, call_L1, call_L2, callNone, Option.some.injEq, lb__law_sums_right_1, sp_times, w_times, sp_added, w_added]
    rw [e12]
    refine ⟨⟨⟨ta, S2 sb⟩, sz.mono (n := 3) (by unfold sz; omega) (by decide)⟩, shp_tn, shp_tn, ?_⟩
    simp only [eqv_tn, Bool.not_true, Bool.false_eq_true, if_false]
    refine ⟨⟨⟨t12, S2 (sb.le (by omega) l12)⟩, ta, S2 sb⟩, i + 1, some (.d (.int i)), rfl, by omega, by omega, ?_⟩
    obtain ⟨p2, q2, e13, t13, c13, l13⟩ := nrmD_get (u := a * (i + 1)) bp
    rw [e13, nrmD_eq (Int.mul_pos gp bp) t13]
    refine c13.trans (by omega) (Cg.symm ?_)
    obtain ⟨z, c12⟩ := c12
    exact ⟨z, by grind⟩
end K26

set_option maxRecDepth 100000
set_option maxHeartbeats 1000000
namespace K26
open PySem PF
/-- what is left of a turn behind its part -/
theorem part_facts {a b : Int} (t : T a b) : ∃ r s, partF a b = .tuple [.int (30 * a / b), .tuple [.int r, .int s]] ∧ T r s ∧ 30 * r < s ∧ a * 30 * s = (30 * a / b * s + 30 * r) * b ∧ s ≤ 30 * b := by
  obtain ⟨p0, p1⟩ := part_lt t
  have bp := t.pos
  have em := Int.emod_add_mul_ediv (30 * a) b
  have e0 := Int.emod_nonneg (30 * a) (show b ≠ 0 by omega)
  have e1 := Int.emod_lt_of_pos (30 * a) bp
  unfold partF
  generalize 30 * a / b = p at *
  obtain ⟨g, x, y, gp, gd, hx, hy, ex, ey, yp, co⟩ := frac_g (u := p) (v := 30) (by decide)
  rw [ex, ey]
  -- the fraction ahead of its shortest terms
  have v0 : 0 < b * y := Int.mul_pos bp yp
  have k1 : (a * y - x * b) * g = 30 * a - p * b := by grind
  have k2 : 30 * (a * y - x * b) * g < (b * y) * g := by
    have : (b * y) * g = 30 * b := by grind
    have : 30 * (a * y - x * b) * g = 30 * (30 * a - p * b) := by grind
    have : p * b = b * p := Int.mul_comm _ _
    omega
  have k3 : 30 * (a * y - x * b) < b * y := Int.lt_of_mul_lt_mul_right k2 (by omega)
  have k4 : 0 ≤ a * y - x * b := by
    have : 0 ≤ (a * y - x * b) * g := by
      have : p * b = b * p := Int.mul_comm _ _
      omega
    exact Int.nonneg_of_mul_nonneg_left this gp
  have k5 : a * 30 * (b * y) = (p * (b * y) + 30 * (a * y - x * b)) * b := by
    have q : g * (a * 30 * (b * y)) = g * ((p * (b * y) + 30 * (a * y - x * b)) * b) := by grind
    exact Int.eq_of_mul_eq_mul_left (by omega) q
  have k6 : b * y ≤ 30 * b := by
    have : y * 1 ≤ y * g := Int.mul_le_mul_of_nonneg_left (by omega) (by omega)
    have : b * y ≤ b * 30 := Int.mul_le_mul_of_nonneg_left (by omega) (by omega)
    omega
  generalize a * y - x * b = U at *
  generalize b * y = V at *
  obtain ⟨h, r, s, hp, hd, hr, hs, er, es, sp, co2⟩ := frac_g (u := U) (v := V) v0
  have fT := frac_T (u := U) (v := V) k4 (by omega)
  unfold frac tn
  rw [er, es] at *
  refine ⟨r, s, rfl, fT, ?_, ?_, ?_⟩
  · have : 30 * r * h < s * h := by
      rw [← hs]
      have : 30 * r * h = 30 * U := by grind
      omega
    exact Int.lt_of_mul_lt_mul_right this (by omega)
  · have q : h * (a * 30 * s) = h * ((p * s + 30 * r) * b) := by grind
    exact Int.eq_of_mul_eq_mul_left (by omega) q
  · have : s * 1 ≤ s * h := Int.mul_le_mul_of_nonneg_left (by omega) (by omega)
    omega
def w__law_part_right : WF
  | [.tuple [.int a, .int b]], k => (T a b ∧ sz 300 b) ∧ k (.d (.bool true))
  | _, _ => False
theorem m__law_part_right : w__law_part_right.Mono := by
  intro xs k k' h q
  unfold w__law_part_right at q ⊢
  split <;> simp_all
def sp__law_part_right : ASp := spW w__law_part_right m__law_part_right
def cc__law_part_right_1 : E := (.cmp .eq (.bin .mod (.bi .int (.cons (.var 3) .nil)) (.var 5)) (.bin .sub (.var 5) (.int 1)))
def ce__law_part_right_2 : E := (.var 5)
def b__law_part_right_7 : Ss := (.cons (.ret (.cmp .eq (.bi .repr (.cons (.lst (.cons (.call "is_kept" sp_is_kept (.cons (.var 0) .nil)) (.cons (.callK "is_kept" sp_is_kept ["turn"] ["turn"] (.cons (.var 0) .nil)) .nil))) .nil)) (.bi .repr (.cons (.lst (.cons (.var 2) (.cons (.var 2) .nil))) .nil)))) .nil)
def b__law_part_right_6 : Ss := (.cons (.asgF 2 (.cmp .eq (.comp ce__law_part_right_2 (some ()) cc__law_part_right_1 (.nm 5) (.seq (.tup (.cons (.int 2) (.cons (.int 3) (.cons (.int 5) .nil))))) [("_law_p", 5)]) (.lst .nil))) b__law_part_right_7)
def b__law_part_right_5 : Ss := (.cons (.ite (.cmp .ne (.bin .mul (.bin .mul (.ix (.var 0) (.int 0)) (.int 30)) (.ix (.var 4) (.int 1))) (.bin .mul (.bin .add (.bin .mul (.var 3) (.ix (.var 4) (.int 1))) (.bin .mul (.int 30) (.ix (.var 4) (.int 0)))) (.ix (.var 0) (.int 1)))) (.cons (.ret (.bool false))
  .nil) .nil) b__law_part_right_6)
def b__law_part_right_4 : Ss := (.cons (.ite (.or (.not (.call "_law_is_turn" sp__law_is_turn (.cons (.var 4) .nil))) (.or (.cmp .ge (.bin .mul (.int 30) (.ix (.var 4) (.int 0))) (.ix (.var 4) (.int 1))) (.cmp .ne (.callK "part_of" sp_part_of ["turn"] ["turn"] (.cons (.var 0) .nil)) (.var 1)))) (.cons (.ret (.bool false))
  .nil) .nil) b__law_part_right_5)
def b__law_part_right_3 : Ss := (.cons (.unp [3, 4] (.var 1)) b__law_part_right_4)
def b__law_part_right_2 : Ss := (.cons (.ite (.or (.not (.inst (.var 1) [.tuple])) (.or (.cmp .ne (.bi .len (.cons (.var 1) .nil)) (.int 2)) (.or (.not (.call "_law_whole" sp__law_whole (.cons (.ix (.var 1) (.int 0)) .nil))) (.not (.chain .le .lt (.int 0) (.ix (.var 1) (.int 0)) (.int 30)))))) (.cons (.ret (.bool false))
  .nil) .nil) b__law_part_right_3)
def b__law_part_right : Ss := (.cons (.asgF 1 (.call "part_of" sp_part_of (.cons (.var 0) .nil))) b__law_part_right_2)
theorem el_c {x0 x1 x2 x4 : Option AV} {p q : Int} {Q : AV → AEnv → Prop} : wE cc__law_part_right_1 [x0, x1, x2, some (.d (.int p)), x4, some (.d (.int q))] Q X0 ↔ q ≠ 0 ∧ Q (.d (.bool (p.fmod q == q - 1))) [x0, x1, x2, some (.d (.int p)), x4, some (.d (.int q))] := by
  simp only [cc__law_part_right_1, wSs, wS, wEs, wE, wIt, getE, setE, rdsK, rdK, biK, datasK, dataK, setMany, cmpK, binK, truthK, truth, ixK, initE, tgK, seqK, lstK, retK, isTy, tyOf, endL, List.map_cons, List.map_nil, List.length_cons, List.length_nil, List.cons_append, List.nil_append, List.replicate, List.replicate_zero, List.append_nil, Nat.reduceSub, Nat.reduceAdd, atI_0, atI_1, atI_2, set_0, set_2, call_W2, call_W1, call_W0, call_W3, call_L0, call_L1, call_L2, callNone, Option.some.injEq]
  simp [shp_int, PyData.eqv]
theorem el_e {x0 x1 x2 x3 x4 : Option AV} {q : Int} {Q : AV → AEnv → Prop} : wE ce__law_part_right_2 [x0, x1, x2, x3, x4, some (.d (.int q))] Q X0 ↔ Q (.d (.int q)) [x0, x1, x2, x3, x4, some (.d (.int q))] := by
  simp only [ce__law_part_right_2, wSs, wS, wEs, wE, wIt, getE, setE, rdsK, rdK, biK, datasK, dataK, setMany, cmpK, binK, truthK, truth, ixK, initE, tgK, seqK, lstK, retK, isTy, tyOf, endL, List.map_cons, List.map_nil, List.length_cons, List.length_nil, List.cons_append, List.nil_append, List.replicate, List.replicate_zero, List.append_nil, Nat.reduceSub, Nat.reduceAdd, atI_0, atI_1, atI_2, set_0, set_2, call_W2, call_W1, call_W0, call_W3, call_L0, call_L1, call_L2, callNone, Option.some.injEq]
theorem eqv_pt {p r s : Int} : PyData.eqv (.tuple [.int p, .tuple [.int r, .int s]]) (.tuple [.int p, .tuple [.int r, .int s]]) = true := by simp [PyData.eqv, PyData.eqvAll]
theorem shp_pt {p r s : Int} : SeqAt.shaped (.tuple [.int p, .tuple [.int r, .int s]]) = true := rfl
theorem repr_ok (x y : Bool) : (PyData.list [.bool x, .bool y]).showable = true ∧ (PyData.list [.bool x, .bool y]).hasDict = false ∧ (PyData.list [.bool x, .bool y]).shown.length ≤ sizeLine ∧ (PyData.list [.bool x, .bool y]).depth ≤ 64 := by
  cases x <;> cases y <;> decide +kernel
theorem shp_rep (x y : Bool) : SeqAt.shaped (.str (PyData.list [.bool x, .bool y]).shown) = true := by
  cases x <;> cases y <;> decide +kernel
theorem kept_is (p : Int) : keptF p = !(decide (p % 2 = 2 - 1) || (decide (p % 3 = 3 - 1) || decide (p % 5 = 5 - 1))) := by
  unfold keptF
  have h2 : 0 ≤ p % 2 ∧ p % 2 < 2 := ⟨Int.emod_nonneg _ (by decide), Int.emod_lt_of_pos _ (by decide)⟩
  have h3 : 0 ≤ p % 3 ∧ p % 3 < 3 := ⟨Int.emod_nonneg _ (by decide), Int.emod_lt_of_pos _ (by decide)⟩
  have h5 : 0 ≤ p % 5 ∧ p % 5 < 5 := ⟨Int.emod_nonneg _ (by decide), Int.emod_lt_of_pos _ (by decide)⟩
  rw [Bool.not_or, Bool.not_or, ← decide_not, ← decide_not, ← decide_not]
  refine congr (congrArg _ ?_) (congr (congrArg _ ?_) ?_)
  · exact decide_eq_decide.mpr (by omega)
  · exact decide_eq_decide.mpr (by omega)
  · exact decide_eq_decide.mpr (by omega)
theorem p__law_part_right : Body 1 6 [] b__law_part_right sp__law_part_right := by
  refine body_W (fun xs k h => ?_) fun xs k h => ?_
  · unfold w__law_part_right at h; split at h <;> simp_all
  unfold w__law_part_right at h
  split at h
  case h_2 => exact h.elim
  rename_i a b
  obtain ⟨⟨ta, sb⟩, h⟩ := h
  have bp := ta.pos
  have sa := ta.sa sb
  obtain ⟨p0, p1⟩ := part_lt ta
  obtain ⟨r, s, e1, t1, f1, f2, f3⟩ := part_facts ta
  have hk := kept_is (30 * a / b)
  have sb19 : sz 1900 b := sb.mono (by decide)
  have ss : sz 305 s := (sz.mul (n := 5) (x := 30) (by unfold sz; decide) sb).le (by have := t1.pos; omega) f3
  have sr := t1.sa ss
  generalize hP : 30 * a / b = P at *
  unfold b__law_part_right
  generalize ht : b__law_part_right_2 = tt
  simp only [initE, List.map_cons, List.map_nil, List.length_cons, List.length_nil, Nat.reduceAdd, Nat.reduceSub, List.replicate, List.cons_append, List.nil_append]
  simp only [wSs, wS, wEs, wE, wIt, getE, setE, rdsK, rdK, biK, datasK, dataK, setMany, cmpK, binK, truthK, truth, ixK, initE, tgK, seqK, lstK, retK, isTy, tyOf, endL, List.map_cons, List.map_nil, List.length_cons, List.length_nil, List.cons_append, List.nil_append, List.replicate, List.replicate_zero, List.append_nil, Nat.reduceSub, Nat.reduceAdd, atI_0, atI_1, atI_2, set_0, set_2, call_W2, call_W1, call_W0, call_W3, call_L0, call_L1, call_L2, callNone, Option.some.injEq, sp_part_of, w_part_of]
  rw [e1]
  refine ⟨⟨ta, sb19⟩, ?_⟩
  subst ht
  unfold b__law_part_right_2
  generalize ht : b__law_part_right_3 = tt
  have d0 : decide (0 ≤ P) = true := decide_eq_true p0
  have d1 : decide (P < 30) = true := decide_eq_true p1
  simp only [wSs, wS, wEs, wE, wIt, getE, setE, rdsK, rdK, biK, datasK, dataK, setMany, cmpK, binK, truthK, truth, ixK, initE, tgK, seqK, lstK, retK, isTy, tyOf, endL, List.map_cons, List.map_nil, List.length_cons, List.length_nil, List.cons_append, List.nil_append, List.replicate, List.replicate_zero, List.append_nil, Nat.reduceSub, Nat.reduceAdd, atI_0, atI_1, atI_2, set_0, set_2, call_W2, call_W1, call_W0, call_W3, call_L0, call_L1, call_L2, callNone, Option.some.injEq, sp__law_whole, w__law_whole, List.any_cons, List.any_nil, List.contains_cons, List.contains_nil]
  have i1 : ((Ty.tuple == Ty.tuple || false) || false) = true := rfl
  simp only [i1, Bool.not_true, Bool.false_eq_true, if_false, shp_int, true_and, PyData.eqv]
  simp only [show (((0 + 1 + 1 : Nat) : Int)) = 2 from rfl, d0, d1]
  rw [if_neg (by decide), if_pos trivial, if_neg (by decide)]
  subst ht
  unfold b__law_part_right_3
  generalize ht : b__law_part_right_4 = tt
  simp only [wSs, wS, wEs, wE, wIt, getE, setE, rdsK, rdK, biK, datasK, dataK, setMany, cmpK, binK, truthK, truth, ixK, initE, tgK, seqK, lstK, retK, isTy, tyOf, endL, List.map_cons, List.map_nil, List.length_cons, List.length_nil, List.cons_append, List.nil_append, List.replicate, List.replicate_zero, List.append_nil, Nat.reduceSub, Nat.reduceAdd, atI_0, atI_1, atI_2, set_0, set_2, call_W2, call_W1, call_W0, call_W3, call_L0, call_L1, call_L2, callNone, Option.some.injEq]
  refine ⟨by first | rfl | trivial, ?_⟩
  subst ht
  unfold b__law_part_right_4
  generalize ht : b__law_part_right_5 = tt
  simp only [wSs, wS, wEs, wE, wIt, getE, setE, rdsK, rdK, biK, datasK, dataK, setMany, cmpK, binK, truthK, truth, ixK, initE, tgK, seqK, lstK, retK, isTy, tyOf, endL, List.map_cons, List.map_nil, List.length_cons, List.length_nil, List.cons_append, List.nil_append, List.replicate, List.replicate_zero, List.append_nil, Nat.reduceSub, Nat.reduceAdd, atI_0, atI_1, atI_2, set_0, set_2, call_W2, call_W1, call_W0, call_W3, call_L0, call_L1, call_L2, callNone, Option.some.injEq, ro_p, sp__law_is_turn, w__law_is_turn, sp_part_of, w_part_of]
  rw [e1]
  have s30 : sz 5 30 := by unfold sz; decide
  have d2 : decide (s ≤ 30 * r) = false := decide_eq_false (by omega)
  simp only [Bool.not_true, Bool.false_eq_true, if_false, d2, eqv_pt]
  refine ⟨⟨t1, ss.mono (by decide)⟩, s30.mulOk sr (by decide), ⟨ta, sb19⟩, shp_pt, shp_pt, ?_⟩
  subst ht
  unfold b__law_part_right_5
  generalize ht : b__law_part_right_6 = tt
  simp only [wSs, wS, wEs, wE, wIt, getE, setE, rdsK, rdK, biK, datasK, dataK, setMany, cmpK, binK, truthK, truth, ixK, initE, tgK, seqK, lstK, retK, isTy, tyOf, endL, List.map_cons, List.map_nil, List.length_cons, List.length_nil, List.cons_append, List.nil_append, List.replicate, List.replicate_zero, List.append_nil, Nat.reduceSub, Nat.reduceAdd, atI_0, atI_1, atI_2, set_0, set_2, call_W2, call_W1, call_W0, call_W3, call_L0, call_L1, call_L2, callNone, Option.some.injEq]
  have sP : sz 5 P := s30.le p0 (by omega)
  refine ⟨sa.mulOk s30 (by decide), (sa.mul s30).mulOk ss (by decide), sP.mulOk ss (by decide), s30.mulOk sr (by decide), ((sP.mul ss).add (s30.mul sr)).mulOk sb (by decide), rfl, rfl, ?_⟩
  rw [f2]
  rw [if_neg (by simp [PyData.eqv])]
  subst ht
  unfold b__law_part_right_6
  generalize ht : b__law_part_right_7 = tt
  simp only [wSs, wS, wEs, wE, wIt, getE, setE, rdsK, rdK, biK, datasK, dataK, setMany, cmpK, binK, truthK, truth, ixK, initE, tgK, seqK, lstK, retK, isTy, tyOf, endL, List.map_cons, List.map_nil, List.length_cons, List.length_nil, List.cons_append, List.nil_append, List.replicate, List.replicate_zero, List.append_nil, Nat.reduceSub, Nat.reduceAdd, atI_0, atI_1, atI_2, set_0, set_2, call_W2, call_W1, call_W0, call_W3, call_L0, call_L1, call_L2, callNone, Option.some.injEq, noOwn]
  refine ⟨⟨trivial, trivial⟩, ?_⟩
  simp only [compW, el_c, el_e, wSs, wS, wEs, wE, wIt, getE, setE, rdsK, rdK, biK, datasK, dataK, setMany, cmpK, binK, truthK, truth, ixK, initE, tgK, seqK, lstK, retK, isTy, tyOf, endL, List.map_cons, List.map_nil, List.length_cons, List.length_nil, List.cons_append, List.nil_append, List.replicate, List.replicate_zero, List.append_nil, Nat.reduceSub, Nat.reduceAdd, atI_0, atI_1, atI_2, set_0, set_2, call_W2, call_W1, call_W0, call_W3, call_L0, call_L1, call_L2, callNone, Option.some.injEq, wipeE, backE]
  have hk2 : keptF P = !((P.fmod 2 == 2 - 1) || ((P.fmod 3 == 3 - 1) || (P.fmod 5 == 5 - 1))) := by
    rw [fmod_p (by decide), fmod_p (by decide), fmod_p (by decide), hk]
    rfl
  have fin : wSs X0 tt [some (.d (.tuple [.int a, .int b])), some (.d (.tuple [.int P, .tuple [.int r, .int s]])), some (.d (.bool (keptF P))), some (.d (.int P)), some (.d (.tuple [.int r, .int s])), none] { nx := fun _ => k (.d .none), rt := fun r env => retK [] r env k } := by
    subst ht
    unfold b__law_part_right_7
    simp only [wSs, wS, wEs, wE, wIt, getE, setE, rdsK, rdK, biK, datasK, dataK, setMany, cmpK, binK, truthK, truth, ixK, initE, tgK, seqK, lstK, retK, isTy, tyOf, endL, List.map_cons, List.map_nil, List.length_cons, List.length_nil, List.cons_append, List.nil_append, List.replicate, List.replicate_zero, List.append_nil, Nat.reduceSub, Nat.reduceAdd, atI_0, atI_1, atI_2, set_0, set_2, call_W2, call_W1, call_W0, call_W3, call_L0, call_L1, call_L2, callNone, Option.some.injEq, ro_p, sp_is_kept, w_is_kept]
    rw [hP]
    refine ⟨⟨ta, sb19⟩, ⟨ta, sb19⟩, repr_ok _ _, repr_ok _ _, shp_rep _ _, shp_rep _ _, ?_⟩
    simpa [PyData.eqv] using h
  simp only [wSs, wS, wEs, wE, wIt, getE, setE, rdsK, rdK, biK, datasK, dataK, setMany, cmpK, binK, truthK, truth, ixK, initE, tgK, seqK, lstK, retK, isTy, tyOf, endL, List.map_cons, List.map_nil, List.length_cons, List.length_nil, List.cons_append, List.nil_append, List.replicate, List.replicate_zero, List.append_nil, Nat.reduceSub, Nat.reduceAdd, atI_0, atI_1, atI_2, set_0, set_2, call_W2, call_W1, call_W0, call_W3, call_L0, call_L1, call_L2, callNone, Option.some.injEq] at fin
  generalize (P.fmod 2 == 2 - 1) = b2 at *
  generalize (P.fmod 3 == 3 - 1) = b3 at *
  generalize (P.fmod 5 == 5 - 1) = b5 at *
  rw [hk2] at fin
  cases b2 <;> cases b3 <;> cases b5 <;> (simp only [if_true, Bool.false_eq_true, if_false, Bool.or_true, Bool.true_or, Bool.or_false, Bool.not_true, Bool.not_false] at fin ⊢; refine ⟨by decide, by decide, by decide, rfl, rfl, ?_⟩; first | exact fin | (simp [PyData.eqv, PyData.eqvAll]; exact fin))
end K26

set_option maxRecDepth 100000
set_option maxHeartbeats 1000000
namespace K26
open PySem PF
theorem body_LD {np n : Nat} {b : Ss} {f : LF} {m : f.Mono} (hl : ∀ l xs k, f l xs k → xs.length + 1 = np) (h : ∀ l xs (k : AV → List PyData → Prop), f l xs k → ∀ D : AEnds, (∀ env, (endL env fun l' => k (.d .none) l') → D.nx env) → (∀ r env, (retK [0] r env fun r' => endL env fun l' => k r' l') → D.rt r env) → wSs X0 b (initE n (.o l :: xs.map AV.d)) D) : Body np n [0] b (spL f m) :=
  body_L hl fun l xs k hf => h l xs k hf _ (fun _ z => z) (fun _ _ z => z)
def w__law_right : LF := fun l xs k => xs = [] ∧ Urn 0 l ∧ ∀ l', k (.d (.bool true)) l'
theorem m__law_right : w__law_right.Mono := fun l xs k k' h ⟨h1, h2, h3⟩ => ⟨h1, h2, fun l' => h _ _ (h3 l')⟩
def sp__law_right : ASp := spL w__law_right m__law_right
def ce__law_right_1 : E := (.call "_law_drawn_turn" sp__law_drawn_turn (.cons (.var 0) .nil))
def lb__law_right_2 : Ss := (.cons (.ite (.not (.call "_law_part_right" sp__law_part_right (.cons (.var 7) .nil))) (.cons (.ret (.bool false))
  .nil) .nil)
  .nil)
def b__law_right_10 : Ss := (.cons (.ret (.call "_law_sums_right" sp__law_sums_right (.cons (.var 0) (.cons (.ix (.var 6) (.call "_law_pick" sp__law_pick (.cons (.var 0) (.cons (.int 6) .nil)))) (.cons (.ix (.var 6) (.call "_law_pick" sp__law_pick (.cons (.var 0) (.cons (.int 6) .nil)))) .nil))))) .nil)
def b__law_right_9 : Ss := (.cons (.forS (.nm 7) (.seq (.var 6)) lb__law_right_2) b__law_right_10)
def b__law_right_8 : Ss := (.cons (.asgF 6 (.bin .add (.comp ce__law_right_1 none .none (.nm 10) (.range1 (.int 3)) [("_law_k", 10)]) (.lst (.cons (.var 2) (.cons (.var 5) (.cons (.var 1) .nil)))))) b__law_right_9)
def b__law_right_7 : Ss := (.cons (.asgF 5 (.call "_law_left" sp__law_left (.cons (.bin .add (.bin .mul (.ix (.var 2) (.int 0)) (.var 3)) (.bin .mul (.var 4) (.ix (.var 2) (.int 1)))) (.cons (.bin .mul (.ix (.var 2) (.int 1)) (.var 3)) .nil)))) b__law_right_8)
def b__law_right_6 : Ss := (.cons (.asgF 4 (.ix (.lst (.cons (.int 1) (.cons (.neg (.int 1)) .nil))) (.call "_law_pick" sp__law_pick (.cons (.var 0) (.cons (.int 2) .nil))))) b__law_right_7)
def b__law_right_5 : Ss := (.cons (.asgF 3 (.bin .add (.int 1) (.call "_law_pick" sp__law_pick (.cons (.var 0) (.cons (.bin .mul (.bin .pow (.int 10) (.int 40)) (.bin .pow (.int 10) (.int 40))) .nil))))) b__law_right_6)
def b__law_right_4 : Ss := (.cons (.asgF 2 (.call "_law_fraction" sp__law_fraction (.cons (.call "_law_pick" sp__law_pick (.cons (.var 0) (.cons (.int 30) .nil))) (.cons (.int 30) .nil)))) b__law_right_5)
def b__law_right_3 : Ss := (.cons (.ite (.or (.not (.call "_law_is_left" sp__law_is_left (.cons (.var 1) (.cons (.var 8) (.cons (.var 9) .nil))))) (.cmp .ne (.callK "turn_of" sp_turn_of ["top", "bottom"] ["bottom", "top"] (.cons (.var 9) (.cons (.var 8) .nil))) (.var 1))) (.cons (.ret (.bool false))
  .nil) .nil) b__law_right_4)
def b__law_right_2 : Ss := (.cons (.asgF 1 (.call "turn_of" sp_turn_of (.cons (.var 8) (.cons (.var 9) .nil)))) b__law_right_3)
def b__law_right : Ss := (.cons (.par [8, 9] (.cons (.call "_law_far" sp__law_far (.cons (.var 0) .nil)) (.cons (.bin .add (.int 1) (.bi .abs (.cons (.call "_law_far" sp__law_far (.cons (.var 0) .nil)) .nil))) .nil))) b__law_right_2)
theorem el_d {l : List PyData} {env : AEnv} {Q : AV → AEnv → Prop} : wE ce__law_right_1 (some (.o l) :: env) Q X0 ↔ w__law_drawn_turn l [] fun r l' => Q r (some (.o l') :: env) := by
  simp only [ce__law_right_1, wSs, wS, wEs, wE, wIt, getE, setE, rdsK, rdK, biK, datasK, dataK, setMany, cmpK, binK, truthK, truth, ixK, initE, tgK, seqK, lstK, retK, isTy, tyOf, endL, List.map_cons, List.map_nil, List.length_cons, List.length_nil, List.cons_append, List.nil_append, List.replicate, List.replicate_zero, List.append_nil, Nat.reduceSub, Nat.reduceAdd, atI_0, atI_1, atI_2, set_0, set_2, call_W2, call_W1, call_W0, call_W3, call_L0, call_L1, call_L2, callNone, Option.some.injEq, sp__law_drawn_turn]
def isT (x : PyData) : Prop := ∃ a b, x = .tuple [.int a, .int b] ∧ T a b ∧ sz 300 b
theorem mk80 : mulOk (10 ^ Int.toNat 40) (10 ^ Int.toNat 40) := by unfold mulOk; decide +kernel
theorem s80 : sz 298 ((10 : Int) ^ Int.toNat 40 * 10 ^ Int.toNat 40) ∧ 0 < (10 : Int) ^ Int.toNat 40 * 10 ^ Int.toNat 40 := by unfold sz; decide +kernel
theorem s80' : sz 267 (1 + (10 : Int) ^ Int.toNat 40 * 10 ^ Int.toNat 40) := by unfold sz; decide +kernel
theorem sgn2 {x : Int} (h : x ∈ ([1, -1] : List Int)) : sz 1 x := by
  unfold sz
  simp only [List.mem_cons, List.not_mem_nil, or_false] at h
  rcases h with rfl | rfl <;> decide
theorem r3 : rangeL 0 3 = [.int 0, .int 1, .int 2] := rfl
theorem frac_is {u v : Int} (h0 : 0 ≤ u) (h1 : u < v) : ∃ a b, frac u v = .tuple [.int a, .int b] ∧ T a b ∧ 0 ≤ a ∧ a ≤ u ∧ 0 < b ∧ b ≤ v :=
  ⟨_, _, rfl, frac_T h0 h1, (cut_le h0 (by omega)).1, (cut_le h0 (by omega)).2.1, quo_pos (by omega), (cut_le h0 (by omega)).2.2⟩
theorem st5 {tt : Ss} {DD : AEnds} {l : List PyData} {a1 a2 a4 a5 a6 a7 a8 a9 a10 : Option AV} {n : Nat} (U : Urn n l) (hn : n < 1000) (h : ∀ z l', 0 < z → sz 267 z → Urn (n + 1) l' → wSs X0 tt [some (.o l'), a1, a2, some (.d (.int z)), a4, a5, a6, a7, a8, a9, a10] DD) (a3 : Option AV) :
    wSs X0 (.cons (.asgF 3 (.bin .add (.int 1) (.call "_law_pick" sp__law_pick (.cons (.var 0) (.cons (.bin .mul (.bin .pow (.int 10) (.int 40)) (.bin .pow (.int 10) (.int 40))) .nil))))) tt) [some (.o l), a1, a2, a3, a4, a5, a6, a7, a8, a9, a10] DD := by
  simp only [wSs, wS, wE, wEs, getE, rdK, binK]
  simp only [sp__law_pick, call_L1]
  have hs := s80
  have hs2 := s80'
  refine ⟨s10.pow (by decide) (by decide), s10.pow (by decide) (by decide), mk80, ?_⟩
  generalize (10 : Int) ^ Int.toNat 40 * 10 ^ Int.toNat 40 = M at hs hs2 ⊢
  refine ⟨n, M, rfl, U, by omega, hs.2, hs.1.mono (by decide), fun z l4 z0 z1 U4 => ?_⟩
  exact h (1 + z) l4 (by omega) (hs2.le (by omega) (by omega)) U4
theorem p__law_right : Body 1 11 [0] b__law_right sp__law_right := by
  refine body_LD (fun l xs k h => ?_) fun l xs k h DD hnx hrt => ?_
  · obtain ⟨rfl, _⟩ := h; rfl
  obtain ⟨rfl, hU, h⟩ := h
  unfold b__law_right
  generalize ht : b__law_right_2 = tt
  simp only [initE, List.map_cons, List.map_nil, List.length_cons, List.length_nil, Nat.reduceAdd, Nat.reduceSub, List.replicate, List.cons_append, List.nil_append]
  simp only [wSs, wS, wEs, wE, wIt, getE, setE, rdsK, rdK, biK, datasK, dataK, setMany, cmpK, binK, truthK, truth, ixK, initE, tgK, seqK, lstK, retK, isTy, tyOf, endL, List.map_cons, List.map_nil, List.length_cons, List.length_nil, List.cons_append, List.nil_append, List.replicate, List.replicate_zero, List.append_nil, Nat.reduceSub, Nat.reduceAdd, atI_0, atI_1, atI_2, set_0, set_2, call_W2, call_W1, call_W0, call_W3, call_L0, call_L1, call_L2, callNone, Option.some.injEq, sp__law_far]
  refine ⟨0, rfl, hU, by omega, fun u l1 su U1 => ?_⟩
  simp only [wSs, wS, wEs, wE, wIt, getE, setE, rdsK, rdK, biK, datasK, dataK, setMany, cmpK, binK, truthK, truth, ixK, initE, tgK, seqK, lstK, retK, isTy, tyOf, endL, List.map_cons, List.map_nil, List.length_cons, List.length_nil, List.cons_append, List.nil_append, List.replicate, List.replicate_zero, List.append_nil, Nat.reduceSub, Nat.reduceAdd, atI_0, atI_1, atI_2, set_0, set_2, call_W2, call_W1, call_W0, call_W3, call_L0, call_L1, call_L2, callNone, Option.some.injEq]
  refine ⟨3, rfl, U1, by omega, fun v l2 sv U2 => ?_⟩
  simp only [wSs, wS, wEs, wE, wIt, getE, setE, rdsK, rdK, biK, datasK, dataK, setMany, cmpK, binK, truthK, truth, ixK, initE, tgK, seqK, lstK, retK, isTy, tyOf, endL, List.map_cons, List.map_nil, List.length_cons, List.length_nil, List.cons_append, List.nil_append, List.replicate, List.replicate_zero, List.append_nil, Nat.reduceSub, Nat.reduceAdd, atI_0, atI_1, atI_2, set_0, set_2, call_W2, call_W1, call_W0, call_W3, call_L0, call_L1, call_L2, callNone, Option.some.injEq]
  refine ⟨by first | rfl | trivial, ?_⟩
  have hm : 0 < 1 + (if v < 0 then -v else v) ∧ sz 300 (1 + (if v < 0 then -v else v)) := by
    refine ⟨by split <;> omega, sz.add (sz.mono (n := 1) (by unfold sz; decide) (by decide)) ?_⟩
    split
    · exact sv.neg
    · exact sv
  generalize (1 + (if v < 0 then -v else v)) = m at *
  obtain ⟨mp, sm⟩ := hm
  obtain ⟨p, q, e1, t1, c1, q1⟩ := nrmD_get (u := u) mp
  have sq : sz 300 q := sm.le (by have := t1.pos; omega) q1
  subst ht
  unfold b__law_right_2
  generalize ht : b__law_right_3 = tt
  simp only [wSs, wS, wEs, wE, wIt, getE, setE, rdsK, rdK, biK, datasK, dataK, setMany, cmpK, binK, truthK, truth, ixK, initE, tgK, seqK, lstK, retK, isTy, tyOf, endL, List.map_cons, List.map_nil, List.length_cons, List.length_nil, List.cons_append, List.nil_append, List.replicate, List.replicate_zero, List.append_nil, Nat.reduceSub, Nat.reduceAdd, atI_0, atI_1, atI_2, set_0, set_2, call_W2, call_W1, call_W0, call_W3, call_L0, call_L1, call_L2, callNone, Option.some.injEq, sp_turn_of, w_turn_of]
  refine ⟨⟨mp, sm.mono (by decide)⟩, ?_⟩
  rw [e1]
  subst ht
  unfold b__law_right_3
  generalize ht : b__law_right_4 = tt
  simp only [wSs, wS, wEs, wE, wIt, getE, setE, rdsK, rdK, biK, datasK, dataK, setMany, cmpK, binK, truthK, truth, ixK, initE, tgK, seqK, lstK, retK, isTy, tyOf, endL, List.map_cons, List.map_nil, List.length_cons, List.length_nil, List.cons_append, List.nil_append, List.replicate, List.replicate_zero, List.append_nil, Nat.reduceSub, Nat.reduceAdd, atI_0, atI_1, atI_2, set_0, set_2, call_W2, call_W1, call_W0, call_W3, call_L0, call_L1, call_L2, callNone, Option.some.injEq, ro_o, sp_turn_of, w_turn_of, sp__law_is_left, w__law_is_left]
  rw [e1]
  simp only [Bool.not_true, Bool.false_eq_true, if_false, eqv_tn]
  refine ⟨⟨t1, sq.mono (by decide), mp, sm.mono (by decide), su.mono (by decide), c1⟩, ⟨mp, sm.mono (by decide)⟩, shp_tn, shp_tn, ?_⟩
  subst ht
  unfold b__law_right_4
  generalize ht : b__law_right_5 = tt
  simp only [wSs, wS, wEs, wE, wIt, getE, setE, rdsK, rdK, biK, datasK, dataK, setMany, cmpK, binK, truthK, truth, ixK, initE, tgK, seqK, lstK, retK, isTy, tyOf, endL, List.map_cons, List.map_nil, List.length_cons, List.length_nil, List.cons_append, List.nil_append, List.replicate, List.replicate_zero, List.append_nil, Nat.reduceSub, Nat.reduceAdd, atI_0, atI_1, atI_2, set_0, set_2, call_W2, call_W1, call_W0, call_W3, call_L0, call_L1, call_L2, callNone, Option.some.injEq, sp__law_pick, sp__law_fraction]
  refine ⟨6, 30, rfl, U2, by omega, by decide, sz.mono (n := 5) (by unfold sz; decide) (by decide), fun r l3 r0 r1 U3 => ?_⟩
  simp only [wSs, wS, wEs, wE, wIt, getE, setE, rdsK, rdK, biK, datasK, dataK, setMany, cmpK, binK, truthK, truth, ixK, initE, tgK, seqK, lstK, retK, isTy, tyOf, endL, List.map_cons, List.map_nil, List.length_cons, List.length_nil, List.cons_append, List.nil_append, List.replicate, List.replicate_zero, List.append_nil, Nat.reduceSub, Nat.reduceAdd, atI_0, atI_1, atI_2, set_0, set_2, call_W2, call_W1, call_W0, call_W3, call_L0, call_L1, call_L2, callNone, Option.some.injEq, w__law_fraction]
  refine ⟨⟨r0, r1, sz.mono (n := 5) (by unfold sz; decide) (by decide)⟩, ?_⟩
  obtain ⟨x, y, e2, t2, x0, x1, y0, y1⟩ := frac_is r0 r1
  rw [e2]
  subst ht
  unfold b__law_right_5
  refine st5 U3 (by omega) (fun be l4 zp sz1 U4 => ?_) _
  unfold b__law_right_6
  generalize ht : b__law_right_7 = tt
  simp only [wSs, wS, wE, wEs, getE, rdK, binK, datasK, dataK]
  simp only [sp__law_pick, call_L1]
  refine ⟨8, 2, rfl, U4, by omega, by decide, sz.mono (n := 2) (by unfold sz; decide) (by decide), fun j l5 j0 j1 U5 => ?_⟩
  have e := atI_ints (L := [1, -1]) j0 j1
  have d3 := sgn2 (oneOf_mem (L := [1, -1]) j0 j1)
  simp only [List.map_cons, List.map_nil] at e
  simp only [e, wSs, wS, wEs, wE, wIt, getE, setE, rdsK, rdK, biK, datasK, dataK, setMany, cmpK, binK, truthK, truth, ixK, initE, tgK, seqK, lstK, retK, isTy, tyOf, endL, List.map_cons, List.map_nil, List.length_cons, List.length_nil, List.cons_append, List.nil_append, List.replicate, List.replicate_zero, List.append_nil, Nat.reduceSub, Nat.reduceAdd, atI_0, atI_1, atI_2, set_0, set_2, call_W2, call_W1, call_W0, call_W3, call_L0, call_L1, call_L2, callNone, Option.some.injEq]
  generalize oneOf _ j = st at d3
  subst ht
  unfold b__law_right_7
  generalize ht : b__law_right_8 = tt
  simp only [wSs, wS, wE, wEs, getE, rdK, binK, ixK, atI_0, atI_1]
  simp only [sp__law_left, call_W2, w__law_left, dataK, setE]
  have sx : sz 5 x := by unfold sz; omega
  have sy : sz 5 y := by unfold sz; omega
  have V0 : 0 < y * be := Int.mul_pos y0 zp
  have sV : sz 272 (y * be) := sy.mul sz1
  refine ⟨sx.mulOk sz1 (by decide), d3.mulOk sy (by decide), sy.mulOk sz1 (by decide), ⟨V0, sV.mono (by decide)⟩, ?_⟩
  obtain ⟨f, g, e4, t4, f0, f1, g0, g1⟩ := frac_is (u := (x * be + st * y) % (y * be)) (v := y * be) (Int.emod_nonneg _ (by omega)) (Int.emod_lt_of_pos _ V0)
  rw [e4]
  have sg : sz 300 g := (sV.le (by omega) g1).mono (by decide)
  subst ht
  unfold b__law_right_8
  generalize ht : b__law_right_9 = tt
  simp only [wSs, wS, wEs, wE, wIt, getE, setE, rdsK, rdK, biK, datasK, dataK, setMany, cmpK, binK, truthK, truth, ixK, initE, tgK, seqK, lstK, retK, isTy, tyOf, endL, List.map_cons, List.map_nil, List.length_cons, List.length_nil, List.cons_append, List.nil_append, List.replicate, List.replicate_zero, List.append_nil, Nat.reduceSub, Nat.reduceAdd, atI_0, atI_1, atI_2, set_0, set_2, call_W2, call_W1, call_W0, call_W3, call_L0, call_L1, call_L2, callNone, Option.some.injEq, noOwn, rangeK, r3]
  refine ⟨⟨by decide, by decide, by decide, by decide, by decide⟩, ⟨trivial, trivial⟩, ?_⟩
  simp only [compW, tgK, wipeE, setE]
  rw [el_d]
  refine ⟨9, rfl, U5, by omega, fun a1 b1 l6 k1 s1 U6 => ?_⟩
  simp only [dataK, wipeE, setE]
  rw [el_d]
  refine ⟨12, rfl, U6, by omega, fun a2 b2 l7 k2 s2 U7 => ?_⟩
  simp only [dataK, wipeE, setE]
  rw [el_d]
  refine ⟨15, rfl, U7, by omega, fun a3 b3 l8 k3 s3 U8 => ?_⟩
  simp only [wSs, wS, wEs, wE, wIt, getE, setE, rdsK, rdK, biK, datasK, dataK, setMany, cmpK, binK, truthK, truth, ixK, initE, tgK, seqK, lstK, retK, isTy, tyOf, endL, List.map_cons, List.map_nil, List.length_cons, List.length_nil, List.cons_append, List.nil_append, List.replicate, List.replicate_zero, List.append_nil, Nat.reduceSub, Nat.reduceAdd, atI_0, atI_1, atI_2, set_0, set_2, call_W2, call_W1, call_W0, call_W3, call_L0, call_L1, call_L2, callNone, Option.some.injEq, wipeE, backE, tn]
  refine ⟨by decide, ?_⟩
  have all : ∀ z ∈ ([.tuple [.int a1, .int b1], .tuple [.int a2, .int b2], .tuple [.int a3, .int b3], .tuple [.int x, .int y], .tuple [.int f, .int g], .tuple [.int p, .int q]] : List PyData), isT z := by
    intro z hz
    simp only [List.mem_cons, List.not_mem_nil, or_false] at hz
    rcases hz with rfl | rfl | rfl | rfl | rfl | rfl
    · exact ⟨_, _, rfl, k1, s1⟩
    · exact ⟨_, _, rfl, k2, s2⟩
    · exact ⟨_, _, rfl, k3, s3⟩
    · exact ⟨_, _, rfl, t2, sy.mono (by decide)⟩
    · exact ⟨_, _, rfl, t4, sg⟩
    · exact ⟨_, _, rfl, t1, sq⟩
  have len : ([.tuple [.int a1, .int b1], .tuple [.int a2, .int b2], .tuple [.int a3, .int b3], .tuple [.int x, .int y], .tuple [.int f, .int g], .tuple [.int p, .int q]] : List PyData).length = 6 := rfl
  generalize ([.tuple [.int a1, .int b1], .tuple [.int a2, .int b2], .tuple [.int a3, .int b3], .tuple [.int x, .int y], .tuple [.int f, .int g], .tuple [.int p, .int q]] : List PyData) = D at *
  have pk : ∀ i : Int, 0 ≤ i → i < 6 → ∃ a b, L2.atI D i = some (.tuple [.int a, .int b]) ∧ T a b ∧ sz 300 b := fun i i0 i1 => by
    rw [atI_lt i0 (by omega), List.getElem?_eq_getElem (by omega)]
    obtain ⟨a, b, e, q1, q2⟩ := all _ (List.getElem_mem (by omega : i.toNat < D.length))
    exact ⟨a, b, by rw [e], q1, q2⟩
  subst ht
  unfold b__law_right_9
  generalize ht : b__law_right_10 = tt
  simp only [wSs, wS, wEs, wE, wIt, getE, setE, rdsK, rdK, biK, datasK, dataK, setMany, cmpK, binK, truthK, truth, ixK, initE, tgK, seqK, lstK, retK, isTy, tyOf, endL, List.map_cons, List.map_nil, List.length_cons, List.length_nil, List.cons_append, List.nil_append, List.replicate, List.replicate_zero, List.append_nil, Nat.reduceSub, Nat.reduceAdd, atI_0, atI_1, atI_2, set_0, set_2, call_W2, call_W1, call_W0, call_W3, call_L0, call_L1, call_L2, callNone, Option.some.injEq]
  refine for_inv (fun xs env => (∀ z ∈ xs, isT z) ∧ ∃ s7 : Option AV, env = [some (.o l8), some (.d (.tuple [.int p, .int q])), some (.d (.tuple [.int x, .int y])), some (.d (.int be)), some (.d (.int st)), some (.d (.tuple [.int f, .int g])), some (.d (.list D)), s7, some (.d (.int u)), some (.d (.int m)), none]) (fun env D D' => body_mono env D D') ?_ ?_ ⟨all, _, rfl⟩
  · rintro env ⟨_, s7, rfl⟩
    subst ht
    unfold b__law_right_10
    simp only [wSs, wS, wE, wEs, getE, rdK]
    simp only [sp__law_pick, call_L1]
    refine ⟨18, 6, rfl, U8, by omega, by decide, sz.mono (n := 3) (by unfold sz; decide) (by decide), fun i l9 i0 i1 U9 => ?_⟩
    obtain ⟨a, b, e5, t5, s5⟩ := pk i i0 i1
    simp only [rdK, getE, ixK, e5, sp__law_pick, call_L1]
    skip
    refine ⟨19, 6, rfl, U9, by omega, by decide, sz.mono (n := 3) (by unfold sz; decide) (by decide), fun j l10 j0 j1 U10 => ?_⟩
    obtain ⟨c, d, e6, t6, s6⟩ := pk j j0 j1
    simp only [rdK, getE, ixK, e6]
    simp only [sp__law_sums_right, call_L2]
    refine ⟨20, a, b, c, d, rfl, U10, by omega, ⟨t5, s5⟩, ⟨t6, s6⟩, fun l11 => ?_⟩
    refine hrt _ _ ?_
    simp only [retK, endL, getE]
    exact h _
  · rintro z xs env ⟨hz, s7, rfl⟩
    obtain ⟨a, b, rfl, ta, sb⟩ := hz z List.mem_cons_self
    simp only [lb__law_right_2, tgK, setE, wSs, wS, wE, wEs, getE]
    simp only [sp__law_part_right, call_W1, w__law_part_right, truthK, rdK, truth]
    refine ⟨⟨ta, sb⟩, ?_⟩
    simp only [Bool.not_true, Bool.false_eq_true, if_false]
    exact ⟨fun z hz' => hz z (List.mem_cons_of_mem _ hz'), _, rfl⟩
end K26

set_option maxRecDepth 100000
set_option maxHeartbeats 1000000
namespace K26
open PySem PF
def sp_law : ASp := lawSp 63
def lb_law_1 : Ss := (.cons (.ite (.not (.callO "_law_right" sp__law_right (.call "_law_urn" sp__law_urn (.cons (.var 0) (.cons (.var 1) .nil))))) (.cons (.ret (.bool false))
  .nil) .nil)
  .nil)
def b_law : Ss := (.cons (.forS (.nm 1) (.range1 (.bi .max2 (.cons (.int 1) (.cons (.bi .min2 (.cons (.int 4) (.cons (.bi .len (.cons (.var 0) .nil)) .nil))) .nil)))) lb_law_1)
  (.cons (.ret (.bool true))
  .nil))
theorem p_law : Body 1 2 [] b_law sp_law := by
  refine ⟨?_, ?_, ?_⟩
  · rintro as Q X ⟨ns, rfl, _⟩; rfl
  · rintro as Q X ⟨ns, rfl, _⟩ i ds z
    match i, z with
    | 0, z => cases z
    | i + 1, z => simp at z
  rintro as Q ⟨ns, rfl, hl, hz, q⟩
  unfold b_law
  simp only [initE, List.map_cons, List.map_nil, List.length_cons, List.length_nil, Nat.reduceAdd, Nat.reduceSub, List.replicate, List.cons_append, List.nil_append]
  simp only [wSs, wS, wEs, wE, wIt, getE, setE, rdsK, rdK, biK, datasK, dataK, setMany, cmpK, binK, truthK, truth, ixK, initE, tgK, seqK, lstK, retK, isTy, tyOf, endL, List.map_cons, List.map_nil, List.length_cons, List.length_nil, List.cons_append, List.nil_append, List.replicate, List.replicate_zero, List.append_nil, Nat.reduceSub, Nat.reduceAdd, atI_0, atI_1, atI_2, set_0, set_2, call_W2, call_W1, call_W0, call_W3, call_L0, call_L1, call_L2, callNone, Option.some.injEq, rangeK, List.length_map]
  have hm : ∃ m : Int, m = (if (if (ns.length : Int) < 4 then (ns.length : Int) else 4) > 1 then (if (ns.length : Int) < 4 then (ns.length : Int) else 4) else 1) ∧ 0 ≤ m ∧ m ≤ 4 := ⟨_, rfl, by split <;> split <;> omega, by split <;> split <;> omega⟩
  obtain ⟨m, em, m0, m4⟩ := hm
  rw [← em]
  refine ⟨⟨by decide, by decide, by omega, by omega, by have : sizeLine = 16777216 := rfl; omega⟩, ?_⟩
  refine for_inv (fun xs env => (∃ i : Int, xs = rangeL i m ∧ 0 ≤ i ∧ i ≤ m) ∧ ∃ s : Option AV, env = [some (.d (.list (ns.map .int))), s]) (fun env D D' => body_mono env D D') ?_ ?_ ⟨⟨0, rfl, by omega, m0⟩, _, rfl⟩
  · rintro env ⟨_, s, rfl⟩
    exact q
  · rintro z xs env ⟨⟨i, hx, i0, im⟩, s, rfl⟩
    obtain ⟨rfl, rfl, hlt⟩ := range_cons hx
    simp only [lb_law_1, tgK, setE, wSs, wS, wE, wEs, getE]
    simp only [sp__law_urn, call_W2, w__law_urn]
    refine ⟨⟨⟨ns, rfl⟩, i0, by omega⟩, fun l U => ?_⟩
    refine ⟨l, [], rfl, rfl, U, fun l' => ?_⟩
    simp only [truthK, rdK, truth, Bool.not_true, Bool.false_eq_true, if_false]
    exact ⟨⟨i + 1, rfl, by omega, by omega⟩, _, rfl⟩
end K26

set_option maxRecDepth 100000
set_option maxHeartbeats 1000000
namespace K26
open PySem PySem.Spec PyProof.Rows L2 PF
def top (i : Nat) : Stmt := PySem.Challenge.pw_drawnbywheels_k26_turns.main.body.getD i (.Pass ⟨0, 0, 0, 0⟩)
abbrev t_common_divisor : Stmt := top 5
def n_common_divisor : List Str := ["one", "other"]
theorem s_common_divisor : FnScope n_common_divisor ["one", "other"] (defScope t_common_divisor) := ⟨rfl, rfl, rfl, by decide +kernel, rfl, by decide +kernel, by decide +kernel⟩
theorem c_common_divisor : chkSs ⟨n_common_divisor, defScope t_common_divisor, fun _ => true, []⟩ b_common_divisor (defBody t_common_divisor) = true := by decide +kernel
abbrev t_fraction_of : Stmt := top 6
def n_fraction_of : List Str := ["top", "bottom", "divisor"]
theorem s_fraction_of : FnScope n_fraction_of ["top", "bottom"] (defScope t_fraction_of) := ⟨rfl, rfl, rfl, by decide +kernel, rfl, by decide +kernel, by decide +kernel⟩
theorem c_fraction_of : chkSs ⟨n_fraction_of, defScope t_fraction_of, fun _ => true, []⟩ b_fraction_of (defBody t_fraction_of) = true := by decide +kernel
abbrev t_fraction_sum : Stmt := top 7
def n_fraction_sum : List Str := ["one", "other"]
theorem s_fraction_sum : FnScope n_fraction_sum ["one", "other"] (defScope t_fraction_sum) := ⟨rfl, rfl, rfl, by decide +kernel, rfl, by decide +kernel, by decide +kernel⟩
theorem c_fraction_sum : chkSs ⟨n_fraction_sum, defScope t_fraction_sum, fun _ => true, []⟩ b_fraction_sum (defBody t_fraction_sum) = true := by decide +kernel
abbrev t_fraction_difference : Stmt := top 8
def n_fraction_difference : List Str := ["one", "other"]
theorem s_fraction_difference : FnScope n_fraction_difference ["one", "other"] (defScope t_fraction_difference) := ⟨rfl, rfl, rfl, by decide +kernel, rfl, by decide +kernel, by decide +kernel⟩
theorem c_fraction_difference : chkSs ⟨n_fraction_difference, defScope t_fraction_difference, fun _ => true, []⟩ b_fraction_difference (defBody t_fraction_difference) = true := by decide +kernel
abbrev t_fraction_product : Stmt := top 9
def n_fraction_product : List Str := ["one", "number"]
theorem s_fraction_product : FnScope n_fraction_product ["one", "number"] (defScope t_fraction_product) := ⟨rfl, rfl, rfl, by decide +kernel, rfl, by decide +kernel, by decide +kernel⟩
theorem c_fraction_product : chkSs ⟨n_fraction_product, defScope t_fraction_product, fun _ => true, []⟩ b_fraction_product (defBody t_fraction_product) = true := by decide +kernel
abbrev t_turn_left : Stmt := top 10
def n_turn_left : List Str := ["one"]
theorem s_turn_left : FnScope n_turn_left ["one"] (defScope t_turn_left) := ⟨rfl, rfl, rfl, by decide +kernel, rfl, by decide +kernel, by decide +kernel⟩
theorem c_turn_left : chkSs ⟨n_turn_left, defScope t_turn_left, fun _ => true, []⟩ b_turn_left (defBody t_turn_left) = true := by decide +kernel
abbrev t_turn_sum : Stmt := top 11
def n_turn_sum : List Str := ["one", "other"]
theorem s_turn_sum : FnScope n_turn_sum ["one", "other"] (defScope t_turn_sum) := ⟨rfl, rfl, rfl, by decide +kernel, rfl, by decide +kernel, by decide +kernel⟩
theorem c_turn_sum : chkSs ⟨n_turn_sum, defScope t_turn_sum, fun _ => true, []⟩ b_turn_sum (defBody t_turn_sum) = true := by decide +kernel
abbrev t_turn_difference : Stmt := top 12
def n_turn_difference : List Str := ["one", "other"]
theorem s_turn_difference : FnScope n_turn_difference ["one", "other"] (defScope t_turn_difference) := ⟨rfl, rfl, rfl, by decide +kernel, rfl, by decide +kernel, by decide +kernel⟩
theorem c_turn_difference : chkSs ⟨n_turn_difference, defScope t_turn_difference, fun _ => true, []⟩ b_turn_difference (defBody t_turn_difference) = true := by decide +kernel
abbrev t_turn_product : Stmt := top 13
def n_turn_product : List Str := ["one", "number"]
theorem s_turn_product : FnScope n_turn_product ["one", "number"] (defScope t_turn_product) := ⟨rfl, rfl, rfl, by decide +kernel, rfl, by decide +kernel, by decide +kernel⟩
theorem c_turn_product : chkSs ⟨n_turn_product, defScope t_turn_product, fun _ => true, []⟩ b_turn_product (defBody t_turn_product) = true := by decide +kernel
abbrev t_is_integer : Stmt := top 15
def n_is_integer : List Str := ["thing"]
theorem s_is_integer : FnScope n_is_integer ["thing"] (defScope t_is_integer) := ⟨rfl, rfl, rfl, by decide +kernel, rfl, by decide +kernel, by decide +kernel⟩
theorem c_is_integer : chkSs ⟨n_is_integer, defScope t_is_integer, fun _ => true, []⟩ b_is_integer (defBody t_is_integer) = true := by decide +kernel
abbrev t_is_from : Stmt := top 16
def n_is_from : List Str := ["low", "thing"]
theorem s_is_from : FnScope n_is_from ["low", "thing"] (defScope t_is_from) := ⟨rfl, rfl, rfl, by decide +kernel, rfl, by decide +kernel, by decide +kernel⟩
theorem c_is_from : chkSs ⟨n_is_from, defScope t_is_from, fun _ => true, []⟩ b_is_from (defBody t_is_from) = true := by decide +kernel
abbrev t_is_fraction : Stmt := top 17
def n_is_fraction : List Str := ["thing"]
theorem s_is_fraction : FnScope n_is_fraction ["thing"] (defScope t_is_fraction) := ⟨rfl, rfl, rfl, by decide +kernel, rfl, by decide +kernel, by decide +kernel⟩
theorem c_is_fraction : chkSs ⟨n_is_fraction, defScope t_is_fraction, fun _ => true, []⟩ b_is_fraction (defBody t_is_fraction) = true := by decide +kernel
abbrev t_is_turn : Stmt := top 18
def n_is_turn : List Str := ["thing"]
theorem s_is_turn : FnScope n_is_turn ["thing"] (defScope t_is_turn) := ⟨rfl, rfl, rfl, by decide +kernel, rfl, by decide +kernel, by decide +kernel⟩
theorem c_is_turn : chkSs ⟨n_is_turn, defScope t_is_turn, fun _ => true, []⟩ b_is_turn (defBody t_is_turn) = true := by decide +kernel
abbrev t_check_turn : Stmt := top 19
def n_check_turn : List Str := ["thing"]
theorem s_check_turn : FnScope n_check_turn ["thing"] (defScope t_check_turn) := ⟨rfl, rfl, rfl, by decide +kernel, rfl, by decide +kernel, by decide +kernel⟩
theorem c_check_turn : chkSs ⟨n_check_turn, defScope t_check_turn, fun _ => true, []⟩ b_check_turn (defBody t_check_turn) = true := by decide +kernel
abbrev t_part_in : Stmt := top 23
def n_part_in : List Str := ["turn", "part"]
theorem s_part_in : FnScope n_part_in ["turn"] (defScope t_part_in) := ⟨rfl, rfl, rfl, by decide +kernel, rfl, by decide +kernel, by decide +kernel⟩
theorem c_part_in : chkSs ⟨n_part_in, defScope t_part_in, fun _ => true, []⟩ b_part_in (defBody t_part_in) = true := by decide +kernel
abbrev t_turn_of : Stmt := top 24
def n_turn_of : List Str := ["top", "bottom"]
theorem s_turn_of : FnScope n_turn_of ["top", "bottom"] (defScope t_turn_of) := ⟨rfl, rfl, rfl, by decide +kernel, rfl, by decide +kernel, by decide +kernel⟩
theorem c_turn_of : chkSs ⟨n_turn_of, defScope t_turn_of, fun _ => true, []⟩ b_turn_of (defBody t_turn_of) = true := by decide +kernel
abbrev t_added : Stmt := top 25
def n_added : List Str := ["turn", "other_turn"]
theorem s_added : FnScope n_added ["turn", "other_turn"] (defScope t_added) := ⟨rfl, rfl, rfl, by decide +kernel, rfl, by decide +kernel, by decide +kernel⟩
theorem c_added : chkSs ⟨n_added, defScope t_added, fun _ => true, []⟩ b_added (defBody t_added) = true := by decide +kernel
abbrev t_taken : Stmt := top 26
def n_taken : List Str := ["turn", "other_turn"]
theorem s_taken : FnScope n_taken ["turn", "other_turn"] (defScope t_taken) := ⟨rfl, rfl, rfl, by decide +kernel, rfl, by decide +kernel, by decide +kernel⟩
theorem c_taken : chkSs ⟨n_taken, defScope t_taken, fun _ => true, []⟩ b_taken (defBody t_taken) = true := by decide +kernel
abbrev t_times : Stmt := top 27
def n_times : List Str := ["turn", "factor"]
theorem s_times : FnScope n_times ["turn", "factor"] (defScope t_times) := ⟨rfl, rfl, rfl, by decide +kernel, rfl, by decide +kernel, by decide +kernel⟩
theorem c_times : chkSs ⟨n_times, defScope t_times, fun _ => true, []⟩ b_times (defBody t_times) = true := by decide +kernel
abbrev t_part_of : Stmt := top 28
def n_part_of : List Str := ["turn"]
theorem s_part_of : FnScope n_part_of ["turn"] (defScope t_part_of) := ⟨rfl, rfl, rfl, by decide +kernel, rfl, by decide +kernel, by decide +kernel⟩
theorem c_part_of : chkSs ⟨n_part_of, defScope t_part_of, fun _ => true, []⟩ b_part_of (defBody t_part_of) = true := by decide +kernel
abbrev t_is_kept : Stmt := top 29
def n_is_kept : List Str := ["turn", "part", "prime"]
theorem s_is_kept : FnScope n_is_kept ["turn"] (defScope t_is_kept) := ⟨rfl, rfl, rfl, by decide +kernel, rfl, by decide +kernel, by decide +kernel⟩
theorem c_is_kept : chkSs ⟨n_is_kept, defScope t_is_kept, fun _ => true, []⟩ b_is_kept (defBody t_is_kept) = true := by decide +kernel
abbrev t__law_urn : Stmt := top 31
def n__law_urn : List Str := ["_law_script", "_law_k", "_law_cell"]
theorem s__law_urn : FnScope n__law_urn ["_law_script", "_law_k"] (defScope t__law_urn) := ⟨rfl, rfl, rfl, by decide +kernel, rfl, by decide +kernel, by decide +kernel⟩
theorem c__law_urn : chkSs ⟨n__law_urn, defScope t__law_urn, fun _ => true, []⟩ b__law_urn (defBody t__law_urn) = true := by decide +kernel
abbrev t__law_pick : Stmt := top 32
def n__law_pick : List Str := ["_law_urn_here", "_law_many", "_law_mixed", "_law_found"]
theorem s__law_pick : FnScope n__law_pick ["_law_urn_here", "_law_many"] (defScope t__law_pick) := ⟨rfl, rfl, rfl, by decide +kernel, rfl, by decide +kernel, by decide +kernel⟩
theorem c__law_pick : chkSs ⟨n__law_pick, defScope t__law_pick, fun _ => true, [0]⟩ b__law_pick (defBody t__law_pick) = true := by decide +kernel
abbrev t__law_common : Stmt := top 33
def n__law_common : List Str := ["_law_one", "_law_other", "_law_go", "_law_rest"]
theorem s__law_common : FnScope n__law_common ["_law_one", "_law_other"] (defScope t__law_common) := ⟨rfl, rfl, rfl, by decide +kernel, rfl, by decide +kernel, by decide +kernel⟩
theorem c__law_common : chkSs ⟨n__law_common, defScope t__law_common, fun _ => true, []⟩ b__law_common (defBody t__law_common) = true := by decide +kernel
abbrev t__law_fraction : Stmt := top 34
def n__law_fraction : List Str := ["_law_up", "_law_under", "_law_divisor"]
theorem s__law_fraction : FnScope n__law_fraction ["_law_up", "_law_under"] (defScope t__law_fraction) := ⟨rfl, rfl, rfl, by decide +kernel, rfl, by decide +kernel, by decide +kernel⟩
theorem c__law_fraction : chkSs ⟨n__law_fraction, defScope t__law_fraction, fun _ => true, []⟩ b__law_fraction (defBody t__law_fraction) = true := by decide +kernel
abbrev t__law_left : Stmt := top 35
def n__law_left : List Str := ["_law_up", "_law_under"]
theorem s__law_left : FnScope n__law_left ["_law_up", "_law_under"] (defScope t__law_left) := ⟨rfl, rfl, rfl, by decide +kernel, rfl, by decide +kernel, by decide +kernel⟩
theorem c__law_left : chkSs ⟨n__law_left, defScope t__law_left, fun _ => true, []⟩ b__law_left (defBody t__law_left) = true := by decide +kernel
abbrev t__law_whole : Stmt := top 36
def n__law_whole : List Str := ["_law_thing"]
theorem s__law_whole : FnScope n__law_whole ["_law_thing"] (defScope t__law_whole) := ⟨rfl, rfl, rfl, by decide +kernel, rfl, by decide +kernel, by decide +kernel⟩
theorem c__law_whole : chkSs ⟨n__law_whole, defScope t__law_whole, fun _ => true, []⟩ b__law_whole (defBody t__law_whole) = true := by decide +kernel
abbrev t__law_is_turn : Stmt := top 37
def n__law_is_turn : List Str := ["_law_thing"]
theorem s__law_is_turn : FnScope n__law_is_turn ["_law_thing"] (defScope t__law_is_turn) := ⟨rfl, rfl, rfl, by decide +kernel, rfl, by decide +kernel, by decide +kernel⟩
theorem c__law_is_turn : chkSs ⟨n__law_is_turn, defScope t__law_is_turn, fun _ => true, []⟩ b__law_is_turn (defBody t__law_is_turn) = true := by decide +kernel
abbrev t__law_drawn_turn : Stmt := top 38
def n__law_drawn_turn : List Str := ["_law_urn_here", "_law_under"]
theorem s__law_drawn_turn : FnScope n__law_drawn_turn ["_law_urn_here"] (defScope t__law_drawn_turn) := ⟨rfl, rfl, rfl, by decide +kernel, rfl, by decide +kernel, by decide +kernel⟩
theorem c__law_drawn_turn : chkSs ⟨n__law_drawn_turn, defScope t__law_drawn_turn, fun _ => true, [0]⟩ b__law_drawn_turn (defBody t__law_drawn_turn) = true := by decide +kernel
abbrev t__law_far : Stmt := top 39
def n__law_far : List Str := ["_law_urn_here"]
theorem s__law_far : FnScope n__law_far ["_law_urn_here"] (defScope t__law_far) := ⟨rfl, rfl, rfl, by decide +kernel, rfl, by decide +kernel, by decide +kernel⟩
theorem c__law_far : chkSs ⟨n__law_far, defScope t__law_far, fun _ => true, [0]⟩ b__law_far (defBody t__law_far) = true := by decide +kernel
abbrev t__law_is_left : Stmt := top 40
def n__law_is_left : List Str := ["_law_thing", "_law_up", "_law_under"]
theorem s__law_is_left : FnScope n__law_is_left ["_law_thing", "_law_up", "_law_under"] (defScope t__law_is_left) := ⟨rfl, rfl, rfl, by decide +kernel, rfl, by decide +kernel, by decide +kernel⟩
theorem c__law_is_left : chkSs ⟨n__law_is_left, defScope t__law_is_left, fun _ => true, []⟩ b__law_is_left (defBody t__law_is_left) = true := by decide +kernel
abbrev t__law_sums_right : Stmt := top 41
def n__law_sums_right : List Str := ["_law_urn_here", "_law_one", "_law_two", "_law_total", "_law_less", "_law_sizes", "_law_found", "_law_k"]
theorem s__law_sums_right : FnScope n__law_sums_right ["_law_urn_here", "_law_one", "_law_two"] (defScope t__law_sums_right) := ⟨rfl, rfl, rfl, by decide +kernel, rfl, by decide +kernel, by decide +kernel⟩
theorem c__law_sums_right : chkSs ⟨n__law_sums_right, defScope t__law_sums_right, fun _ => true, [0]⟩ b__law_sums_right (defBody t__law_sums_right) = true := by decide +kernel
abbrev t__law_part_right : Stmt := top 42
def n__law_part_right : List Str := ["_law_one", "_law_told", "_law_kept", "_law_part", "_law_rest", "_law_p"]
theorem s__law_part_right : FnScope n__law_part_right ["_law_one"] (defScope t__law_part_right) := ⟨rfl, rfl, rfl, by decide +kernel, rfl, by decide +kernel, by decide +kernel⟩
theorem c__law_part_right : chkSs ⟨n__law_part_right, defScope t__law_part_right, fun _ => true, []⟩ b__law_part_right (defBody t__law_part_right) = true := by decide +kernel
abbrev t__law_right : Stmt := top 43
def n__law_right : List Str := ["_law_urn_here", "_law_told", "_law_part", "_law_beside", "_law_step", "_law_near", "_law_drawn", "_law_one", "_law_up", "_law_under", "_law_k"]
theorem s__law_right : FnScope n__law_right ["_law_urn_here"] (defScope t__law_right) := ⟨rfl, rfl, rfl, by decide +kernel, rfl, by decide +kernel, by decide +kernel⟩
theorem c__law_right : chkSs ⟨n__law_right, defScope t__law_right, fun _ => true, [0]⟩ b__law_right (defBody t__law_right) = true := by decide +kernel
abbrev t_law : Stmt := top 44
def n_law : List Str := ["_law_script", "_law_k"]
theorem s_law : FnScope n_law ["_law_script"] (defScope t_law) := ⟨rfl, rfl, rfl, by decide +kernel, rfl, by decide +kernel, by decide +kernel⟩
theorem c_law : chkSs ⟨n_law, defScope t_law, fun _ => true, []⟩ b_law (defBody t_law) = true := by decide +kernel
section
variable {P : Program} {w : World} {K : PySem.W.Frag} {mg : Str → Option Value} {base : Heap}
set_option maxHeartbeats 0 in
theorem chain {f_common_divisor : Addr} {d_common_divisor : FuncData} (F_common_divisor : FP K "common_divisor" t_common_divisor f_common_divisor d_common_divisor) (g_common_divisor : mg "common_divisor" = some (.ref f_common_divisor)) {f_fraction_of : Addr} {d_fraction_of : FuncData} (F_fraction_of : FP K "fraction_of" t_fraction_of f_fraction_of d_fraction_of) (g_fraction_of : mg "fraction_of" = some (.ref f_fraction_of)) {f_fraction_sum : Addr} {d_fraction_sum : FuncData} (F_fraction_sum : FP K "fraction_sum" t_fraction_sum f_fraction_sum d_fraction_sum) (g_fraction_sum : mg "fraction_sum" = some (.ref f_fraction_sum)) {f_fraction_difference : Addr} {d_fraction_difference : FuncData} (F_fraction_difference : FP K "fraction_difference" t_fraction_difference f_fraction_difference d_fraction_difference) (g_fraction_difference : mg "fraction_difference" = some (.ref f_fraction_difference)) {f_fraction_product : Addr} {d_fraction_product : FuncData} (F_fraction_product : FP K "fraction_product" t_fraction_product f_fraction_product d_fraction_product) (g_fraction_product : mg "fraction_product" = some (.ref f_fraction_product)) {f_turn_left : Addr} {d_turn_left : FuncData} (F_turn_left : FP K "turn_left" t_turn_left f_turn_left d_turn_left) (g_turn_left : mg "turn_left" = some (.ref f_turn_left)) {f_turn_sum : Addr} {d_turn_sum : FuncData} (F_turn_sum : FP K "turn_sum" t_turn_sum f_turn_sum d_turn_sum) (g_turn_sum : mg "turn_sum" = some (.ref f_turn_sum)) {f_turn_difference : Addr} {d_turn_difference : FuncData} (F_turn_difference : FP K "turn_difference" t_turn_difference f_turn_difference d_turn_difference) (g_turn_difference : mg "turn_difference" = some (.ref f_turn_difference)) {f_turn_product : Addr} {d_turn_product : FuncData} (F_turn_product : FP K "turn_product" t_turn_product f_turn_product d_turn_product) (g_turn_product : mg "turn_product" = some (.ref f_turn_product)) {f_is_integer : Addr} {d_is_integer : FuncData} (F_is_integer : FP K "is_integer" t_is_integer f_is_integer d_is_integer) (g_is_integer : mg "is_integer" = some (.ref f_is_integer)) {f_is_from : Addr} {d_is_from : FuncData} (F_is_from : FP K "is_from" t_is_from f_is_from d_is_from) (g_is_from : mg "is_from" = some (.ref f_is_from)) {f_is_fraction : Addr} {d_is_fraction : FuncData} (F_is_fraction : FP K "is_fraction" t_is_fraction f_is_fraction d_is_fraction) (g_is_fraction : mg "is_fraction" = some (.ref f_is_fraction)) {f_is_turn : Addr} {d_is_turn : FuncData} (F_is_turn : FP K "is_turn" t_is_turn f_is_turn d_is_turn) (g_is_turn : mg "is_turn" = some (.ref f_is_turn)) {f_check_turn : Addr} {d_check_turn : FuncData} (F_check_turn : FP K "check_turn" t_check_turn f_check_turn d_check_turn) (g_check_turn : mg "check_turn" = some (.ref f_check_turn)) {f_part_in : Addr} {d_part_in : FuncData} (F_part_in : FP K "part_in" t_part_in f_part_in d_part_in) (g_part_in : mg "part_in" = some (.ref f_part_in)) {f_turn_of : Addr} {d_turn_of : FuncData} (F_turn_of : FP K "turn_of" t_turn_of f_turn_of d_turn_of) (g_turn_of : mg "turn_of" = some (.ref f_turn_of)) {f_added : Addr} {d_added : FuncData} (F_added : FP K "added" t_added f_added d_added) (g_added : mg "added" = some (.ref f_added)) {f_taken : Addr} {d_taken : FuncData} (F_taken : FP K "taken" t_taken f_taken d_taken) (g_taken : mg "taken" = some (.ref f_taken)) {f_times : Addr} {d_times : FuncData} (F_times : FP K "times" t_times f_times d_times) (g_times : mg "times" = some (.ref f_times)) {f_part_of : Addr} {d_part_of : FuncData} (F_part_of : FP K "part_of" t_part_of f_part_of d_part_of) (g_part_of : mg "part_of" = some (.ref f_part_of)) {f_is_kept : Addr} {d_is_kept : FuncData} (F_is_kept : FP K "is_kept" t_is_kept f_is_kept d_is_kept) (g_is_kept : mg "is_kept" = some (.ref f_is_kept)) {f__law_urn : Addr} {d__law_urn : FuncData} (F__law_urn : FP K "_law_urn" t__law_urn f__law_urn d__law_urn) (g__law_urn : mg "_law_urn" = some (.ref f__law_urn)) {f__law_pick : Addr} {d__law_pick : FuncData} (F__law_pick : FP K "_law_pick" t__law_pick f__law_pick d__law_pick) (g__law_pick : mg "_law_pick" = some (.ref f__law_pick)) {f__law_common : Addr} {d__law_common : FuncData} (F__law_common : FP K "_law_common" t__law_common f__law_common d__law_common) (g__law_common : mg "_law_common" = some (.ref f__law_common)) {f__law_fraction : Addr} {d__law_fraction : FuncData} (F__law_fraction : FP K "_law_fraction" t__law_fraction f__law_fraction d__law_fraction) (g__law_fraction : mg "_law_fraction" = some (.ref f__law_fraction)) {f__law_left : Addr} {d__law_left : FuncData} (F__law_left : FP K "_law_left" t__law_left f__law_left d__law_left) (g__law_left : mg "_law_left" = some (.ref f__law_left)) {f__law_whole : Addr} {d__law_whole : FuncData} (F__law_whole : FP K "_law_whole" t__law_whole f__law_whole d__law_whole) (g__law_whole : mg "_law_whole" = some (.ref f__law_whole)) {f__law_is_turn : Addr} {d__law_is_turn : FuncData} (F__law_is_turn : FP K "_law_is_turn" t__law_is_turn f__law_is_turn d__law_is_turn) (g__law_is_turn : mg "_law_is_turn" = some (.ref f__law_is_turn)) {f__law_drawn_turn : Addr} {d__law_drawn_turn : FuncData} (F__law_drawn_turn : FP K "_law_drawn_turn" t__law_drawn_turn f__law_drawn_turn d__law_drawn_turn) (g__law_drawn_turn : mg "_law_drawn_turn" = some (.ref f__law_drawn_turn)) {f__law_far : Addr} {d__law_far : FuncData} (F__law_far : FP K "_law_far" t__law_far f__law_far d__law_far) (g__law_far : mg "_law_far" = some (.ref f__law_far)) {f__law_is_left : Addr} {d__law_is_left : FuncData} (F__law_is_left : FP K "_law_is_left" t__law_is_left f__law_is_left d__law_is_left) (g__law_is_left : mg "_law_is_left" = some (.ref f__law_is_left)) {f__law_sums_right : Addr} {d__law_sums_right : FuncData} (F__law_sums_right : FP K "_law_sums_right" t__law_sums_right f__law_sums_right d__law_sums_right) (g__law_sums_right : mg "_law_sums_right" = some (.ref f__law_sums_right)) {f__law_part_right : Addr} {d__law_part_right : FuncData} (F__law_part_right : FP K "_law_part_right" t__law_part_right f__law_part_right d__law_part_right) (g__law_part_right : mg "_law_part_right" = some (.ref f__law_part_right)) {f__law_right : Addr} {d__law_right : FuncData} (F__law_right : FP K "_law_right" t__law_right f__law_right d__law_right) (g__law_right : mg "_law_right" = some (.ref f__law_right)) {f_law : Addr} {d_law : FuncData} (F_law : FP K "law" t_law f_law d_law) (g_law : mg "law" = some (.ref f_law)) (G_PARTS : GlobOk K mg "PARTS" gv_PARTS) (G_PRIMES : GlobOk K mg "PRIMES" gv_PRIMES) (hbn : ∀ x ∈ bnames, mg x = none) : FnG P w K mg base 9 f_law d_law ["_law_script"] (liftSp K sp_law) := by
  have h_common_divisor : FnG P w K mg base 1 f_common_divisor d_common_divisor ["one", "other"] (liftSp K sp_common_divisor) := by
    refine fn_g (k := 0) (fun_of F_common_divisor) s_common_divisor p_common_divisor c_common_divisor ?_ hbn
    simp only [b_common_divisor, lc_common_divisor_1, lb_common_divisor_2, okSs, okS, okE, okEs, okIt, lkOf, and_true, true_and]
  have k_common_divisor : CallOk P w K mg base 1 "common_divisor" sp_common_divisor := call_of F_common_divisor g_common_divisor h_common_divisor (fun _ _ _ _ _ _ us hl => match us, hl with | [_, _], _ => rfl)
  have h_fraction_of : FnG P w K mg base 2 f_fraction_of d_fraction_of ["top", "bottom"] (liftSp K sp_fraction_of) := by
    refine fn_g (k := 1) (fun_of F_fraction_of) s_fraction_of p_fraction_of c_fraction_of ?_ hbn
    simp only [b_fraction_of, okSs, okS, okE, okEs, okIt, lkOf, and_true, true_and]
    (repeat' apply And.intro) <;> first | exact trivial | exact k_common_divisor.mono (by decide)
  have k_fraction_of : CallOk P w K mg base 2 "fraction_of" sp_fraction_of := call_of F_fraction_of g_fraction_of h_fraction_of (fun _ _ _ _ _ _ us hl => match us, hl with | [_, _], _ => rfl)
  have h_fraction_sum : FnG P w K mg base 3 f_fraction_sum d_fraction_sum ["one", "other"] (liftSp K sp_fraction_sum) := by
    refine fn_g (k := 2) (fun_of F_fraction_sum) s_fraction_sum p_fraction_sum c_fraction_sum ?_ hbn
    simp only [b_fraction_sum, okSs, okS, okE, okEs, okIt, lkOf, and_true, true_and]
    (repeat' apply And.intro) <;> first | exact trivial | exact k_fraction_of.mono (by decide)
  have k_fraction_sum : CallOk P w K mg base 3 "fraction_sum" sp_fraction_sum := call_of F_fraction_sum g_fraction_sum h_fraction_sum (fun _ _ _ _ _ _ us hl => match us, hl with | [_, _], _ => rfl)
  have h_fraction_difference : FnG P w K mg base 3 f_fraction_difference d_fraction_difference ["one", "other"] (liftSp K sp_fraction_difference) := by
    refine fn_g (k := 2) (fun_of F_fraction_difference) s_fraction_difference p_fraction_difference c_fraction_difference ?_ hbn
    simp only [b_fraction_difference, okSs, okS, okE, okEs, okIt, lkOf, and_true, true_and]
    (repeat' apply And.intro) <;> first | exact trivial | exact k_fraction_of.mono (by decide)
  have k_fraction_difference : CallOk P w K mg base 3 "fraction_difference" sp_fraction_difference := call_of F_fraction_difference g_fraction_difference h_fraction_difference (fun _ _ _ _ _ _ us hl => match us, hl with | [_, _], _ => rfl)
  have h_fraction_product : FnG P w K mg base 3 f_fraction_product d_fraction_product ["one", "number"] (liftSp K sp_fraction_product) := by
    refine fn_g (k := 2) (fun_of F_fraction_product) s_fraction_product p_fraction_product c_fraction_product ?_ hbn
    simp only [b_fraction_product, okSs, okS, okE, okEs, okIt, lkOf, and_true, true_and]
    (repeat' apply And.intro) <;> first | exact trivial | exact k_fraction_of.mono (by decide)
  have k_fraction_product : CallOk P w K mg base 3 "fraction_product" sp_fraction_product := call_of F_fraction_product g_fraction_product h_fraction_product (fun _ _ _ _ _ _ us hl => match us, hl with | [_, _], _ => rfl)
  have h_turn_left : FnG P w K mg base 1 f_turn_left d_turn_left ["one"] (liftSp K sp_turn_left) := by
    refine fn_g (k := 0) (fun_of F_turn_left) s_turn_left p_turn_left c_turn_left ?_ hbn
    simp only [b_turn_left, okSs, okS, okE, okEs, okIt, lkOf, and_true, true_and]
  have k_turn_left : CallOk P w K mg base 1 "turn_left" sp_turn_left := call_of F_turn_left g_turn_left h_turn_left (fun _ _ _ _ _ _ us hl => match us, hl with | [_], _ => rfl)
  have h_turn_sum : FnG P w K mg base 4 f_turn_sum d_turn_sum ["one", "other"] (liftSp K sp_turn_sum) := by
    refine fn_g (k := 3) (fun_of F_turn_sum) s_turn_sum p_turn_sum c_turn_sum ?_ hbn
    simp only [b_turn_sum, okSs, okS, okE, okEs, okIt, lkOf, and_true, true_and]
    (repeat' apply And.intro) <;> first | exact trivial | exact k_turn_left.mono (by decide) | exact k_fraction_sum.mono (by decide)
  have k_turn_sum : CallOk P w K mg base 4 "turn_sum" sp_turn_sum := call_of F_turn_sum g_turn_sum h_turn_sum (fun _ _ _ _ _ _ us hl => match us, hl with | [_, _], _ => rfl)
  have h_turn_difference : FnG P w K mg base 4 f_turn_difference d_turn_difference ["one", "other"] (liftSp K sp_turn_difference) := by
    refine fn_g (k := 3) (fun_of F_turn_difference) s_turn_difference p_turn_difference c_turn_difference ?_ hbn
    simp only [b_turn_difference, okSs, okS, okE, okEs, okIt, lkOf, and_true, true_and]
    (repeat' apply And.intro) <;> first | exact trivial | exact k_turn_left.mono (by decide) | exact k_fraction_difference.mono (by decide)
  have k_turn_difference : CallOk P w K mg base 4 "turn_difference" sp_turn_difference := call_of F_turn_difference g_turn_difference h_turn_difference (fun _ _ _ _ _ _ us hl => match us, hl with | [_, _], _ => rfl)
  have h_turn_product : FnG P w K mg base 4 f_turn_product d_turn_product ["one", "number"] (liftSp K sp_turn_product) := by
    refine fn_g (k := 3) (fun_of F_turn_product) s_turn_product p_turn_product c_turn_product ?_ hbn
    simp only [b_turn_product, okSs, okS, okE, okEs, okIt, lkOf, and_true, true_and]
    (repeat' apply And.intro) <;> first | exact trivial | exact k_turn_left.mono (by decide) | exact k_fraction_product.mono (by decide)
  have k_turn_product : CallOk P w K mg base 4 "turn_product" sp_turn_product := call_of F_turn_product g_turn_product h_turn_product (fun _ _ _ _ _ _ us hl => match us, hl with | [_, _], _ => rfl)
  have h_is_integer : FnG P w K mg base 1 f_is_integer d_is_integer ["thing"] (liftSp K sp_is_integer) := by
    refine fn_g (k := 0) (fun_of F_is_integer) s_is_integer p_is_integer c_is_integer ?_ hbn
    simp only [b_is_integer, okSs, okS, okE, okEs, okIt, lkOf, and_true, true_and]
  have k_is_integer : CallOk P w K mg base 1 "is_integer" sp_is_integer := call_of F_is_integer g_is_integer h_is_integer (fun _ _ _ _ _ _ us hl => match us, hl with | [_], _ => rfl)
  have h_is_from : FnG P w K mg base 2 f_is_from d_is_from ["low", "thing"] (liftSp K sp_is_from) := by
    refine fn_g (k := 1) (fun_of F_is_from) s_is_from p_is_from c_is_from ?_ hbn
    simp only [b_is_from, okSs, okS, okE, okEs, okIt, lkOf, and_true, true_and]
    (repeat' apply And.intro) <;> first | exact trivial | exact k_is_integer.mono (by decide)
  have k_is_from : CallOk P w K mg base 2 "is_from" sp_is_from := call_of F_is_from g_is_from h_is_from (fun _ _ _ _ _ _ us hl => match us, hl with | [_, _], _ => rfl)
  have h_is_fraction : FnG P w K mg base 3 f_is_fraction d_is_fraction ["thing"] (liftSp K sp_is_fraction) := by
    refine fn_g (k := 2) (fun_of F_is_fraction) s_is_fraction p_is_fraction c_is_fraction ?_ hbn
    simp only [b_is_fraction, okSs, okS, okE, okEs, okIt, lkOf, and_true, true_and]
    (repeat' apply And.intro) <;> first | exact trivial | exact k_is_from.mono (by decide) | exact k_is_integer.mono (by decide) | exact k_common_divisor.mono (by decide)
  have k_is_fraction : CallOk P w K mg base 3 "is_fraction" sp_is_fraction := call_of F_is_fraction g_is_fraction h_is_fraction (fun _ _ _ _ _ _ us hl => match us, hl with | [_], _ => rfl)
  have h_is_turn : FnG P w K mg base 4 f_is_turn d_is_turn ["thing"] (liftSp K sp_is_turn) := by
    refine fn_g (k := 3) (fun_of F_is_turn) s_is_turn p_is_turn c_is_turn ?_ hbn
    simp only [b_is_turn, okSs, okS, okE, okEs, okIt, lkOf, and_true, true_and]
    (repeat' apply And.intro) <;> first | exact trivial | exact k_is_fraction.mono (by decide)
  have k_is_turn : CallOk P w K mg base 4 "is_turn" sp_is_turn := call_of F_is_turn g_is_turn h_is_turn (fun _ _ _ _ _ _ us hl => match us, hl with | [_], _ => rfl)
  have h_check_turn : FnG P w K mg base 5 f_check_turn d_check_turn ["thing"] (liftSp K sp_check_turn) := by
    refine fn_g (k := 4) (fun_of F_check_turn) s_check_turn p_check_turn c_check_turn ?_ hbn
    simp only [b_check_turn, okSs, okS, okE, okEs, okIt, lkOf, and_true, true_and]
    (repeat' apply And.intro) <;> first | exact trivial | exact k_is_turn.mono (by decide)
  have k_check_turn : CallOk P w K mg base 5 "check_turn" sp_check_turn := call_of F_check_turn g_check_turn h_check_turn (fun _ _ _ _ _ _ us hl => match us, hl with | [_], _ => rfl)
  have h_part_in : FnG P w K mg base 4 f_part_in d_part_in ["turn"] (liftSp K sp_part_in) := by
    refine fn_g (k := 3) (fun_of F_part_in) s_part_in p_part_in c_part_in ?_ hbn
    simp only [b_part_in, okSs, okS, okE, okEs, okIt, lkOf, and_true, true_and]
    (repeat' apply And.intro) <;> first | exact trivial | exact k_fraction_difference.mono (by decide) | exact k_fraction_of.mono (by decide) | exact G_PARTS
  have k_part_in : CallOk P w K mg base 4 "part_in" sp_part_in := call_of F_part_in g_part_in h_part_in (fun _ _ _ _ _ _ us hl => match us, hl with | [_], _ => rfl)
  have h_turn_of : FnG P w K mg base 3 f_turn_of d_turn_of ["top", "bottom"] (liftSp K sp_turn_of) := by
    refine fn_g (k := 2) (fun_of F_turn_of) s_turn_of p_turn_of c_turn_of ?_ hbn
    simp only [b_turn_of, okSs, okS, okE, okEs, okIt, lkOf, and_true, true_and]
    (repeat' apply And.intro) <;> first | exact trivial | exact k_is_from.mono (by decide) | exact k_is_integer.mono (by decide) | exact k_turn_left.mono (by decide) | exact k_fraction_of.mono (by decide)
  have k_turn_of : CallOk P w K mg base 3 "turn_of" sp_turn_of := call_of F_turn_of g_turn_of h_turn_of (fun _ _ _ _ _ _ us hl => match us, hl with | [_, _], _ => rfl)
  have kk_turn_of_bottom_top : CallKOk P w K mg base 3 "turn_of" sp_turn_of ["top", "bottom"] ["bottom", "top"] := callK_of F_turn_of g_turn_of h_turn_of (fun _ _ _ _ _ _ ws hl => match ws, hl with | [u0, u1], _ => ⟨[u1, u0], rfl, rfl⟩)
  have h_added : FnG P w K mg base 6 f_added d_added ["turn", "other_turn"] (liftSp K sp_added) := by
    refine fn_g (k := 5) (fun_of F_added) s_added p_added c_added ?_ hbn
    simp only [b_added, okSs, okS, okE, okEs, okIt, lkOf, and_true, true_and]
    (repeat' apply And.intro) <;> first | exact trivial | exact k_check_turn.mono (by decide) | exact k_turn_sum.mono (by decide)
  have k_added : CallOk P w K mg base 6 "added" sp_added := call_of F_added g_added h_added (fun _ _ _ _ _ _ us hl => match us, hl with | [_, _], _ => rfl)
  have kk_added_other_turn_turn : CallKOk P w K mg base 6 "added" sp_added ["turn", "other_turn"] ["other_turn", "turn"] := callK_of F_added g_added h_added (fun _ _ _ _ _ _ ws hl => match ws, hl with | [u0, u1], _ => ⟨[u1, u0], rfl, rfl⟩)
  have h_taken : FnG P w K mg base 6 f_taken d_taken ["turn", "other_turn"] (liftSp K sp_taken) := by
    refine fn_g (k := 5) (fun_of F_taken) s_taken p_taken c_taken ?_ hbn
    simp only [b_taken, okSs, okS, okE, okEs, okIt, lkOf, and_true, true_and]
    (repeat' apply And.intro) <;> first | exact trivial | exact k_check_turn.mono (by decide) | exact k_turn_difference.mono (by decide)
  have k_taken : CallOk P w K mg base 6 "taken" sp_taken := call_of F_taken g_taken h_taken (fun _ _ _ _ _ _ us hl => match us, hl with | [_, _], _ => rfl)
  have kk_taken_other_turn_turn : CallKOk P w K mg base 6 "taken" sp_taken ["turn", "other_turn"] ["other_turn", "turn"] := callK_of F_taken g_taken h_taken (fun _ _ _ _ _ _ ws hl => match ws, hl with | [u0, u1], _ => ⟨[u1, u0], rfl, rfl⟩)
  have h_times : FnG P w K mg base 6 f_times d_times ["turn", "factor"] (liftSp K sp_times) := by
    refine fn_g (k := 5) (fun_of F_times) s_times p_times c_times ?_ hbn
    simp only [b_times, okSs, okS, okE, okEs, okIt, lkOf, and_true, true_and]
    (repeat' apply And.intro) <;> first | exact trivial | exact k_check_turn.mono (by decide) | exact k_is_integer.mono (by decide) | exact k_turn_product.mono (by decide)
  have k_times : CallOk P w K mg base 6 "times" sp_times := call_of F_times g_times h_times (fun _ _ _ _ _ _ us hl => match us, hl with | [_, _], _ => rfl)
  have kk_times_factor_turn : CallKOk P w K mg base 6 "times" sp_times ["turn", "factor"] ["factor", "turn"] := callK_of F_times g_times h_times (fun _ _ _ _ _ _ ws hl => match ws, hl with | [u0, u1], _ => ⟨[u1, u0], rfl, rfl⟩)
  have h_part_of : FnG P w K mg base 6 f_part_of d_part_of ["turn"] (liftSp K sp_part_of) := by
    refine fn_g (k := 5) (fun_of F_part_of) s_part_of p_part_of c_part_of ?_ hbn
    simp only [b_part_of, okSs, okS, okE, okEs, okIt, lkOf, and_true, true_and]
    (repeat' apply And.intro) <;> first | exact trivial | exact k_check_turn.mono (by decide) | exact k_part_in.mono (by decide)
  have k_part_of : CallOk P w K mg base 6 "part_of" sp_part_of := call_of F_part_of g_part_of h_part_of (fun _ _ _ _ _ _ us hl => match us, hl with | [_], _ => rfl)
  have kk_part_of_turn : CallKOk P w K mg base 6 "part_of" sp_part_of ["turn"] ["turn"] := callK_of F_part_of g_part_of h_part_of (fun _ _ _ _ _ _ ws hl => match ws, hl with | [u0], _ => ⟨[u0], rfl, rfl⟩)
  have h_is_kept : FnG P w K mg base 6 f_is_kept d_is_kept ["turn"] (liftSp K sp_is_kept) := by
    refine fn_g (k := 5) (fun_of F_is_kept) s_is_kept p_is_kept c_is_kept ?_ hbn
    simp only [b_is_kept, ce_is_kept_1, okSs, okS, okE, okEs, okIt, lkOf, and_true, true_and]
    (repeat' apply And.intro) <;> first | exact trivial | exact k_check_turn.mono (by decide) | exact k_part_in.mono (by decide) | exact G_PRIMES
  have k_is_kept : CallOk P w K mg base 6 "is_kept" sp_is_kept := call_of F_is_kept g_is_kept h_is_kept (fun _ _ _ _ _ _ us hl => match us, hl with | [_], _ => rfl)
  have kk_is_kept_turn : CallKOk P w K mg base 6 "is_kept" sp_is_kept ["turn"] ["turn"] := callK_of F_is_kept g_is_kept h_is_kept (fun _ _ _ _ _ _ ws hl => match ws, hl with | [u0], _ => ⟨[u0], rfl, rfl⟩)
  have h__law_urn : FnG P w K mg base 1 f__law_urn d__law_urn ["_law_script", "_law_k"] (liftSp K sp__law_urn) := by
    refine fn_g (k := 0) (fun_of F__law_urn) s__law_urn p__law_urn c__law_urn ?_ hbn
    simp only [b__law_urn, okSs, okS, okE, okEs, okIt, lkOf, and_true, true_and]
  have k__law_urn : CallOk P w K mg base 1 "_law_urn" sp__law_urn := call_of F__law_urn g__law_urn h__law_urn (fun _ _ _ _ _ _ us hl => match us, hl with | [_, _], _ => rfl)
  have h__law_pick : FnG P w K mg base 1 f__law_pick d__law_pick ["_law_urn_here", "_law_many"] (liftSp K sp__law_pick) := by
    refine fn_g (k := 0) (fun_of F__law_pick) s__law_pick p__law_pick c__law_pick ?_ hbn
    simp only [b__law_pick, okSs, okS, okE, okEs, okIt, lkOf, and_true, true_and]
  have k__law_pick : CallOk P w K mg base 1 "_law_pick" sp__law_pick := call_of F__law_pick g__law_pick h__law_pick (fun _ _ _ _ _ _ us hl => match us, hl with | [_, _], _ => rfl)
  have h__law_common : FnG P w K mg base 1 f__law_common d__law_common ["_law_one", "_law_other"] (liftSp K sp__law_common) := by
    refine fn_g (k := 0) (fun_of F__law_common) s__law_common p__law_common c__law_common ?_ hbn
    simp only [b__law_common, lb__law_common_1, okSs, okS, okE, okEs, okIt, lkOf, and_true, true_and]
  have k__law_common : CallOk P w K mg base 1 "_law_common" sp__law_common := call_of F__law_common g__law_common h__law_common (fun _ _ _ _ _ _ us hl => match us, hl with | [_, _], _ => rfl)
  have h__law_fraction : FnG P w K mg base 2 f__law_fraction d__law_fraction ["_law_up", "_law_under"] (liftSp K sp__law_fraction) := by
    refine fn_g (k := 1) (fun_of F__law_fraction) s__law_fraction p__law_fraction c__law_fraction ?_ hbn
    simp only [b__law_fraction, okSs, okS, okE, okEs, okIt, lkOf, and_true, true_and]
    (repeat' apply And.intro) <;> first | exact trivial | exact k__law_common.mono (by decide)
  have k__law_fraction : CallOk P w K mg base 2 "_law_fraction" sp__law_fraction := call_of F__law_fraction g__law_fraction h__law_fraction (fun _ _ _ _ _ _ us hl => match us, hl with | [_, _], _ => rfl)
  have h__law_left : FnG P w K mg base 3 f__law_left d__law_left ["_law_up", "_law_under"] (liftSp K sp__law_left) := by
    refine fn_g (k := 2) (fun_of F__law_left) s__law_left p__law_left c__law_left ?_ hbn
    simp only [b__law_left, okSs, okS, okE, okEs, okIt, lkOf, and_true, true_and]
    (repeat' apply And.intro) <;> first | exact trivial | exact k__law_fraction.mono (by decide)
  have k__law_left : CallOk P w K mg base 3 "_law_left" sp__law_left := call_of F__law_left g__law_left h__law_left (fun _ _ _ _ _ _ us hl => match us, hl with | [_, _], _ => rfl)
  have h__law_whole : FnG P w K mg base 1 f__law_whole d__law_whole ["_law_thing"] (liftSp K sp__law_whole) := by
    refine fn_g (k := 0) (fun_of F__law_whole) s__law_whole p__law_whole c__law_whole ?_ hbn
    simp only [b__law_whole, okSs, okS, okE, okEs, okIt, lkOf, and_true, true_and]
  have k__law_whole : CallOk P w K mg base 1 "_law_whole" sp__law_whole := call_of F__law_whole g__law_whole h__law_whole (fun _ _ _ _ _ _ us hl => match us, hl with | [_], _ => rfl)
  have h__law_is_turn : FnG P w K mg base 2 f__law_is_turn d__law_is_turn ["_law_thing"] (liftSp K sp__law_is_turn) := by
    refine fn_g (k := 1) (fun_of F__law_is_turn) s__law_is_turn p__law_is_turn c__law_is_turn ?_ hbn
    simp only [b__law_is_turn, okSs, okS, okE, okEs, okIt, lkOf, and_true, true_and]
    (repeat' apply And.intro) <;> first | exact trivial | exact k__law_whole.mono (by decide) | exact k__law_common.mono (by decide)
  have k__law_is_turn : CallOk P w K mg base 2 "_law_is_turn" sp__law_is_turn := call_of F__law_is_turn g__law_is_turn h__law_is_turn (fun _ _ _ _ _ _ us hl => match us, hl with | [_], _ => rfl)
  have h__law_drawn_turn : FnG P w K mg base 3 f__law_drawn_turn d__law_drawn_turn ["_law_urn_here"] (liftSp K sp__law_drawn_turn) := by
    refine fn_g (k := 2) (fun_of F__law_drawn_turn) s__law_drawn_turn p__law_drawn_turn c__law_drawn_turn ?_ hbn
    simp only [b__law_drawn_turn, b__law_drawn_turn_2, okSs, okS, okE, okEs, okIt, lkOf, and_true, true_and]
    (repeat' apply And.intro) <;> first | exact trivial | exact k__law_pick.mono (by decide) | exact k__law_fraction.mono (by decide)
  have k__law_drawn_turn : CallOk P w K mg base 3 "_law_drawn_turn" sp__law_drawn_turn := call_of F__law_drawn_turn g__law_drawn_turn h__law_drawn_turn (fun _ _ _ _ _ _ us hl => match us, hl with | [_], _ => rfl)
  have h__law_far : FnG P w K mg base 2 f__law_far d__law_far ["_law_urn_here"] (liftSp K sp__law_far) := by
    refine fn_g (k := 1) (fun_of F__law_far) s__law_far p__law_far c__law_far ?_ hbn
    simp only [b__law_far, okSs, okS, okE, okEs, okIt, lkOf, and_true, true_and]
    (repeat' apply And.intro) <;> first | exact trivial | exact k__law_pick.mono (by decide)
  have k__law_far : CallOk P w K mg base 2 "_law_far" sp__law_far := call_of F__law_far g__law_far h__law_far (fun _ _ _ _ _ _ us hl => match us, hl with | [_], _ => rfl)
  have h__law_is_left : FnG P w K mg base 3 f__law_is_left d__law_is_left ["_law_thing", "_law_up", "_law_under"] (liftSp K sp__law_is_left) := by
    refine fn_g (k := 2) (fun_of F__law_is_left) s__law_is_left p__law_is_left c__law_is_left ?_ hbn
    simp only [b__law_is_left, okSs, okS, okE, okEs, okIt, lkOf, and_true, true_and]
    (repeat' apply And.intro) <;> first | exact trivial | exact k__law_is_turn.mono (by decide)
  have k__law_is_left : CallOk P w K mg base 3 "_law_is_left" sp__law_is_left := call_of F__law_is_left g__law_is_left h__law_is_left (fun _ _ _ _ _ _ us hl => match us, hl with | [_, _, _], _ => rfl)
  have h__law_sums_right : FnG P w K mg base 7 f__law_sums_right d__law_sums_right ["_law_urn_here", "_law_one", "_law_two"] (liftSp K sp__law_sums_right) := by
    refine fn_g (k := 6) (fun_of F__law_sums_right) s__law_sums_right p__law_sums_right c__law_sums_right ?_ hbn
    simp only [b__law_sums_right, lb__law_sums_right_1, b__law_sums_right_12, b__law_sums_right_11, b__law_sums_right_10, b__law_sums_right_9, b__law_sums_right_8, b__law_sums_right_7, b__law_sums_right_6, b__law_sums_right_5, b__law_sums_right_4, b__law_sums_right_3, b__law_sums_right_2, okSs, okS, okE, okEs, okIt, lkOf, and_true, true_and]
    (repeat' apply And.intro) <;> first | exact trivial | exact k_added.mono (by decide) | exact k__law_is_left.mono (by decide) | exact k_taken.mono (by decide) | exact k__law_far.mono (by decide) | exact k_times.mono (by decide) | exact k__law_pick.mono (by decide) | exact kk_taken_other_turn_turn.mono (by decide) | exact kk_added_other_turn_turn.mono (by decide) | exact kk_times_factor_turn.mono (by decide)
  have k__law_sums_right : CallOk P w K mg base 7 "_law_sums_right" sp__law_sums_right := call_of F__law_sums_right g__law_sums_right h__law_sums_right (fun _ _ _ _ _ _ us hl => match us, hl with | [_, _, _], _ => rfl)
  have h__law_part_right : FnG P w K mg base 7 f__law_part_right d__law_part_right ["_law_one"] (liftSp K sp__law_part_right) := by
    refine fn_g (k := 6) (fun_of F__law_part_right) s__law_part_right p__law_part_right c__law_part_right ?_ hbn
    simp only [b__law_part_right, cc__law_part_right_1, ce__law_part_right_2, b__law_part_right_7, b__law_part_right_6, b__law_part_right_5, b__law_part_right_4, b__law_part_right_3, b__law_part_right_2, okSs, okS, okE, okEs, okIt, lkOf, and_true, true_and]
    (repeat' apply And.intro) <;> first | exact trivial | exact k_part_of.mono (by decide) | exact k__law_whole.mono (by decide) | exact k__law_is_turn.mono (by decide) | exact k_is_kept.mono (by decide) | exact kk_part_of_turn.mono (by decide) | exact kk_is_kept_turn.mono (by decide)
  have k__law_part_right : CallOk P w K mg base 7 "_law_part_right" sp__law_part_right := call_of F__law_part_right g__law_part_right h__law_part_right (fun _ _ _ _ _ _ us hl => match us, hl with | [_], _ => rfl)
  have h__law_right : FnG P w K mg base 8 f__law_right d__law_right ["_law_urn_here"] (liftSp K sp__law_right) := by
    refine fn_g (k := 7) (fun_of F__law_right) s__law_right p__law_right c__law_right ?_ hbn
    simp only [b__law_right, ce__law_right_1, lb__law_right_2, b__law_right_10, b__law_right_9, b__law_right_8, b__law_right_7, b__law_right_6, b__law_right_5, b__law_right_4, b__law_right_3, b__law_right_2, okSs, okS, okE, okEs, okIt, lkOf, and_true, true_and]
    (repeat' apply And.intro) <;> first | exact trivial | exact k__law_far.mono (by decide) | exact k_turn_of.mono (by decide) | exact k__law_is_left.mono (by decide) | exact k__law_fraction.mono (by decide) | exact k__law_pick.mono (by decide) | exact k__law_left.mono (by decide) | exact k__law_drawn_turn.mono (by decide) | exact k__law_part_right.mono (by decide) | exact k__law_sums_right.mono (by decide) | exact kk_turn_of_bottom_top.mono (by decide)
  have k__law_right : CallOk P w K mg base 8 "_law_right" sp__law_right := call_of F__law_right g__law_right h__law_right (fun _ _ _ _ _ _ us hl => match us, hl with | [_], _ => rfl)
  have h_law : FnG P w K mg base 9 f_law d_law ["_law_script"] (liftSp K sp_law) := by
    refine fn_g (k := 8) (fun_of F_law) s_law p_law c_law ?_ hbn
    simp only [b_law, lb_law_1, okSs, okS, okE, okEs, okIt, lkOf, and_true, true_and]
    (repeat' apply And.intro) <;> first | exact trivial | exact k__law_right.mono (by decide) | exact k__law_urn.mono (by decide)
  have k_law : CallOk P w K mg base 9 "law" sp_law := call_of F_law g_law h_law (fun _ _ _ _ _ _ us hl => match us, hl with | [_], _ => rfl)
  exact h_law
end
def dd_common_divisor : He.DefD := ⟨("common_divisor", none), "common_divisor", "common_divisor", defArgs t_common_divisor, defBody t_common_divisor, defScope t_common_divisor, [], []⟩
def dd_fraction_of : He.DefD := ⟨("fraction_of", none), "fraction_of", "fraction_of", defArgs t_fraction_of, defBody t_fraction_of, defScope t_fraction_of, [], []⟩
def dd_fraction_sum : He.DefD := ⟨("fraction_sum", none), "fraction_sum", "fraction_sum", defArgs t_fraction_sum, defBody t_fraction_sum, defScope t_fraction_sum, [], []⟩
def dd_fraction_difference : He.DefD := ⟨("fraction_difference", none), "fraction_difference", "fraction_difference", defArgs t_fraction_difference, defBody t_fraction_difference, defScope t_fraction_difference, [], []⟩
def dd_fraction_product : He.DefD := ⟨("fraction_product", none), "fraction_product", "fraction_product", defArgs t_fraction_product, defBody t_fraction_product, defScope t_fraction_product, [], []⟩
def dd_turn_left : He.DefD := ⟨("turn_left", none), "turn_left", "turn_left", defArgs t_turn_left, defBody t_turn_left, defScope t_turn_left, [], []⟩
def dd_turn_sum : He.DefD := ⟨("turn_sum", none), "turn_sum", "turn_sum", defArgs t_turn_sum, defBody t_turn_sum, defScope t_turn_sum, [], []⟩
def dd_turn_difference : He.DefD := ⟨("turn_difference", none), "turn_difference", "turn_difference", defArgs t_turn_difference, defBody t_turn_difference, defScope t_turn_difference, [], []⟩
def dd_turn_product : He.DefD := ⟨("turn_product", none), "turn_product", "turn_product", defArgs t_turn_product, defBody t_turn_product, defScope t_turn_product, [], []⟩
def dd_is_integer : He.DefD := ⟨("is_integer", none), "is_integer", "is_integer", defArgs t_is_integer, defBody t_is_integer, defScope t_is_integer, [], []⟩
def dd_is_from : He.DefD := ⟨("is_from", none), "is_from", "is_from", defArgs t_is_from, defBody t_is_from, defScope t_is_from, [], []⟩
def dd_is_fraction : He.DefD := ⟨("is_fraction", none), "is_fraction", "is_fraction", defArgs t_is_fraction, defBody t_is_fraction, defScope t_is_fraction, [], []⟩
def dd_is_turn : He.DefD := ⟨("is_turn", none), "is_turn", "is_turn", defArgs t_is_turn, defBody t_is_turn, defScope t_is_turn, [], []⟩
def dd_check_turn : He.DefD := ⟨("check_turn", none), "check_turn", "check_turn", defArgs t_check_turn, defBody t_check_turn, defScope t_check_turn, [], []⟩
def dd_part_in : He.DefD := ⟨("part_in", none), "part_in", "part_in", defArgs t_part_in, defBody t_part_in, defScope t_part_in, [], []⟩
def dd_turn_of : He.DefD := ⟨("turn_of", none), "turn_of", "turn_of", defArgs t_turn_of, defBody t_turn_of, defScope t_turn_of, [], []⟩
def dd_added : He.DefD := ⟨("added", none), "added", "added", defArgs t_added, defBody t_added, defScope t_added, [], []⟩
def dd_taken : He.DefD := ⟨("taken", none), "taken", "taken", defArgs t_taken, defBody t_taken, defScope t_taken, [], []⟩
def dd_times : He.DefD := ⟨("times", none), "times", "times", defArgs t_times, defBody t_times, defScope t_times, [], []⟩
def dd_part_of : He.DefD := ⟨("part_of", none), "part_of", "part_of", defArgs t_part_of, defBody t_part_of, defScope t_part_of, [], []⟩
def dd_is_kept : He.DefD := ⟨("is_kept", none), "is_kept", "is_kept", defArgs t_is_kept, defBody t_is_kept, defScope t_is_kept, [], []⟩
def dd__law_urn : He.DefD := ⟨("_law_urn", none), "_law_urn", "_law_urn", defArgs t__law_urn, defBody t__law_urn, defScope t__law_urn, [], []⟩
def dd__law_pick : He.DefD := ⟨("_law_pick", none), "_law_pick", "_law_pick", defArgs t__law_pick, defBody t__law_pick, defScope t__law_pick, [], []⟩
def dd__law_common : He.DefD := ⟨("_law_common", none), "_law_common", "_law_common", defArgs t__law_common, defBody t__law_common, defScope t__law_common, [], []⟩
def dd__law_fraction : He.DefD := ⟨("_law_fraction", none), "_law_fraction", "_law_fraction", defArgs t__law_fraction, defBody t__law_fraction, defScope t__law_fraction, [], []⟩
def dd__law_left : He.DefD := ⟨("_law_left", none), "_law_left", "_law_left", defArgs t__law_left, defBody t__law_left, defScope t__law_left, [], []⟩
def dd__law_whole : He.DefD := ⟨("_law_whole", none), "_law_whole", "_law_whole", defArgs t__law_whole, defBody t__law_whole, defScope t__law_whole, [], []⟩
def dd__law_is_turn : He.DefD := ⟨("_law_is_turn", none), "_law_is_turn", "_law_is_turn", defArgs t__law_is_turn, defBody t__law_is_turn, defScope t__law_is_turn, [], []⟩
def dd__law_drawn_turn : He.DefD := ⟨("_law_drawn_turn", none), "_law_drawn_turn", "_law_drawn_turn", defArgs t__law_drawn_turn, defBody t__law_drawn_turn, defScope t__law_drawn_turn, [], []⟩
def dd__law_far : He.DefD := ⟨("_law_far", none), "_law_far", "_law_far", defArgs t__law_far, defBody t__law_far, defScope t__law_far, [], []⟩
def dd__law_is_left : He.DefD := ⟨("_law_is_left", none), "_law_is_left", "_law_is_left", defArgs t__law_is_left, defBody t__law_is_left, defScope t__law_is_left, [], []⟩
def dd__law_sums_right : He.DefD := ⟨("_law_sums_right", none), "_law_sums_right", "_law_sums_right", defArgs t__law_sums_right, defBody t__law_sums_right, defScope t__law_sums_right, [], []⟩
def dd__law_part_right : He.DefD := ⟨("_law_part_right", none), "_law_part_right", "_law_part_right", defArgs t__law_part_right, defBody t__law_part_right, defScope t__law_part_right, [], []⟩
def dd__law_right : He.DefD := ⟨("_law_right", none), "_law_right", "_law_right", defArgs t__law_right, defBody t__law_right, defScope t__law_right, [], []⟩
def dd_law : He.DefD := ⟨("law", none), "law", "law", defArgs t_law, defBody t_law, defScope t_law, [], []⟩
def fn : List He.DefD := [dd_common_divisor, dd_fraction_of, dd_fraction_sum, dd_fraction_difference, dd_fraction_product, dd_turn_left, dd_turn_sum, dd_turn_difference, dd_turn_product, dd_is_integer, dd_is_from, dd_is_fraction, dd_is_turn, dd_check_turn, dd_part_in, dd_turn_of, dd_added, dd_taken, dd_times, dd_part_of, dd_is_kept, dd__law_urn, dd__law_pick, dd__law_common, dd__law_fraction, dd__law_left, dd__law_whole, dd__law_is_turn, dd__law_drawn_turn, dd__law_far, dd__law_is_left, dd__law_sums_right, dd__law_part_right, dd__law_right, dd_law]
def fa : List He.Fa := [.glo "common_divisor", .glo "fraction_of", .glo "fraction_sum", .glo "fraction_difference", .glo "fraction_product", .glo "turn_left", .glo "turn_sum", .glo "turn_difference", .glo "turn_product", .glo "is_integer", .glo "is_from", .glo "is_fraction", .glo "is_turn", .glo "check_turn", .glo "part_in", .glo "turn_of", .glo "added", .glo "taken", .glo "times", .glo "part_of", .glo "is_kept", .glo "_law_urn", .glo "_law_pick", .glo "_law_common", .glo "_law_fraction", .glo "_law_left", .glo "_law_whole", .glo "_law_is_turn", .glo "_law_drawn_turn", .glo "_law_far", .glo "_law_is_left", .glo "_law_sums_right", .glo "_law_part_right", .glo "_law_right", .glo "law", .free "len", .free "abs", .free "max", .free "min", .free "int", .free "sum", .free "any", .free "all", .free "list", .free "tuple", .free "sorted", .free "repr", .free "bool", .free "isinstance", .free "range", .free "enumerate", .free "zip", .free "str", .int "PARTS" (30), .glo "PRIMES"]
def ex (K : PySem.W.Frag) : Bool := He.tupB K "PRIMES" (DvI [2, 3, 5])
abbrev R : PySem.W.OpenRow := PySem.W.OpenLaw.row PySem.Challenge.rw_drawnbywheels_k26_turns
abbrev hk : PySem.W.Hook := hookP 4 ex fa fn
def ob (s : PySem.W.SharedT) : Bool × He.AlD := obP 4 ex fa fn s
def loose : List Str := (["WheelError", "InvalidNumber", "InvalidTurn", "common_divisor", "fraction_of", "fraction_sum", "fraction_difference", "fraction_product", "turn_left", "turn_sum", "turn_difference", "turn_product", "is_integer", "is_from", "is_fraction", "is_turn", "check_turn", "PARTS", "PRIMES", "part_in", "turn_of", "added", "taken", "times", "part_of", "is_kept", "_law_urn", "_law_pick", "_law_common", "_law_fraction"] : List Str) ++ (["_law_left", "_law_whole", "_law_is_turn", "_law_drawn_turn", "_law_far", "_law_is_left", "_law_sums_right", "_law_part_right", "_law_right"] : List Str)
set_option maxHeartbeats 0 in
theorem run (w : World) : HandSHeadRun.RunEq R (PySem.W.view R.prog [44]) hk ob 4000 loose w := by
  intro os
  kernel_rfl
theorem facts {P : Program} {w : World} {K : PySem.W.Frag} {h : Heap} {mg : Str → Option Value} {f : Addr} (X : K.In h) (G : h.Ns mainGlobals mg) (hfa : mg ("law" : Str) = some (.ref f)) (hx : ex K = true) (c : He.SaysD fa fn K) :
    ∃ fd : FuncData, (∀ (s : Shared) (v : Value), BindsTo s fd ⟨[v], []⟩ [("_law_script", v)]) ∧ ∀ base : Heap, K.In base → base.Ns mainGlobals mg → FnG P w K mg base 9 f fd ["_law_script"] (liftSp K sp_law) := by
  obtain ⟨d_common_divisor, F_common_divisor⟩ := c.def_ 0 (d := dd_common_divisor) rfl
  obtain ⟨d_fraction_of, F_fraction_of⟩ := c.def_ 1 (d := dd_fraction_of) rfl
  obtain ⟨d_fraction_sum, F_fraction_sum⟩ := c.def_ 2 (d := dd_fraction_sum) rfl
  obtain ⟨d_fraction_difference, F_fraction_difference⟩ := c.def_ 3 (d := dd_fraction_difference) rfl
  obtain ⟨d_fraction_product, F_fraction_product⟩ := c.def_ 4 (d := dd_fraction_product) rfl
  obtain ⟨d_turn_left, F_turn_left⟩ := c.def_ 5 (d := dd_turn_left) rfl
  obtain ⟨d_turn_sum, F_turn_sum⟩ := c.def_ 6 (d := dd_turn_sum) rfl
  obtain ⟨d_turn_difference, F_turn_difference⟩ := c.def_ 7 (d := dd_turn_difference) rfl
  obtain ⟨d_turn_product, F_turn_product⟩ := c.def_ 8 (d := dd_turn_product) rfl
  obtain ⟨d_is_integer, F_is_integer⟩ := c.def_ 9 (d := dd_is_integer) rfl
  obtain ⟨d_is_from, F_is_from⟩ := c.def_ 10 (d := dd_is_from) rfl
  obtain ⟨d_is_fraction, F_is_fraction⟩ := c.def_ 11 (d := dd_is_fraction) rfl
  obtain ⟨d_is_turn, F_is_turn⟩ := c.def_ 12 (d := dd_is_turn) rfl
  obtain ⟨d_check_turn, F_check_turn⟩ := c.def_ 13 (d := dd_check_turn) rfl
  obtain ⟨d_part_in, F_part_in⟩ := c.def_ 14 (d := dd_part_in) rfl
  obtain ⟨d_turn_of, F_turn_of⟩ := c.def_ 15 (d := dd_turn_of) rfl
  obtain ⟨d_added, F_added⟩ := c.def_ 16 (d := dd_added) rfl
  obtain ⟨d_taken, F_taken⟩ := c.def_ 17 (d := dd_taken) rfl
  obtain ⟨d_times, F_times⟩ := c.def_ 18 (d := dd_times) rfl
  obtain ⟨d_part_of, F_part_of⟩ := c.def_ 19 (d := dd_part_of) rfl
  obtain ⟨d_is_kept, F_is_kept⟩ := c.def_ 20 (d := dd_is_kept) rfl
  obtain ⟨d__law_urn, F__law_urn⟩ := c.def_ 21 (d := dd__law_urn) rfl
  obtain ⟨d__law_pick, F__law_pick⟩ := c.def_ 22 (d := dd__law_pick) rfl
  obtain ⟨d__law_common, F__law_common⟩ := c.def_ 23 (d := dd__law_common) rfl
  obtain ⟨d__law_fraction, F__law_fraction⟩ := c.def_ 24 (d := dd__law_fraction) rfl
  obtain ⟨d__law_left, F__law_left⟩ := c.def_ 25 (d := dd__law_left) rfl
  obtain ⟨d__law_whole, F__law_whole⟩ := c.def_ 26 (d := dd__law_whole) rfl
  obtain ⟨d__law_is_turn, F__law_is_turn⟩ := c.def_ 27 (d := dd__law_is_turn) rfl
  obtain ⟨d__law_drawn_turn, F__law_drawn_turn⟩ := c.def_ 28 (d := dd__law_drawn_turn) rfl
  obtain ⟨d__law_far, F__law_far⟩ := c.def_ 29 (d := dd__law_far) rfl
  obtain ⟨d__law_is_left, F__law_is_left⟩ := c.def_ 30 (d := dd__law_is_left) rfl
  obtain ⟨d__law_sums_right, F__law_sums_right⟩ := c.def_ 31 (d := dd__law_sums_right) rfl
  obtain ⟨d__law_part_right, F__law_part_right⟩ := c.def_ 32 (d := dd__law_part_right) rfl
  obtain ⟨d__law_right, F__law_right⟩ := c.def_ 33 (d := dd__law_right) rfl
  obtain ⟨d_law, F_law⟩ := c.def_ 34 (d := dd_law) rfl
  have e := hfa.symm.trans (He.glo_ok X G (c.fact 34 (f := .glo "law") rfl))
  cases e
  have b := FunD.bindsA (ps := ["_law_script"]) F_law fun _ _ _ _ _ _ us hl => match us, hl with | [_], _ => rfl
  have hbn : ∀ x ∈ bnames, mg x = none := by
    intro x hx
    simp only [bnames, List.mem_cons, List.not_mem_nil, or_false] at hx
    rcases hx with rfl | rfl | rfl | rfl | rfl | rfl | rfl | rfl | rfl | rfl | rfl | rfl | rfl | rfl | rfl | rfl | rfl | rfl
    · exact He.free_ok X G (c.fact 35 (f := .free "len") rfl)
    · exact He.free_ok X G (c.fact 36 (f := .free "abs") rfl)
    · exact He.free_ok X G (c.fact 37 (f := .free "max") rfl)
    · exact He.free_ok X G (c.fact 38 (f := .free "min") rfl)
    · exact He.free_ok X G (c.fact 39 (f := .free "int") rfl)
    · exact He.free_ok X G (c.fact 40 (f := .free "sum") rfl)
    · exact He.free_ok X G (c.fact 41 (f := .free "any") rfl)
    · exact He.free_ok X G (c.fact 42 (f := .free "all") rfl)
    · exact He.free_ok X G (c.fact 43 (f := .free "list") rfl)
    · exact He.free_ok X G (c.fact 44 (f := .free "tuple") rfl)
    · exact He.free_ok X G (c.fact 45 (f := .free "sorted") rfl)
    · exact He.free_ok X G (c.fact 46 (f := .free "repr") rfl)
    · exact He.free_ok X G (c.fact 47 (f := .free "bool") rfl)
    · exact He.free_ok X G (c.fact 48 (f := .free "isinstance") rfl)
    · exact He.free_ok X G (c.fact 49 (f := .free "range") rfl)
    · exact He.free_ok X G (c.fact 50 (f := .free "enumerate") rfl)
    · exact He.free_ok X G (c.fact 51 (f := .free "zip") rfl)
    · exact He.free_ok X G (c.fact 52 (f := .free "str") rfl)
  have hx2 := hx
  simp only [ex, Bool.and_eq_true] at hx2
  have G_PARTS : GlobOk K mg "PARTS" gv_PARTS := glob_int X G (c.fact 53 (f := .int "PARTS" (30)) rfl)
  have G_PRIMES : GlobOk K mg "PRIMES" gv_PRIMES := glob_tup (ns := [2, 3, 5]) X G (c.fact 54 (f := .glo "PRIMES") rfl) hx2
  exact ⟨_, fun s v => b s [v] rfl, fun base _ _ => chain F_common_divisor (He.glo_ok X G (c.fact 0 (f := .glo "common_divisor") rfl)) F_fraction_of (He.glo_ok X G (c.fact 1 (f := .glo "fraction_of") rfl)) F_fraction_sum (He.glo_ok X G (c.fact 2 (f := .glo "fraction_sum") rfl)) F_fraction_difference (He.glo_ok X G (c.fact 3 (f := .glo "fraction_difference") rfl)) F_fraction_product (He.glo_ok X G (c.fact 4 (f := .glo "fraction_product") rfl)) F_turn_left (He.glo_ok X G (c.fact 5 (f := .glo "turn_left") rfl)) F_turn_sum (He.glo_ok X G (c.fact 6 (f := .glo "turn_sum") rfl)) F_turn_difference (He.glo_ok X G (c.fact 7 (f := .glo "turn_difference") rfl)) F_turn_product (He.glo_ok X G (c.fact 8 (f := .glo "turn_product") rfl)) F_is_integer (He.glo_ok X G (c.fact 9 (f := .glo "is_integer") rfl)) F_is_from (He.glo_ok X G (c.fact 10 (f := .glo "is_from") rfl)) F_is_fraction (He.glo_ok X G (c.fact 11 (f := .glo "is_fraction") rfl)) F_is_turn (He.glo_ok X G (c.fact 12 (f := .glo "is_turn") rfl)) F_check_turn (He.glo_ok X G (c.fact 13 (f := .glo "check_turn") rfl)) F_part_in (He.glo_ok X G (c.fact 14 (f := .glo "part_in") rfl)) F_turn_of (He.glo_ok X G (c.fact 15 (f := .glo "turn_of") rfl)) F_added (He.glo_ok X G (c.fact 16 (f := .glo "added") rfl)) F_taken (He.glo_ok X G (c.fact 17 (f := .glo "taken") rfl)) F_times (He.glo_ok X G (c.fact 18 (f := .glo "times") rfl)) F_part_of (He.glo_ok X G (c.fact 19 (f := .glo "part_of") rfl)) F_is_kept (He.glo_ok X G (c.fact 20 (f := .glo "is_kept") rfl)) F__law_urn (He.glo_ok X G (c.fact 21 (f := .glo "_law_urn") rfl)) F__law_pick (He.glo_ok X G (c.fact 22 (f := .glo "_law_pick") rfl)) F__law_common (He.glo_ok X G (c.fact 23 (f := .glo "_law_common") rfl)) F__law_fraction (He.glo_ok X G (c.fact 24 (f := .glo "_law_fraction") rfl)) F__law_left (He.glo_ok X G (c.fact 25 (f := .glo "_law_left") rfl)) F__law_whole (He.glo_ok X G (c.fact 26 (f := .glo "_law_whole") rfl)) F__law_is_turn (He.glo_ok X G (c.fact 27 (f := .glo "_law_is_turn") rfl)) F__law_drawn_turn (He.glo_ok X G (c.fact 28 (f := .glo "_law_drawn_turn") rfl)) F__law_far (He.glo_ok X G (c.fact 29 (f := .glo "_law_far") rfl)) F__law_is_left (He.glo_ok X G (c.fact 30 (f := .glo "_law_is_left") rfl)) F__law_sums_right (He.glo_ok X G (c.fact 31 (f := .glo "_law_sums_right") rfl)) F__law_part_right (He.glo_ok X G (c.fact 32 (f := .glo "_law_part_right") rfl)) F__law_right (He.glo_ok X G (c.fact 33 (f := .glo "_law_right") rfl)) F_law (He.glo_ok X G (c.fact 34 (f := .glo "law") rfl)) G_PARTS G_PRIMES hbn⟩
end K26
open PySem PySem.W PySem.Calls PyProof.Rows
set_option maxHeartbeats 0 in
theorem PySem.Challenge.cw_drawnbywheels_k26_turns_holds : PySem.Challenge.rw_drawnbywheels_k26_turns.Holds := by
  w_on; o_law
  refine HandSHeadRun.head_any (r := OpenLaw.row PySem.Challenge.rw_drawnbywheels_k26_turns) (q := view (OpenLaw.row PySem.Challenge.rw_drawnbywheels_k26_turns).prog [44]) (H := K26.hk) (ob := K26.ob) (M := 4000) (loose := K26.loose) (d := HandSHeadRun.topDef (OpenLaw.row PySem.Challenge.rw_drawnbywheels_k26_turns).prog 44) (kwd := []) PF.obP_eq
    (by kernel_rfl) (fun s => by kernel_rfl) K26.run (by kernel_rfl) (by kernel_rfl) (by kernel_rfl) (by rfl) (by first | assumption | decide +kernel) (by decide +kernel) ⟨rfl, rfl, rfl, rfl, rfl, by decide +kernel⟩ ?hw ?hc
  case hw => w_witness2
  case hc =>
    refine PF.walk_g (l := PySem.Challenge.rw_drawnbywheels_k26_turns) (n := 63) (k := 9) (x := "_law_script") rfl (by decide) (by kernel_rfl) ⟨rfl, by decide, by decide⟩ ?F
    intro w mg fa h Y G hmg0
    obtain ⟨K, KX, hx, c⟩ := Y
    have hmg : mg ("law" : PySem.Str) = some (.ref fa) := by
      have e : (HandSHeadRun.topDef (OpenLaw.row PySem.Challenge.rw_drawnbywheels_k26_turns).prog 44).name = ("law" : PySem.Str) := by kernel_rfl
      rw [← e]
      exact hmg0
    obtain ⟨fd, hb, hF⟩ := K26.facts (P := (PySem.Challenge.rw_drawnbywheels_k26_turns).prog) (w := w) KX G hmg hx c
    exact ⟨K, fd, KX, hb, hF⟩

