import PyProof.Rows.All
import Wide.All
import OpenK.AllK
import Wide.FinOn
import HandS.ForMost
import HandS.Deep
import HandS.Wide
import HandS.Flow
import HandS.Style
import HandS.IsInst
import HandS.SortInts
import HandS.RaiseMore
import PyProof.ReprRoads
import HandS.More
import HandS.Conv
import HandS.Iter
import KE.KStateDown
import HandS.Words
import HandS.WordsExc
import HandS.Defaults
import HandS.Head0
import HandS.Head1
import HandS.Head2
import HandS.HeadEnd
import HandS.EndBits
import HandS.HeadHook1
import HandS.HeadHook2
import PySem.Challenge.RW_drawnbywheels_k50_whole_teeth_that_meet
set_option Elab.async false
set_option linter.all false
set_option maxRecDepth 100000
/-! PF: a small language of pure data, with a calculus of wishes; lists that a slot owns may be changed. -/
namespace PF
open PySem

/-- what an expression gives: data; a new list; the list that slot j owns -/
inductive AV where
  | d (x : PyData) | o (ds : List PyData) | b (j : Nat)
abbrev AEnv := List (Option AV)

/-- what a def promises -/
structure ASp where
  run : List AV → (AV → List AV → Prop) → (Str → Prop) → Prop
  mono : ∀ vs Q Q' X X', (∀ r as, Q r as → Q' r as) → (∀ c, X c → X' c) → run vs Q X → run vs Q' X'

inductive BOp where
  | add | sub | mul | fdiv | mod | pow | shl | band
  deriving DecidableEq
inductive COp where
  | eq | ne | lt | le | gt | ge | isin | notin | is | isnot
  deriving DecidableEq
inductive BI where
  | len | abs | max2 | min2 | int | sum | any | all | min1 | max1 | list | tuple | sorted | repr | bool
  deriving DecidableEq
inductive Ty where
  | int | bool | str | list | tuple
  deriving DecidableEq
inductive Tg where
  | nm (i : Nat) | tp (is : List Nat)
  deriving DecidableEq

mutual
inductive E where
  | var (i : Nat) | int (i : Int) | bool (b : Bool) | none | str (s : Str)
  | glob (x : Str) (v : PyData)
  | bin (op : BOp) (a b : E) | neg (a : E) | rep (a n : E)
  | not (a : E) | and (a b : E) | or (a b : E)
  | cmp (op : COp) (a b : E) | chain (o1 o2 : COp) (a b c : E)
  | ife (c a b : E)
  | tup (es : Es) | lst (es : Es)
  | ix (a i : E)
  | slL (a lo : E) | slU (a hi : E) | slLU (a lo hi : E) | slRev (a : E)
  | call (x : Str) (sp : ASp) (es : Es)
  | callK (x : Str) (sp : ASp) (ps ks : List Str) (es : Es)
  | callO (x : Str) (sp : ASp) (e : E)
  | bi (f : BI) (es : Es)
  | inst (a : E) (ts : List Ty)
  | lrg1 (a : E) | lrg2 (a b : E) | lrg3 (a b c : E)
  | pop (j : Nat) (i : E)
  | comp (elt : E) (cond : Option Unit) (c : E) (tg : Tg) (it : It) (own : List (Str × Nat))
inductive Es where
  | nil | cons (e : E) (es : Es)
inductive It where
  | seq (e : E) | range1 (a : E) | range2 (a b : E) | range3 (a b c : E) | enum (e : E) | zip (a b : E)
end
mutual
inductive S where
  | asg (i : Nat) (e : E)
  | asgF (i : Nat) (e : E)
  | par (is : List Nat) (es : Es)
  | parN (is : List Nat) (es : Es) (js : List Nat)
  | unp (is : List Nat) (e : E)
  | setIx (j : Nat) (i e : E)
  | aug (i : Nat) (op : BOp) (e : E)
  | append (j : Nat) (e : E)
  | insert (j : Nat) (i e : E)
  | expr (e : E)
  | ret (e : E) | retN
  | ite (c : E) (a b : Ss)
  | forS (tg : Tg) (it : It) (body : Ss)
  | whl (c : E) (body : Ss)
  | pass | brk | cont | raise (x : Str)
  | frz (j : Nat)
inductive Ss where
  | nil | cons (s : S) (ss : Ss)
end

/-! ### slots -/
def getE : AEnv → Nat → Option AV
  | [], _ => Option.none
  | x :: _, 0 => x
  | _ :: l, n + 1 => getE l n
def setE : AEnv → Nat → Option AV → AEnv
  | [], _, _ => []
  | _ :: l, 0, v => v :: l
  | x :: l, n + 1, v => x :: setE l n v
def wipeE (env : AEnv) : List (Str × Nat) → AEnv
  | [] => env
  | p :: r => setE (wipeE env r) p.2 Option.none
def backE (old env : AEnv) : List (Str × Nat) → AEnv
  | [] => env
  | p :: r => setE (backE old env r) p.2 (getE old p.2)
/-- what is read -/
def rdK (env : AEnv) (v : AV) (k : PyData → Prop) : Prop :=
  match v with
  | .d x => k x
  | .o ds => k (.list ds)
  | .b j => match getE env j with
    | some (.o ds) => k (.list ds)
    | _ => False
/-- what is kept: data, or a new list that is not changed any more -/
def dataK (v : AV) (k : PyData → Prop) : Prop :=
  match v with
  | .d x => k x
  | .o ds => k (.list ds)
  | .b _ => False
def datasK : List AV → (List PyData → Prop) → Prop
  | [], k => k []
  | v :: vs, k => dataK v fun x => datasK vs fun xs => k (x :: xs)
def truth : PyData → Option Bool
  | .none => some false
  | .bool b => some b
  | .int i => some (i != 0)
  | .list xs => some (!xs.isEmpty)
  | .tuple xs => some (!xs.isEmpty)
  | _ => Option.none
def truthK (env : AEnv) (v : AV) (k : Bool → Prop) : Prop :=
  rdK env v fun x => match truth x with
    | some b => k b
    | Option.none => False

/-! ### operators -/
def mulOk (i j : Int) : Prop := i.natAbs.log2 + j.natAbs.log2 < 1000000
def divOk (j : Int) : Prop := j ≠ 0 ∧ j.natAbs.log2 < 9000
def powOk (i n : Int) : Prop := 0 ≤ n ∧ (Builtin.Int.intBits i : Int) * n ≤ 2 ^ 27
def binK (op : BOp) (x y : PyData) (k : AV → Prop) : Prop :=
  match op, x, y with
  | .add, .int i, .int j => k (.d (.int (i + j)))
  | .sub, .int i, .int j => k (.d (.int (i - j)))
  | .mul, .int i, .int j => mulOk i j ∧ k (.d (.int (i * j)))
  | .fdiv, .int i, .int j => divOk j ∧ k (.d (.int (i.fdiv j)))
  | .mod, .int i, .int j => j ≠ 0 ∧ k (.d (.int (i.fmod j)))
  | .pow, .int i, .int n => powOk i n ∧ k (.d (.int (i ^ n.toNat)))
  | .add, .list a, .list b => a.length + b.length ≤ sizeLine ∧ k (.o (a ++ b))
  | _, _, _ => False
def cmpK (op : COp) (x y : PyData) (k : Bool → Prop) : Prop :=
  match op with
  | .eq => SeqAt.shaped x = true ∧ SeqAt.shaped y = true ∧ k (PyData.eqv x y)
  | .ne => SeqAt.shaped x = true ∧ SeqAt.shaped y = true ∧ k (!PyData.eqv x y)
  | .lt => match x, y with | .int i, .int j => k (decide (i < j)) | _, _ => False
  | .le => match x, y with | .int i, .int j => k (decide (i ≤ j)) | _, _ => False
  | .gt => match x, y with | .int i, .int j => k (decide (j < i)) | _, _ => False
  | .ge => match x, y with | .int i, .int j => k (decide (j ≤ i)) | _, _ => False
  | .isin => match y with
    | .list ys => SeqAt.shaped x = true ∧ SeqAt.shaped (.list ys) = true ∧ k (ys.any fun z => PyData.eqv z x)
    | _ => False
  | .notin => match y with
    | .list ys => SeqAt.shaped x = true ∧ SeqAt.shaped (.list ys) = true ∧ k (!ys.any fun z => PyData.eqv z x)
    | _ => False
  | .is => match x, y with
    | .none, .none => k true
    | _, .none => k false
    | .bool a, .bool b => k (decide (a = b))
    | _, _ => False
  | .isnot => match x, y with
    | .none, .none => k false
    | _, .none => k true
    | .bool a, .bool b => k (!decide (a = b))
    | _, _ => False
def ixK (x y : PyData) (k : PyData → Prop) : Prop :=
  match x, y with
  | .list xs, .int i => match L2.atI xs i with | some z => k z | Option.none => False
  | .tuple xs, .int i => match L2.atI xs i with | some z => k z | Option.none => False
  | _, _ => False
def cutD (xs : List PyData) (lo hi : Option Int) : List PyData := (xs.drop (HT.sIx xs.length 0 lo)).take (HT.sIx xs.length xs.length hi - HT.sIx xs.length 0 lo)
def slK (x : PyData) (lo hi : Option Int) (k : AV → Prop) : Prop :=
  match x with
  | .list xs => k (.o (cutD xs lo hi))
  | _ => False
def tyOf : PyData → List Ty
  | .bool _ => [.bool, .int]
  | .int _ => [.int]
  | .str _ => [.str]
  | .list _ => [.list]
  | .tuple _ => [.tuple]
  | _ => []
def isTy (x : PyData) (ts : List Ty) : Bool := ts.any fun t => (tyOf x).contains t
def boolsOf : List PyData → Option (List Bool)
  | [] => some []
  | .bool b :: r => (boolsOf r).map (b :: ·)
  | _ :: _ => Option.none
def intsOf : List PyData → Option (List Int)
  | [] => some []
  | .int i :: r => (intsOf r).map (i :: ·)
  | _ :: _ => Option.none
def biK (f : BI) (xs : List PyData) (k : AV → Prop) : Prop :=
  match f, xs with
  | .len, [.list a] => k (.d (.int a.length))
  | .len, [.tuple a] => k (.d (.int a.length))
  | .abs, [.int i] => k (.d (.int (if i < 0 then -i else i)))
  | .max2, [.int i, .int j] => k (.d (.int (if j > i then j else i)))
  | .min2, [.int i, .int j] => k (.d (.int (if j < i then j else i)))
  | .int, [.int i] => k (.d (.int i))
  | .int, [.bool b] => k (.d (.int (if b then 1 else 0)))
  | .list, [.list a] => k (.o a)
  | .list, [.tuple a] => k (.o a)
  | .tuple, [.list a] => k (.d (.tuple a))
  | .tuple, [.tuple a] => k (.d (.tuple a))
  | .sum, [.list a] => match intsOf a with | some ns => k (.d (.int ns.sum)) | Option.none => False
  | .any, [.list a] => match boolsOf a with | some bs => k (.d (.bool (bs.any id))) | Option.none => False
  | .all, [.list a] => match boolsOf a with | some bs => k (.d (.bool (bs.all id))) | Option.none => False
  | .min1, [.list a] => match intsOf a with | some ns => 0 < ns.length ∧ ∀ m, m ∈ ns → (∀ y, y ∈ ns → m ≤ y) → k (.d (.int m)) | Option.none => False
  | .max1, [.list a] => match intsOf a with | some ns => 0 < ns.length ∧ ∀ m, m ∈ ns → (∀ y, y ∈ ns → y ≤ m) → k (.d (.int m)) | Option.none => False
  | .sorted, [.list a] => match intsOf a with | some ns => ∀ ns' : List Int, ns'.Perm ns → ns'.Pairwise (· ≤ ·) → k (.o (ns'.map .int)) | Option.none => False
  | .repr, [x] => (x.showable = true ∧ x.hasDict = false ∧ x.shown.length ≤ sizeLine ∧ x.depth ≤ 64) ∧ k (.d (.str x.shown))
  | _, _ => False

/-! ### targets and walks -/
def setMany : List Nat → List PyData → AEnv → AEnv
  | i :: is, x :: xs, env => setMany is xs (setE env i (some (.d x)))
  | _, _, env => env
def tgK (tg : Tg) (x : PyData) (env : AEnv) (k : AEnv → Prop) : Prop :=
  match tg with
  | .nm i => k (setE env i (some (.d x)))
  | .tp is => match x with
    | .tuple xs => xs.length = is.length ∧ k (setMany is xs env)
    | _ => False
def rangeL (lo hi : Int) : List PyData := (List.range (hi - lo).toNat).map fun (i : Nat) => .int (lo + (i : Int))
def rangeK (lo hi : Int) (k : List PyData → Prop) : Prop := (-1000000000 ≤ lo ∧ lo ≤ 1000000000 ∧ -1000000000 ≤ hi ∧ hi ≤ 1000000000 ∧ (hi - lo).toNat < sizeLine) ∧ k (rangeL lo hi)
/-- lo, lo + c, .. below hi, for a step above 0 -/
def rangeCn (lo hi c : Int) : Nat := if lo < hi then ((hi - lo - 1) / c + 1).toNat else 0
def rangeCL (lo hi c : Int) : List PyData := (List.range (rangeCn lo hi c)).map fun (i : Nat) => .int (lo + (i : Int) * c)
def rangeCK (lo hi c : Int) (k : List PyData → Prop) : Prop := (0 < c ∧ c ≤ 1000000000 ∧ -1000000000 ≤ lo ∧ lo ≤ 1000000000 ∧ -1000000000 ≤ hi ∧ hi ≤ 1000000000 ∧ rangeCn lo hi c < sizeLine) ∧ k (rangeCL lo hi c)
/-- empty lists, one for each slot -/
def setNils : List Nat → AEnv → AEnv
  | [], env => env
  | j :: js, env => setNils js (setE env j (some (.o [])))
/-- one item taken out of a list -/
def popK (ds : List PyData) (n : Int) (k : PyData → List PyData → Prop) : Prop := (0 ≤ n ∧ n < 2 ^ 63) ∧ match ds[n.toNat]? with | some x => k x (ds.eraseIdx n.toNat) | Option.none => False
def enumL (i : Nat) : List PyData → List PyData
  | [] => []
  | x :: xs => .tuple [.int i, x] :: enumL (i + 1) xs
def zipL : List PyData → List PyData → List PyData
  | x :: xs, y :: ys => .tuple [x, y] :: zipL xs ys
  | _, _ => []
/-- the items of what is walked -/
def seqK (v : AV) (k : List PyData → Prop) : Prop :=
  match v with
  | .d (.list xs) => k xs
  | .d (.tuple xs) => k xs
  | .o xs => k xs
  | _ => False
def lstK (v : AV) (k : List PyData → Prop) : Prop :=
  match v with
  | .d (.list xs) => k xs
  | .o xs => k xs
  | _ => False

/-! ### the ends of a statement -/
structure AEnds where
  nx : AEnv → Prop
  rt : AV → AEnv → Prop
  bk : AEnv → Prop := fun _ => False
  ct : AEnv → Prop := fun _ => False
abbrev XQ := Str → AEnv → Prop

/-- none of these slots owns a list -/
def noOwn (env : AEnv) : List (Str × Nat) → Prop
  | [] => True
  | p :: r => (match getE env p.2 with | some (.o _) => False | _ => True) ∧ noOwn env r
def compW (cond : Option Unit) (ec ee : AEnv → (AV → AEnv → Prop) → Prop) (tg : Tg) (own : List (Str × Nat)) : List PyData → AEnv → List PyData → (List PyData → AEnv → Prop) → Prop
  | [], env, acc, Q => Q acc env
  | x :: xs, env, acc, Q => tgK tg x (wipeE env own) fun env1 =>
    match cond with
    | Option.none => ee env1 fun v env3 => dataK v fun y => compW cond ec ee tg own xs env3 (acc ++ [y]) Q
    | some _ => ec env1 fun c env2 => truthK env2 c fun b =>
      if b = true then ee env2 fun v env3 => dataK v fun y => compW cond ec ee tg own xs env3 (acc ++ [y]) Q
      else compW cond ec ee tg own xs env2 acc Q
def forW (body : AEnv → AEnds → Prop) (tg : Tg) (D : AEnds) : List PyData → AEnv → Prop
  | [], env => D.nx env
  | x :: xs, env => tgK tg x env fun env1 => body env1 { D with nx := forW body tg D xs, ct := forW body tg D xs, bk := D.nx }
def whileW (c : AEnv → (AV → AEnv → Prop) → Prop) (body : AEnv → AEnds → Prop) (D : AEnds) (env : AEnv) : Prop :=
  ∃ W : Nat → AEnv → Prop, (∃ m, W m env) ∧ ∀ m env, W m env → c env fun v env1 => truthK env1 v fun b =>
    if b = true then ∃ N : AEnv → Prop, (∀ env', N env' → ∃ m', m' < m ∧ W m' env') ∧ body env1 { D with nx := N, ct := N, bk := D.nx } else D.nx env1

def rdsK (env : AEnv) : List AV → (List PyData → Prop) → Prop
  | [], k => k []
  | v :: vs, k => rdK env v fun x => rdsK env vs fun xs => k (x :: xs)
/-- arguments as a def gets them; at most one is lent -/
def lendK (env : AEnv) : List AV → (List AV → Prop) → Prop
  | [], k => k []
  | .d x :: r, k => lendK env r fun as => k (.d x :: as)
  | .o ds :: r, k => lendK env r fun as => k (.d (.list ds) :: as)
  | .b j :: r, k => match getE env j with
    | some (.o ds) => lendK env r fun as => k (.o ds :: as)
    | _ => False
def lent : List AV → List Nat
  | [] => []
  | .b j :: r => j :: lent r
  | _ :: r => lent r
def backL (env : AEnv) : List AV → List AV → AEnv
  | .b j :: r, .o ds :: as => backL (setE env j (some (.o ds))) r as
  | _ :: r, _ :: as => backL env r as
  | _, _ => env
def callK (sp : ASp) (vs : List AV) (env : AEnv) (Q : AV → AEnv → Prop) (X : XQ) : Prop :=
  (lent vs).length ≤ 1 ∧ lendK env vs fun as => sp.run as (fun r as' => Q r (backL env vs as')) (fun c => X c env)
/-- keywords put in the order of the parameters -/
def reorder (ps ks : List Str) (vs : List AV) : Option (List AV) := ps.mapM fun p => (ks.zip vs).lookup p

mutual
def wE : E → AEnv → (AV → AEnv → Prop) → XQ → Prop
  | .var i, env, Q, _ => match getE env i with
    | some (.d x) => Q (.d x) env
    | some (.o _) => Q (.b i) env
    | _ => False
  | .int i, env, Q, _ => Q (.d (.int i)) env
  | .bool b, env, Q, _ => Q (.d (.bool b)) env
  | .none, env, Q, _ => Q (.d .none) env
  | .str s, env, Q, _ => Q (.d (.str s)) env
  | .glob _ v, env, Q, _ => Q (.d v) env
  | .bin op a b, env, Q, X => wE a env (fun x env1 => wE b env1 (fun y env2 => rdK env2 x fun dx => rdK env2 y fun dy => binK op dx dy fun r => Q r env2) X) X
  | .neg a, env, Q, X => wE a env (fun x env1 => match x with | .d (.int i) => Q (.d (.int (-i))) env1 | _ => False) X
  | .rep a n, env, Q, X => wE a env (fun x env1 => wE n env1 (fun y env2 => match x, y with | .o ds, .d (.int n) => (-(2 ^ 63) ≤ n ∧ n < 2 ^ 63 ∧ ds.length * n.toNat ≤ sizeLine) ∧ Q (.o (List.replicate n.toNat ds).flatten) env2 | _, _ => False) X) X
  | .not a, env, Q, X => wE a env (fun x env1 => truthK env1 x fun b => Q (.d (.bool (!b))) env1) X
  | .and a b, env, Q, X => wE a env (fun x env1 => truthK env1 x fun t => if t = true then wE b env1 Q X else Q x env1) X
  | .or a b, env, Q, X => wE a env (fun x env1 => truthK env1 x fun t => if t = true then Q x env1 else wE b env1 Q X) X
  | .cmp op a b, env, Q, X => wE a env (fun x env1 => wE b env1 (fun y env2 => rdK env2 x fun dx => rdK env2 y fun dy => cmpK op dx dy fun r => Q (.d (.bool r)) env2) X) X
  | .chain o1 o2 a b c, env, Q, X => wE a env (fun x env1 => wE b env1 (fun y env2 => rdK env2 x fun dx => rdK env2 y fun dy => cmpK o1 dx dy fun r =>
      if r = true then wE c env2 (fun z env3 => rdK env3 y fun dy => rdK env3 z fun dz => cmpK o2 dy dz fun r2 => Q (.d (.bool r2)) env3) X else Q (.d (.bool false)) env2) X) X
  | .ife c a b, env, Q, X => wE c env (fun x env1 => truthK env1 x fun t => if t = true then wE a env1 Q X else wE b env1 Q X) X
  | .tup es, env, Q, X => wEs es env (fun vs env1 => datasK vs fun ds => Q (.d (.tuple ds)) env1) X
  | .lst es, env, Q, X => wEs es env (fun vs env1 => datasK vs fun ds => Q (.o ds) env1) X
  | .ix a i, env, Q, X => wE a env (fun x env1 => wE i env1 (fun y env2 => rdK env2 x fun dx => rdK env2 y fun dy => ixK dx dy fun z => Q (.d z) env2) X) X
  | .slL a lo, env, Q, X => wE a env (fun x env1 => wE lo env1 (fun y env2 => match y with | .d (.int i) => rdK env2 x fun dx => slK dx (some i) Option.none fun r => Q r env2 | _ => False) X) X
  | .slU a hi, env, Q, X => wE a env (fun x env1 => wE hi env1 (fun y env2 => match y with | .d (.int i) => rdK env2 x fun dx => slK dx Option.none (some i) fun r => Q r env2 | _ => False) X) X
  | .slLU a lo hi, env, Q, X => wE a env (fun x env1 => wE lo env1 (fun y env2 => match y with | .d (.int i) => wE hi env2 (fun z env3 => match z with | .d (.int j) => rdK env3 x fun dx => slK dx (some i) (some j) fun r => Q r env3 | _ => False) X | _ => False) X) X
  | .slRev a, env, Q, X => wE a env (fun x env1 => rdK env1 x fun dx => match dx with | .list xs => Q (.o xs.reverse) env1 | _ => False) X
  | .call _ sp es, env, Q, X => wEs es env (fun vs env1 => callK sp vs env1 Q X) X
  | .callK _ sp ps ks es, env, Q, X => wEs es env (fun vs env1 => match reorder ps ks vs with | some us => callK sp us env1 Q X | Option.none => False) X
  | .callO _ sp a, env, Q, X => wE a env (fun v env1 => match v with | .o ds => sp.run [.o ds] (fun r _ => match r with | .d x => Q (.d x) env1 | _ => False) (fun c => X c env1) | _ => False) X
  | .bi f es, env, Q, X => wEs es env (fun vs env1 => rdsK env1 vs fun ds => biK f ds fun r => Q r env1) X
  | .inst a ts, env, Q, X => wE a env (fun x env1 => rdK env1 x fun dx => Q (.d (.bool (isTy dx ts))) env1) X
  | .lrg1 a, env, Q, X => wE a env (fun v env1 => match v with | .d (.int n) => rangeK 0 n fun xs => Q (.o xs) env1 | _ => False) X
  | .lrg2 a b, env, Q, X => wE a env (fun v env1 => wE b env1 (fun u env2 => match v, u with | .d (.int m), .d (.int n) => rangeK m n fun xs => Q (.o xs) env2 | _, _ => False) X) X
  | .lrg3 a b c, env, Q, X => wE a env (fun v env1 => wE b env1 (fun u env2 => wE c env2 (fun t env3 => match v, u, t with | .d (.int m), .d (.int n), .d (.int s) => rangeCK m n s fun xs => Q (.o xs) env3 | _, _, _ => False) X) X) X
  | .pop j i, env, Q, X => match getE env j with
    | some (.o _) => wE i env (fun t env1 => match t, getE env1 j with
      | .d (.int n), some (.o ds) => popK ds n fun x ds' => Q (.d x) (setE env1 j (some (.o ds')))
      | _, _ => False) X
    | _ => False
  | .comp elt cond c tg it own, env, Q, X => wIt it env (fun items env1 => noOwn env1 own ∧ compW cond (fun e q => wE c e q X) (fun e q => wE elt e q X) tg own items env1 [] fun ds env2 => Q (.o ds) (backE env1 env2 own)) X
def wEs : Es → AEnv → (List AV → AEnv → Prop) → XQ → Prop
  | .nil, env, Q, _ => Q [] env
  | .cons e es, env, Q, X => wE e env (fun v env1 => wEs es env1 (fun vs env2 => Q (v :: vs) env2) X) X
def wIt : It → AEnv → (List PyData → AEnv → Prop) → XQ → Prop
  | .seq e, env, Q, X => wE e env (fun v env1 => seqK v fun xs => Q xs env1) X
  | .range1 a, env, Q, X => wE a env (fun v env1 => match v with | .d (.int n) => rangeK 0 n fun xs => Q xs env1 | _ => False) X
  | .range2 a b, env, Q, X => wE a env (fun v env1 => wE b env1 (fun u env2 => match v, u with | .d (.int m), .d (.int n) => rangeK m n fun xs => Q xs env2 | _, _ => False) X) X
  | .range3 a b c, env, Q, X => wE a env (fun v env1 => wE b env1 (fun u env2 => wE c env2 (fun t env3 => match v, u, t with | .d (.int m), .d (.int n), .d (.int s) => rangeCK m n s fun xs => Q xs env3 | _, _, _ => False) X) X) X
  | .enum e, env, Q, X => wE e env (fun v env1 => lstK v fun xs => Q (enumL 0 xs) env1) X
  | .zip a b, env, Q, X => wE a env (fun v env1 => wE b env1 (fun u env2 => lstK v fun xs => lstK u fun ys => Q (zipL xs ys) env2) X) X
end

mutual
def wS (X : XQ) : S → AEnv → AEnds → Prop
  | .asg i e, env, D => wE e env (fun v env1 => match v with | .b _ => False | v => D.nx (setE env1 i (some v))) X
  | .asgF i e, env, D => wE e env (fun v env1 => dataK v fun x => D.nx (setE env1 i (some (.d x)))) X
  | .par is es, env, D => wEs es env (fun vs env1 => datasK vs fun xs => xs.length = is.length ∧ D.nx (setMany is xs env1)) X
  | .parN is es js, env, D => wEs es env (fun vs env1 => datasK vs fun xs => xs.length = is.length ∧ D.nx (setNils js (setMany is xs env1))) X
  | .unp is e, env, D => wE e env (fun v env1 => match v with | .d x => tgK (.tp is) x env1 D.nx | _ => False) X
  | .setIx j i e, env, D => wE e env (fun v env1 => dataK v fun x => match getE env1 j with
      | some (.o _) => wE i env1 (fun w env2 => match w, getE env2 j with
        | .d (.int n), some (.o ds) => (0 ≤ n ∧ n < ds.length) ∧ D.nx (setE env2 j (some (.o (ds.set n.toNat x))))
        | _, _ => False) X
      | _ => False) X
  | .aug i op e, env, D => match getE env i with
      | some (.d x) => wE e env (fun v env1 => match v with | .d y => binK op x y (fun r => match r with | .d z => D.nx (setE env1 i (some (.d z))) | _ => False) | _ => False) X
      | _ => False
  | .append j e, env, D => match getE env j with
      | some (.o _) => wE e env (fun v env1 => dataK v fun x => match getE env1 j with
        | some (.o ds) => ds.length < sizeLine ∧ D.nx (setE env1 j (some (.o (ds ++ [x]))))
        | _ => False) X
      | _ => False
  | .insert j i e, env, D => match getE env j with
      | some (.o _) => wE i env (fun w env1 => wE e env1 (fun v env2 => dataK v fun x => match w, getE env2 j with
        | .d (.int n), some (.o ds) => (0 ≤ n ∧ n < 2 ^ 63 ∧ ds.length < sizeLine) ∧ D.nx (setE env2 j (some (.o (ds.take n.toNat ++ x :: ds.drop n.toNat))))
        | _, _ => False) X) X
      | _ => False
  | .expr e, env, D => wE e env (fun _ env1 => D.nx env1) X
  | .ret e, env, D => wE e env (fun v env1 => D.rt v env1) X
  | .retN, env, D => D.rt (.d .none) env
  | .ite c a b, env, D => wE c env (fun v env1 => truthK env1 v fun t => if t = true then wSs X a env1 D else wSs X b env1 D) X
  | .forS tg it body, env, D => wIt it env (fun items env1 => forW (fun e D' => wSs X body e D') tg D items env1) X
  | .whl c body, env, D => whileW (fun e q => wE c e q X) (fun e D' => wSs X body e D') D env
  | .pass, env, D => D.nx env
  | .brk, env, D => D.bk env
  | .cont, env, D => D.ct env
  | .raise x, env, _ => X x env
  | .frz j, env, D => match getE env j with
      | some (.o ds) => D.nx (setE env j (some (.d (.list ds))))
      | _ => False
def wSs (X : XQ) : Ss → AEnv → AEnds → Prop
  | .nil, env, D => D.nx env
  | .cons s ss, env, D => wS X s env { D with nx := fun env1 => wSs X ss env1 D }
end
end PF

set_option maxRecDepth 100000
set_option maxHeartbeats 4000000
namespace PF
open PySem
theorem rdK_mono {env : AEnv} {v : AV} {k k' : PyData → Prop} (h : ∀ x, k x → k' x) (q : rdK env v k) : rdK env v k' := by
  unfold rdK at q ⊢
  split at q
  · exact h _ q
  · exact h _ q
  · split at q
    · exact h _ q
    · exact q
def rdV (env : AEnv) : AV → Option PyData
  | .d x => some x
  | .o ds => some (.list ds)
  | .b j => match getE env j with
    | some (.o ds) => some (.list ds)
    | _ => Option.none
theorem rdK_iff {env : AEnv} {v : AV} {k : PyData → Prop} : rdK env v k ↔ ∃ x, rdV env v = some x ∧ k x := by
  cases v with
  | d x => exact ⟨fun h => ⟨x, rfl, h⟩, fun ⟨y, e, h⟩ => by cases e; exact h⟩
  | o x => exact ⟨fun h => ⟨_, rfl, h⟩, fun ⟨y, e, h⟩ => by cases e; exact h⟩
  | b j =>
    unfold rdK rdV
    simp only
    generalize getE env j = g
    match g with
    | some (.o ds) => exact ⟨fun h => ⟨_, rfl, h⟩, fun ⟨y, e, h⟩ => by cases e; exact h⟩
    | some (.d x) => exact ⟨fun h => h.elim, fun ⟨y, e, h⟩ => by cases e⟩
    | some (.b x) => exact ⟨fun h => h.elim, fun ⟨y, e, h⟩ => by cases e⟩
    | Option.none => exact ⟨fun h => h.elim, fun ⟨y, e, h⟩ => by cases e⟩
theorem truthK_iff {env : AEnv} {v : AV} {k : Bool → Prop} : truthK env v k ↔ ∃ b, (rdV env v).bind truth = some b ∧ k b := by
  unfold truthK
  rw [rdK_iff]
  constructor
  · rintro ⟨x, e, h⟩
    cases ht : truth x with
    | none => rw [ht] at h; exact h.elim
    | some b => rw [ht] at h; exact ⟨b, by rw [e]; exact ht, h⟩
  · rintro ⟨b, e, h⟩
    cases hr : rdV env v with
    | none => rw [hr] at e; cases e
    | some x =>
      rw [hr] at e
      have e : truth x = some b := e
      exact ⟨x, rfl, by rw [e]; exact h⟩
theorem dataK_mono {v : AV} {k k' : PyData → Prop} (h : ∀ x, k x → k' x) (q : dataK v k) : dataK v k' := by
  unfold dataK at q ⊢
  split at q
  · exact h _ q
  · exact h _ q
  · exact q
theorem datasK_mono : ∀ {vs : List AV} {k k' : List PyData → Prop}, (∀ x, k x → k' x) → datasK vs k → datasK vs k'
  | [], _, _, h, q => h _ q
  | v :: vs, _, _, h, q => dataK_mono (fun x q => datasK_mono (fun xs q => h _ q) q) q
theorem rdsK_mono {env : AEnv} : ∀ {vs : List AV} {k k' : List PyData → Prop}, (∀ x, k x → k' x) → rdsK env vs k → rdsK env vs k'
  | [], _, _, h, q => h _ q
  | v :: vs, _, _, h, q => rdK_mono (fun x q => rdsK_mono (fun xs q => h _ q) q) q
theorem truthK_mono {env : AEnv} {v : AV} {k k' : Bool → Prop} (h : ∀ x, k x → k' x) (q : truthK env v k) : truthK env v k' :=
  rdK_mono (fun x q => by
    split at q
    · exact h _ q
    · exact q) q
theorem binK_mono {op : BOp} {x y : PyData} {k k' : AV → Prop} (h : ∀ r, k r → k' r) (q : binK op x y k) : binK op x y k' := by
  unfold binK at q ⊢
  split at q <;> first | exact h _ q | exact ⟨q.1, h _ q.2⟩ | exact q
theorem cmpK_mono {op : COp} {x y : PyData} {k k' : Bool → Prop} (h : ∀ r, k r → k' r) (q : cmpK op x y k) : cmpK op x y k' := by
  unfold cmpK at q ⊢
  split at q <;> (try split at q) <;> first | exact h _ q | exact ⟨q.1, q.2.1, h _ q.2.2⟩ | exact q
theorem ixK_mono {x y : PyData} {k k' : PyData → Prop} (h : ∀ r, k r → k' r) (q : ixK x y k) : ixK x y k' := by
  unfold ixK at q ⊢
  split at q <;> (try split at q) <;> first | exact h _ q | exact q
theorem slK_mono {x : PyData} {lo hi : Option Int} {k k' : AV → Prop} (h : ∀ r, k r → k' r) (q : slK x lo hi k) : slK x lo hi k' := by
  unfold slK at q ⊢
  split at q <;> first | exact h _ q | exact q
theorem biK_mono {f : BI} {xs : List PyData} {k k' : AV → Prop} (h : ∀ r, k r → k' r) (q : biK f xs k) : biK f xs k' := by
  unfold biK at q ⊢
  split at q <;> first | exact h _ q | exact ⟨q.1, h _ q.2⟩ | (split at q <;> first | exact h _ q | exact ⟨q.1, fun m h1 h2 => h _ (q.2 m h1 h2)⟩ | exact fun m h1 h2 => h _ (q m h1 h2) | exact q) | exact q
theorem tgK_mono {tg : Tg} {x : PyData} {env : AEnv} {k k' : AEnv → Prop} (h : ∀ r, k r → k' r) (q : tgK tg x env k) : tgK tg x env k' := by
  unfold tgK at q ⊢
  split at q
  · exact h _ q
  · split at q
    · exact ⟨q.1, h _ q.2⟩
    · exact q
theorem seqK_mono {v : AV} {k k' : List PyData → Prop} (h : ∀ xs, k xs → k' xs) (q : seqK v k) : seqK v k' := by
  unfold seqK at q ⊢
  split at q <;> first | exact h _ q | exact q
theorem lstK_mono {v : AV} {k k' : List PyData → Prop} (h : ∀ xs, k xs → k' xs) (q : lstK v k) : lstK v k' := by
  unfold lstK at q ⊢
  split at q <;> first | exact h _ q | exact q
theorem lendK_mono {env : AEnv} : ∀ {vs : List AV} {k k' : List AV → Prop}, (∀ x, k x → k' x) → lendK env vs k → lendK env vs k'
  | [], _, _, h, q => h _ q
  | .d x :: r, _, _, h, q => lendK_mono (vs := r) (fun as q => h _ q) q
  | .o ds :: r, _, _, h, q => lendK_mono (vs := r) (fun as q => h _ q) q
  | .b j :: r, _, _, h, q => by
    unfold lendK at q ⊢
    split at q
    · exact lendK_mono (fun as q => h _ q) q
    · exact q
theorem callK_mono {sp : ASp} {vs : List AV} {env : AEnv} {Q Q' : AV → AEnv → Prop} {X : XQ} (h : ∀ r e, Q r e → Q' r e) (q : callK sp vs env Q X) : callK sp vs env Q' X :=
  ⟨q.1, lendK_mono (fun as q => sp.mono _ _ _ _ _ (fun r as z => h _ _ z) (fun _ z => z) q) q.2⟩
theorem compW_mono {cond : Option Unit} {ec ee : AEnv → (AV → AEnv → Prop) → Prop} {tg : Tg} {own : List (Str × Nat)} (hc : ∀ env Q Q', (∀ r e, Q r e → Q' r e) → ec env Q → ec env Q') (he : ∀ env Q Q', (∀ r e, Q r e → Q' r e) → ee env Q → ee env Q') :
    ∀ {items : List PyData} {env : AEnv} {acc : List PyData} {Q Q' : List PyData → AEnv → Prop}, (∀ r e, Q r e → Q' r e) → compW cond ec ee tg own items env acc Q → compW cond ec ee tg own items env acc Q'
  | [], _, _, _, _, h, q => h _ _ q
  | x :: xs, env, acc, Q, Q', h, q => by
    refine tgK_mono (fun env1 q => ?_) q
    cases cond with
    | none => exact he _ _ _ (fun v e3 q => dataK_mono (fun y q => compW_mono hc he h q) q) q
    | some u =>
      refine hc _ _ _ (fun c e2 q => truthK_mono (fun b q => ?_) q) q
      cases b with
      | true =>
        rw [if_pos rfl] at q ⊢
        exact he _ _ _ (fun v e3 q => dataK_mono (fun y q => compW_mono hc he h q) q) q
      | false =>
        rw [if_neg Bool.false_ne_true] at q ⊢
        exact compW_mono hc he h q
theorem ite_mono {b : Bool} {A A' B B' : Prop} (h1 : A → A') (h2 : B → B') (q : if b = true then A else B) : if b = true then A' else B' := by
  cases b with
  | true => rw [if_pos rfl] at q ⊢; exact h1 q
  | false => rw [if_neg Bool.false_ne_true] at q ⊢; exact h2 q
theorem popK_mono {ds : List PyData} {n : Int} {k k' : PyData → List PyData → Prop} (h : ∀ x y, k x y → k' x y) (q : popK ds n k) : popK ds n k' := by
  unfold popK at q ⊢
  refine ⟨q.1, ?_⟩
  have q2 := q.2
  split at q2
  · exact h _ _ q2
  · exact q2
mutual
theorem wE_mono : ∀ (e : E) {env : AEnv} {Q Q' : AV → AEnv → Prop} {X : XQ}, (∀ r e, Q r e → Q' r e) → wE e env Q X → wE e env Q' X
  | .var i, env, Q, Q', X, h, q => by
    unfold wE at q ⊢
    split at q <;> first | exact h _ _ q | exact q
  | .int _, _, _, _, _, h, q => h _ _ q
  | .bool _, _, _, _, _, h, q => h _ _ q
  | .none, _, _, _, _, h, q => h _ _ q
  | .str _, _, _, _, _, h, q => h _ _ q
  | .glob _ _, _, _, _, _, h, q => h _ _ q
  | .bin op a b, _, _, _, _, h, q => wE_mono a (fun _ _ q => wE_mono b (fun _ _ q => rdK_mono (fun _ q => rdK_mono (fun _ q => binK_mono (fun _ q => h _ _ q) q) q) q) q) q
  | .neg a, _, _, _, _, h, q => wE_mono a (fun _ _ q => by
      split at q
      · exact h _ _ q
      · exact q) q
  | .rep a n, _, _, _, _, h, q => wE_mono a (fun _ _ q => wE_mono n (fun _ _ q => by
      split at q
      · exact ⟨q.1, h _ _ q.2⟩
      · exact q) q) q
  | .not a, _, _, _, _, h, q => wE_mono a (fun _ _ q => truthK_mono (fun _ q => h _ _ q) q) q
  | .and a b, _, _, _, _, h, q => wE_mono a (fun _ _ q => truthK_mono (fun _ q => ite_mono (fun q => wE_mono b h q) (fun q => h _ _ q) q) q) q
  | .or a b, _, _, _, _, h, q => wE_mono a (fun _ _ q => truthK_mono (fun _ q => ite_mono (fun q => h _ _ q) (fun q => wE_mono b h q) q) q) q
  | .cmp op a b, _, _, _, _, h, q => wE_mono a (fun _ _ q => wE_mono b (fun _ _ q => rdK_mono (fun _ q => rdK_mono (fun _ q => cmpK_mono (fun _ q => h _ _ q) q) q) q) q) q
  | .chain o1 o2 a b c, _, _, _, _, h, q => wE_mono a (fun _ _ q => wE_mono b (fun _ _ q => rdK_mono (fun _ q => rdK_mono (fun _ q => cmpK_mono (fun _ q => ite_mono (fun q => wE_mono c (fun _ _ q => rdK_mono (fun _ q => rdK_mono (fun _ q => cmpK_mono (fun _ q => h _ _ q) q) q) q) q) (fun q => h _ _ q) q) q) q) q) q) q
  | .ife c a b, _, _, _, _, h, q => wE_mono c (fun _ _ q => truthK_mono (fun _ q => ite_mono (fun q => wE_mono a h q) (fun q => wE_mono b h q) q) q) q
  | .tup es, _, _, _, _, h, q => wEs_mono es (fun _ _ q => datasK_mono (fun _ q => h _ _ q) q) q
  | .lst es, _, _, _, _, h, q => wEs_mono es (fun _ _ q => datasK_mono (fun _ q => h _ _ q) q) q
  | .ix a i, _, _, _, _, h, q => wE_mono a (fun _ _ q => wE_mono i (fun _ _ q => rdK_mono (fun _ q => rdK_mono (fun _ q => ixK_mono (fun _ q => h _ _ q) q) q) q) q) q
  | .slL a lo, _, _, _, _, h, q => wE_mono a (fun _ _ q => wE_mono lo (fun _ _ q => by
      split at q
      · exact rdK_mono (fun _ q => slK_mono (fun _ q => h _ _ q) q) q
      · exact q) q) q
  | .slU a hi, _, _, _, _, h, q => wE_mono a (fun _ _ q => wE_mono hi (fun _ _ q => by
      split at q
      · exact rdK_mono (fun _ q => slK_mono (fun _ q => h _ _ q) q) q
      · exact q) q) q
  | .slLU a lo hi, _, _, _, _, h, q => wE_mono a (fun _ _ q => wE_mono lo (fun _ _ q => by
      split at q
      · refine wE_mono hi (fun _ _ q => ?_) q
        split at q
        · exact rdK_mono (fun _ q => slK_mono (fun _ q => h _ _ q) q) q
        · exact q
      · exact q) q) q
  | .slRev a, _, _, _, _, h, q => wE_mono a (fun _ _ q => rdK_mono (fun _ q => by
      split at q
      · exact h _ _ q
      · exact q) q) q
  | .call _ sp es, _, _, _, _, h, q => wEs_mono es (fun _ _ q => callK_mono h q) q
  | .callK _ sp ps ks es, _, _, _, _, h, q => wEs_mono es (fun _ _ q => by
      split at q
      · exact callK_mono h q
      · exact q) q
  | .callO _ sp a, _, _, _, _, h, q => wE_mono a (fun v _ q => by
      split at q
      · exact sp.mono _ _ _ _ _ (fun r _ z => by
          split at z
          · exact h _ _ z
          · exact z) (fun _ z => z) q
      · exact q) q
  | .bi f es, _, _, _, _, h, q => wEs_mono es (fun _ _ q => rdsK_mono (fun _ q => biK_mono (fun _ q => h _ _ q) q) q) q
  | .inst a ts, _, _, _, _, h, q => wE_mono a (fun _ _ q => rdK_mono (fun _ q => h _ _ q) q) q
  | .lrg1 a, _, _, _, _, h, q => wE_mono a (fun _ _ q => by
      split at q
      · exact ⟨q.1, h _ _ q.2⟩
      · exact q) q
  | .lrg2 a b, _, _, _, _, h, q => wE_mono a (fun _ _ q => wE_mono b (fun _ _ q => by
      split at q
      · exact ⟨q.1, h _ _ q.2⟩
      · exact q) q) q
  | .lrg3 a b c, _, _, _, _, h, q => wE_mono a (fun _ _ q => wE_mono b (fun _ _ q => wE_mono c (fun _ _ q => by
      split at q
      · exact ⟨q.1, h _ _ q.2⟩
      · exact q) q) q) q
  | .pop j i, env, Q, Q', X, h, q => by
    unfold wE at q ⊢
    split at q
    · refine wE_mono i (fun _ _ q => ?_) q
      split at q
      · exact popK_mono (fun _ _ q => h _ _ q) q
      · exact q
    · exact q
  | .comp elt cond c tg it own, env, Q, Q', X, h, q => by
    unfold wE at q ⊢
    refine wIt_mono it (fun items e1 q => ⟨q.1, ?_⟩) q
    refine compW_mono (ec := fun e q => wE c e q X) (ee := fun e q => wE elt e q X) (fun env Q Q' h q => wE_mono c h q) (fun env Q Q' h q => wE_mono elt h q) (fun r e q => h _ _ q) q.2
theorem wEs_mono : ∀ (es : Es) {env : AEnv} {Q Q' : List AV → AEnv → Prop} {X : XQ}, (∀ r e, Q r e → Q' r e) → wEs es env Q X → wEs es env Q' X
  | .nil, _, _, _, _, h, q => h _ _ q
  | .cons e es, _, _, _, _, h, q => wE_mono e (fun _ _ q => wEs_mono es (fun _ _ q => h _ _ q) q) q
theorem wIt_mono : ∀ (it : It) {env : AEnv} {Q Q' : List PyData → AEnv → Prop} {X : XQ}, (∀ r e, Q r e → Q' r e) → wIt it env Q X → wIt it env Q' X
  | .seq e, _, _, _, _, h, q => wE_mono e (fun _ _ q => seqK_mono (fun _ q => h _ _ q) q) q
  | .range1 a, _, _, _, _, h, q => wE_mono a (fun _ _ q => by
      split at q
      · exact ⟨q.1, h _ _ q.2⟩
      · exact q) q
  | .range2 a b, _, _, _, _, h, q => wE_mono a (fun _ _ q => wE_mono b (fun _ _ q => by
      split at q
      · exact ⟨q.1, h _ _ q.2⟩
      · exact q) q) q
  | .range3 a b c, _, _, _, _, h, q => wE_mono a (fun _ _ q => wE_mono b (fun _ _ q => wE_mono c (fun _ _ q => by
      split at q
      · exact ⟨q.1, h _ _ q.2⟩
      · exact q) q) q) q
  | .enum e, _, _, _, _, h, q => wE_mono e (fun _ _ q => lstK_mono (fun _ q => h _ _ q) q) q
  | .zip a b, _, _, _, _, h, q => wE_mono a (fun _ _ q => wE_mono b (fun _ _ q => lstK_mono (fun _ q => lstK_mono (fun _ q => h _ _ q) q) q) q) q
end
structure AEnds.Le (D D' : AEnds) : Prop where
  nx : ∀ e, D.nx e → D'.nx e
  rt : ∀ v e, D.rt v e → D'.rt v e
  bk : ∀ e, D.bk e → D'.bk e
  ct : ∀ e, D.ct e → D'.ct e
theorem forW_mono {body : AEnv → AEnds → Prop} {tg : Tg} (hb : ∀ env D D', D.Le D' → body env D → body env D') {D D' : AEnds} (h : D.Le D') : ∀ {items : List PyData} {env : AEnv}, forW body tg D items env → forW body tg D' items env
  | [], _, q => h.nx _ q
  | x :: xs, env, q => by
    unfold forW at q ⊢
    refine tgK_mono (fun env1 q => ?_) q
    refine hb env1 { D with nx := forW body tg D xs, ct := forW body tg D xs, bk := D.nx } _ ⟨fun _ q => forW_mono hb h q, h.rt, h.nx, fun _ q => forW_mono hb h q⟩ q
mutual
theorem wS_mono {X : XQ} : ∀ (s : S) {env : AEnv} {D D' : AEnds}, D.Le D' → wS X s env D → wS X s env D'
  | .asg i e, _, _, _, h, q => wE_mono e (fun _ _ q => by
      split at q
      · exact q
      · exact h.nx _ q) q
  | .asgF i e, _, _, _, h, q => wE_mono e (fun _ _ q => dataK_mono (fun _ q => h.nx _ q) q) q
  | .par is es, _, _, _, h, q => wEs_mono es (fun _ _ q => datasK_mono (fun _ q => ⟨q.1, h.nx _ q.2⟩) q) q
  | .parN is es js, _, _, _, h, q => wEs_mono es (fun _ _ q => datasK_mono (fun _ q => ⟨q.1, h.nx _ q.2⟩) q) q
  | .unp is e, _, _, _, h, q => wE_mono e (fun _ _ q => by
      split at q
      · exact tgK_mono (fun _ q => h.nx _ q) q
      · exact q) q
  | .setIx j i e, _, _, _, h, q => wE_mono e (fun _ _ q => dataK_mono (fun _ q => by
      split at q
      · refine wE_mono i (fun _ _ q => ?_) q
        split at q
        · exact ⟨q.1, h.nx _ q.2⟩
        · exact q
      · exact q) q) q
  | .aug i op e, env, D, D', h, q => by
    unfold wS at q ⊢
    split at q
    · refine wE_mono e (fun _ _ q => ?_) q
      split at q
      · refine binK_mono (fun _ q => ?_) q
        split at q
        · exact h.nx _ q
        · exact q
      · exact q
    · exact q
  | .append j e, env, D, D', h, q => by
    unfold wS at q ⊢
    split at q
    · refine wE_mono e (fun _ _ q => dataK_mono (fun _ q => ?_) q) q
      split at q
      · exact ⟨q.1, h.nx _ q.2⟩
      · exact q
    · exact q
  | .insert j i e, env, D, D', h, q => by
    unfold wS at q ⊢
    split at q
    · refine wE_mono i (fun _ _ q => wE_mono e (fun _ _ q => dataK_mono (fun _ q => ?_) q) q) q
      split at q
      · exact ⟨q.1, h.nx _ q.2⟩
      · exact q
    · exact q
  | .expr e, _, _, _, h, q => wE_mono e (fun _ _ q => h.nx _ q) q
  | .ret e, _, _, _, h, q => wE_mono e (fun _ _ q => h.rt _ _ q) q
  | .retN, _, _, _, h, q => h.rt _ _ q
  | .ite c a b, _, _, _, h, q => wE_mono c (fun _ _ q => truthK_mono (fun _ q => ite_mono (fun q => wSs_mono a h q) (fun q => wSs_mono b h q) q) q) q
  | .forS tg it body, env, D, D', h, q => by
    unfold wS at q ⊢
    exact wIt_mono it (fun _ _ q => forW_mono (body := fun e D' => wSs X body e D') (fun env D D' h q => wSs_mono body h q) h q) q
  | .whl c body, env, D, D', h, q => by
    unfold wS whileW at q ⊢
    obtain ⟨W, w0, turn⟩ := q
    refine ⟨W, w0, fun m env w => wE_mono c (fun _ _ q => truthK_mono (fun _ q => ite_mono (fun q => ?_) (fun q => h.nx _ q) q) q) (turn m env w)⟩
    obtain ⟨N, hN, q⟩ := q
    exact ⟨N, hN, wSs_mono body (D := { D with nx := N, ct := N, bk := D.nx }) ⟨fun _ z => z, h.rt, h.nx, fun _ z => z⟩ q⟩
  | .pass, _, _, _, h, q => h.nx _ q
  | .brk, _, _, _, h, q => h.bk _ q
  | .cont, _, _, _, h, q => h.ct _ q
  | .raise x, _, _, _, h, q => q
  | .frz j, env, D, D', h, q => by
    unfold wS at q ⊢
    split at q
    · exact h.nx _ q
    · exact q
theorem wSs_mono {X : XQ} : ∀ (ss : Ss) {env : AEnv} {D D' : AEnds}, D.Le D' → wSs X ss env D → wSs X ss env D'
  | .nil, _, _, _, h, q => h.nx _ q
  | .cons s ss, env, D, D', h, q => wS_mono s (D := { D with nx := fun env1 => wSs X ss env1 D }) (D' := { D' with nx := fun env1 => wSs X ss env1 D' }) ⟨fun _ q => wSs_mono ss h q, h.rt, h.bk, h.ct⟩ q
end
end PF

set_option maxRecDepth 100000
set_option maxHeartbeats 4000000
namespace PF
open PySem L2
/-! ### the heap without some addresses; data in it -/
def Wo (H : Hp) (O : List Addr) : Hp := fun a => if a ∈ O then none else H a
theorem wo_out {H : Hp} {O : List Addr} {a : Addr} (h : a ∉ O) : Wo H O a = H a := by unfold Wo; rw [if_neg h]
theorem wo_some {H : Hp} {O : List Addr} {a : Addr} {o : HO} (h : Wo H O a = some o) : a ∉ O ∧ H a = some o := by
  unfold Wo at h
  split at h
  · cases h
  · exact ⟨by assumption, h⟩
theorem sq_t {K : PySem.W.Frag} {H H' : Hp} {a : Addr} {xs : List V} (e : Same H H') (h : SqT K H a xs) : SqT K H' a xs := by
  rcases h with (h | ⟨o, h⟩) | h
  · exact .inl (.inl (e _ _ h))
  · exact .inl (.inr ⟨o, e _ _ h⟩)
  · exact .inr h
mutual
theorem dp_mono {K : PySem.W.Frag} {H H' : Hp} (e : Same H H') : ∀ {v : V} {d : PyData}, Dp K H v d → Dp K H' v d
  | _, _, .non => .non
  | _, _, .bl b => .bl b
  | _, _, .int i => .int i
  | _, _, .str x => .str x
  | _, _, .lst h t => .lst (e.seq h) (dps_mono e t)
  | _, _, .tup h t => .tup (sq_t e h) (dps_mono e t)
theorem dps_mono {K : PySem.W.Frag} {H H' : Hp} (e : Same H H') : ∀ {vs : List V} {ds : List PyData}, DpAll K H vs ds → DpAll K H' vs ds
  | _, _, .nil => .nil
  | _, _, .cons h t => .cons (dp_mono e h) (dps_mono e t)
end
def Chg (O : List Addr) (H H' : Hp) : Prop := ∀ a o, H a = some o → a ∉ O → H' a = some o
theorem Chg.refl {O : List Addr} {H : Hp} : Chg O H H := fun _ _ h _ => h
theorem Chg.trans {O : List Addr} {H H1 H2 : Hp} (a : Chg O H H1) (b : Chg O H1 H2) : Chg O H H2 := fun c o h n => b c o (a c o h n) n
theorem Chg.wo {O : List Addr} {H H' : Hp} (c : Chg O H H') : Same (Wo H O) (Wo H' O) := fun a o h => by
  obtain ⟨n, e⟩ := wo_some h
  rw [wo_out n]
  exact c a o e n
theorem Chg.wo2 {O O' : List Addr} {H H' : Hp} (c : Chg O H H') (hs : ∀ a, a ∈ O → a ∈ O') : Same (Wo H O') (Wo H' O') := fun a o h => by
  obtain ⟨n, e⟩ := wo_some h
  rw [wo_out n]
  exact c a o e fun z => n (hs a z)
theorem wo_sub {H : Hp} {O O' : List Addr} (hs : ∀ a, a ∈ O → a ∈ O') : Same (Wo H O') (Wo H O) := fun a o h => by
  obtain ⟨n, e⟩ := wo_some h
  rw [wo_out fun z => n (hs a z)]
  exact e
theorem wo_all {H : Hp} {O : List Addr} : Same (Wo H O) H := fun a o h => (wo_some h).2
theorem wo_cons {H : Hp} {O : List Addr} {p : Addr} : Same (Wo H (p :: O)) (Wo H O) := wo_sub fun _ h => List.mem_cons_of_mem _ h
/-- a new object beside -/
theorem chg_new {O : List Addr} {H : Hp} {p : Addr} {o : HO} (h : H p = none) : Chg O H (upd H p o) := fun a u e _ => by rw [upd_ne (ne_of_none e h)]; exact e
theorem wo_new {H : Hp} {O : List Addr} {p : Addr} {o : HO} (h : H p = none) : Same (Wo H O) (Wo (upd H p o) (p :: O)) := fun a u e => by
  obtain ⟨n, e⟩ := wo_some e
  have ne := ne_of_none e h
  rw [wo_out (by simp only [List.mem_cons, not_or]; exact ⟨ne, n⟩), upd_ne ne]
  exact e

theorem dps_len {K : PySem.W.Frag} {H : Hp} : ∀ {vs : List V} {ds : List PyData}, DpAll K H vs ds → vs.length = ds.length
  | _, _, .nil => rfl
  | _, _, .cons _ t => by rw [List.length_cons, List.length_cons, dps_len t]
theorem dps_get {K : PySem.W.Frag} {H : Hp} : ∀ {vs : List V} {ds : List PyData} {i : Nat} {d : PyData}, DpAll K H vs ds → ds[i]? = some d → ∃ v, vs[i]? = some v ∧ Dp K H v d
  | _, _, _, _, .nil, e => by simp at e
  | _, _, 0, _, .cons h _, e => by simp at e; subst e; exact ⟨_, rfl, h⟩
  | _, _, i + 1, d, .cons _ t, e => by
    obtain ⟨v, h1, h2⟩ := dps_get (i := i) (d := d) t (by simpa using e)
    exact ⟨v, by simpa using h1, h2⟩
theorem dps_getV {K : PySem.W.Frag} {H : Hp} : ∀ {vs : List V} {ds : List PyData} {i : Nat} {v : V}, DpAll K H vs ds → vs[i]? = some v → ∃ d, ds[i]? = some d ∧ Dp K H v d
  | _, _, _, _, .nil, e => by simp at e
  | _, _, 0, _, .cons h _, e => by simp at e; subst e; exact ⟨_, rfl, h⟩
  | _, _, i + 1, d, .cons _ t, e => by
    obtain ⟨v, h1, h2⟩ := dps_getV (i := i) (v := d) t (by simpa using e)
    exact ⟨v, by simpa using h1, h2⟩
theorem dps_append {K : PySem.W.Frag} {H : Hp} : ∀ {vs us : List V} {ds es : List PyData}, DpAll K H vs ds → DpAll K H us es → DpAll K H (vs ++ us) (ds ++ es)
  | _, _, _, _, .nil, q => q
  | _, _, _, _, .cons h t, q => .cons h (dps_append t q)
theorem dps_set {K : PySem.W.Frag} {H : Hp} {v : V} {d : PyData} (h : Dp K H v d) : ∀ {vs : List V} {ds : List PyData} (j : Nat), DpAll K H vs ds → DpAll K H (vs.set j v) (ds.set j d)
  | _, _, _, .nil => .nil
  | _, _, 0, .cons _ t => .cons h t
  | _, _, j + 1, .cons q t => .cons q (dps_set h j t)
theorem dps_take {K : PySem.W.Frag} {H : Hp} : ∀ {vs : List V} {ds : List PyData} (n : Nat), DpAll K H vs ds → DpAll K H (vs.take n) (ds.take n)
  | _, _, 0, _ => .nil
  | _, _, _ + 1, .nil => .nil
  | _, _, n + 1, .cons r t => .cons r (dps_take n t)
theorem dps_drop {K : PySem.W.Frag} {H : Hp} : ∀ {vs : List V} {ds : List PyData} (n : Nat), DpAll K H vs ds → DpAll K H (vs.drop n) (ds.drop n)
  | _, _, 0, r => r
  | _, _, _ + 1, .nil => .nil
  | _, _, n + 1, .cons _ t => dps_drop n t
theorem dps_rev {K : PySem.W.Frag} {H : Hp} : ∀ {vs : List V} {ds : List PyData}, DpAll K H vs ds → DpAll K H vs.reverse ds.reverse
  | _, _, .nil => .nil
  | _, _, .cons h t => by rw [List.reverse_cons, List.reverse_cons]; exact dps_append (dps_rev t) (.cons h .nil)
theorem dps_flat {K : PySem.W.Frag} {H : Hp} {vs : List V} {ds : List PyData} (h : DpAll K H vs ds) : ∀ n : Nat, DpAll K H (List.replicate n vs).flatten (List.replicate n ds).flatten
  | 0 => .nil
  | n + 1 => by rw [List.replicate_succ, List.replicate_succ, List.flatten_cons, List.flatten_cons]; exact dps_append h (dps_flat h n)

/-! ### slots -/
theorem getE_len : ∀ {env : AEnv} {i : Nat} {v : AV}, getE env i = some v → i < env.length
  | [], _, _, h => by cases h
  | _ :: _, 0, _, _ => by simp
  | _ :: l, i + 1, v, h => by have := getE_len (env := l) (i := i) h; simp; omega
theorem setE_len : ∀ (env : AEnv) (i : Nat) (v : Option AV), (setE env i v).length = env.length
  | [], _, _ => rfl
  | _ :: _, 0, _ => rfl
  | _ :: l, i + 1, v => by show (setE l i v).length + 1 = l.length + 1; rw [setE_len l i v]
theorem get_set : ∀ (env : AEnv) (i j : Nat) (v : Option AV), getE (setE env i v) j = if j = i then (if i < env.length then v else none) else getE env j
  | [], i, j, v => by simp [setE, getE]
  | x :: l, 0, 0, v => by simp [setE, getE]
  | x :: l, 0, j + 1, v => by simp [setE, getE]
  | x :: l, i + 1, 0, v => by simp [setE, getE]
  | x :: l, i + 1, j + 1, v => by
    show getE (setE l i v) j = _
    rw [get_set l i j v]
    simp [getE]
theorem get_set_same {env : AEnv} {i : Nat} {v : Option AV} (h : i < env.length) : getE (setE env i v) i = v := by rw [get_set, if_pos rfl, if_pos h]
theorem get_set_ne {env : AEnv} {i j : Nat} {v : Option AV} (h : j ≠ i) : getE (setE env i v) j = getE env j := by rw [get_set, if_neg h]

/-! ### what an environment stands for -/
/-- a def's entry: what was owned by others, the heap, the lent parameters -/
structure Fi where
  O0 : List Addr
  H0 : Hp
  par : Nat → Option Addr
def Fi.lent (F : Fi) (a : Addr) : Prop := ∃ i, F.par i = some a
structure EnvOk (K : PySem.W.Frag) (F : Fi) (O : List Addr) (H : Hp) (σ : L2.St) (env : AEnv) : Prop where
  len : σ.length = env.length
  dat : ∀ i x, getE env i = some (.d x) → ∃ v, σ[i]? = some (some v) ∧ Dp K (Wo H O) v x
  own : ∀ i ds, getE env i = some (.o ds) → ∃ p vs, σ[i]? = some (some (.ref p)) ∧ p ∈ O ∧ H p = some (.lst vs) ∧ DpAll K (Wo H O) vs ds
  nob : ∀ i j, getE env i ≠ some (.b j)
  inj : ∀ i j ds ds' p, getE env i = some (.o ds) → getE env j = some (.o ds') → σ[i]? = some (some (.ref p)) → σ[j]? = some (some (.ref p)) → i = j
  live : ∀ p ∈ O, H p ≠ none
  sub : ∀ p ∈ F.O0, p ∈ O
  new : ∀ p ∈ O, p ∈ F.O0 ∨ F.H0 p = none
  keep : ∀ a o, F.H0 a = some o → ¬ F.lent a → H a = some o
  ownF : ∀ i ds p, getE env i = some (.o ds) → σ[i]? = some (some (.ref p)) → F.lent p ∨ F.H0 p = none
  par : ∀ i p, F.par i = some p → σ[i]? = some (some (.ref p)) ∧ ∃ ds, getE env i = some (.o ds)
section
variable {K : PySem.W.Frag} {F : Fi} {O : List Addr} {H H' : Hp} {σ : L2.St} {env : AEnv}
theorem EnvOk.notO (e : EnvOk K F O H σ env) {p : Addr} (h : H p = none) : p ∉ O := fun z => e.live p z h
/-- nothing but new objects: the environment stands as it was -/
theorem EnvOk.grow (e : EnvOk K F O H σ env) (s : Same H H') : EnvOk K F O H' σ env where
  len := e.len
  dat := fun i x h => by
    obtain ⟨v, h1, h2⟩ := e.dat i x h
    exact ⟨v, h1, dp_mono (Chg.wo fun a o z _ => s a o z) h2⟩
  own := fun i ds h => by
    obtain ⟨p, vs, h1, h2, h3, h4⟩ := e.own i ds h
    exact ⟨p, vs, h1, h2, s _ _ h3, dps_mono (Chg.wo fun a o z _ => s a o z) h4⟩
  nob := e.nob
  inj := e.inj
  live := fun p hp z => by
    cases q : H p with
    | none => exact e.live p hp q
    | some o => rw [s _ _ q] at z; cases z
  sub := e.sub
  new := e.new
  keep := fun a o h n => s _ _ (e.keep a o h n)
  ownF := e.ownF
  par := e.par
/-- the list that a slot owns is another one -/
theorem EnvOk.put (e : EnvOk K F O H σ env) {j : Nat} {ds ds' : List PyData} {p : Addr} {vs' : List V} (h : getE env j = some (.o ds)) (hp : σ[j]? = some (some (.ref p))) (hk : Chg O H H') (ho : ∀ a o, H a = some o → a ≠ p → H' a = some o) (hq : H' p = some (.lst vs')) (hd : DpAll K (Wo H' O) vs' ds') :
    EnvOk K F O H' σ (setE env j (some (.o ds'))) := by
  have hj := getE_len h
  obtain ⟨p', vs, h1, h2, h3, h4⟩ := e.own j ds h
  rw [hp] at h1; cases h1
  have ge : ∀ i v, getE (setE env j (some (.o ds'))) i = some v → (i = j ∧ v = .o ds') ∨ (i ≠ j ∧ getE env i = some v) := fun i v q => by
    by_cases hi : i = j
    · subst hi; rw [get_set_same hj] at q; cases q; exact .inl ⟨rfl, rfl⟩
    · rw [get_set_ne hi] at q; exact .inr ⟨hi, q⟩
  refine ⟨by rw [setE_len]; exact e.len, fun i x q => ?_, fun i xs q => ?_, fun i k q => ?_, fun i k xs ys a q1 q2 r1 r2 => ?_, fun a ha z => ?_, e.sub, e.new, fun a o q n => ?_, fun i xs a q r => ?_, fun i a q => ?_⟩
  · rcases ge i _ q with ⟨_, z⟩ | ⟨_, q⟩
    · cases z
    · obtain ⟨v, e1, e2⟩ := e.dat i x q
      exact ⟨v, e1, dp_mono hk.wo e2⟩
  · rcases ge i _ q with ⟨rfl, z⟩ | ⟨hi, q⟩
    · cases z; exact ⟨p, vs', hp, h2, hq, hd⟩
    · obtain ⟨a, us, r1, r2, r3, r4⟩ := e.own i xs q
      have ne : a ≠ p := fun z => by subst z; exact hi (e.inj i j _ _ _ q h r1 hp)
      exact ⟨a, us, r1, r2, ho _ _ r3 ne, dps_mono hk.wo r4⟩
  · rcases ge i _ q with ⟨_, z⟩ | ⟨_, q⟩
    · cases z
    · exact e.nob i k q
  · rcases ge i _ q1 with ⟨hi, _⟩ | ⟨_, z1⟩ <;> rcases ge k _ q2 with ⟨hk2, _⟩ | ⟨_, z2⟩
    · rw [hi, hk2]
    · rw [hi] at r1 ⊢; exact e.inj _ _ _ _ _ h z2 r1 r2
    · rw [hk2] at r2 ⊢; exact e.inj _ _ _ _ _ z1 h r1 r2
    · exact e.inj _ _ _ _ _ z1 z2 r1 r2
  · by_cases hap : a = p
    · subst hap; rw [hq] at z; cases z
    · cases q : H a with
      | none => exact e.live a ha q
      | some o => rw [ho _ _ q hap] at z; cases z
  · have ne : a ≠ p := fun z => by
      subst z
      rcases e.ownF j ds a h hp with r | r
      · exact n r
      · rw [r] at q; cases q
    exact ho _ _ (e.keep a o q n) ne
  · rcases ge i _ q with ⟨rfl, _⟩ | ⟨_, q⟩
    · rw [hp] at r; cases r; exact e.ownF _ _ _ h hp
    · exact e.ownF _ _ _ q r
  · obtain ⟨r1, xs, r2⟩ := e.par i a q
    refine ⟨r1, ?_⟩
    by_cases hi : i = j
    · subst hi; exact ⟨ds', get_set_same hj⟩
    · exact ⟨xs, by rw [get_set_ne hi]; exact r2⟩
end

/-! ### what an answer stands for -/
def Res (K : PySem.W.Frag) (O : List Addr) (H H' : Hp) (σ : L2.St) (v : V) : AV → Prop
  | .d x => Dp K (Wo H' O) v x
  | .o ds => ∃ p vs, v = .ref p ∧ H p = none ∧ p ∉ O ∧ H' p = some (.lst vs) ∧ DpAll K (Wo H' (p :: O)) vs ds
  | .b j => ∃ p, v = .ref p ∧ σ[j]? = some (some (.ref p))
/-- the environment does not hang on the list at p -/
structure Av (K : PySem.W.Frag) (O : List Addr) (p : Addr) (H : Hp) (σ : L2.St) (env : AEnv) : Prop where
  dat : ∀ j x, getE env j = some (.d x) → ∃ v, σ[j]? = some (some v) ∧ Dp K (Wo H (p :: O)) v x
  own : ∀ j xs, getE env j = some (.o xs) → ∃ a us, σ[j]? = some (some (.ref a)) ∧ a ∈ O ∧ H a = some (.lst us) ∧ DpAll K (Wo H (p :: O)) us xs
def AvR (K : PySem.W.Frag) (O : List Addr) (H : Hp) (σ : L2.St) (env : AEnv) (v : V) : AV → Prop
  | .o _ => ∀ p, v = .ref p → Av K O p H σ env
  | _ => True
def ResAll (K : PySem.W.Frag) (O : List Addr) (H H' : Hp) (σ : L2.St) : List V → List AV → Prop
  | [], [] => True
  | v :: vs, r :: rs => Res K O H H' σ v r ∧ ResAll K O H H' σ vs rs
  | _, _ => False
/-- what is read: a list or a tuple by its place, its items without the owned ones -/
def RdD (K : PySem.W.Frag) (O : List Addr) (H : Hp) (v : V) : PyData → Prop
  | .list xs => ∃ p vs, v = .ref p ∧ SqL K H p vs ∧ DpAll K (Wo H O) vs xs
  | .tuple xs => ∃ p vs, v = .ref p ∧ SqT K (Wo H O) p vs ∧ DpAll K (Wo H O) vs xs
  | x => Dp K H v x
section
variable {K : PySem.W.Frag} {F : Fi} {O : List Addr} {H H0 H' : Hp} {σ : L2.St} {env : AEnv} {v : V} {r : AV}
theorem rdD_of {x : PyData} (h : Dp K (Wo H O) v x) : RdD K O H v x := by
  cases h with
  | non => exact .non
  | bl b => exact .bl b
  | int i => exact .int i
  | str s => exact .str s
  | lst h t => exact ⟨_, _, rfl, wo_all.seq h, t⟩
  | tup h t => exact ⟨_, _, rfl, h, t⟩
theorem RdD.dp {x : PyData} (h : RdD K O H v x) : Dp K H v x := by
  cases x with
  | list xs => obtain ⟨p, vs, rfl, a, b⟩ := h; exact .lst a (dps_mono wo_all b)
  | tuple xs => obtain ⟨p, vs, rfl, a, b⟩ := h; exact .tup (sq_t wo_all a) (dps_mono wo_all b)
  | none => exact h
  | bool b => exact h
  | int i => exact h
  | str s => exact h
  | dict k => exact h
theorem Res.chg (h : Res K O H0 H σ v r) (c : Chg O H H') : Res K O H0 H' σ v r := by
  cases r with
  | d x => exact dp_mono c.wo h
  | o ds =>
    obtain ⟨p, vs, e, n, no, hp, hd⟩ := h
    exact ⟨p, vs, e, n, no, c _ _ hp no, dps_mono (c.wo2 fun _ z => List.mem_cons_of_mem _ z) hd⟩
  | b j => exact h
/-- seen from an earlier heap -/
theorem Res.back {H1 : Hp} (h : Res K O H1 H σ v r) (c : Chg O H0 H1) : Res K O H0 H σ v r := by
  cases r with
  | d x => exact h
  | o ds =>
    obtain ⟨p, vs, e, n, no, hp, hd⟩ := h
    refine ⟨p, vs, e, ?_, no, hp, hd⟩
    cases q : H0 p with
    | none => rfl
    | some o => rw [c _ _ q no] at n; cases n
  | b j => exact h
theorem ResAll.chg : ∀ {vs : List V} {rs : List AV}, ResAll K O H0 H σ vs rs → Chg O H H' → ResAll K O H0 H' σ vs rs
  | [], [], _, _ => trivial
  | _ :: _, _ :: _, h, c => ⟨h.1.chg c, ResAll.chg h.2 c⟩
theorem ResAll.back {H1 : Hp} : ∀ {vs : List V} {rs : List AV}, ResAll K O H1 H σ vs rs → Chg O H0 H1 → ResAll K O H0 H σ vs rs
  | [], [], _, _ => trivial
  | _ :: _, _ :: _, h, c => ⟨h.1.back c, ResAll.back h.2 c⟩
theorem res_data {k : PyData → Prop} (h : Res K O H0 H σ v r) (q : dataK r k) : ∃ x, k x ∧ Dp K (Wo H O) v x := by
  cases r with
  | d x => exact ⟨x, q, h⟩
  | o ds =>
    obtain ⟨p, vs, rfl, n, no, hp, hd⟩ := h
    exact ⟨.list ds, q, .lst (.inl (.inl (by rw [wo_out no]; exact hp))) (dps_mono wo_cons hd)⟩
  | b j => exact q.elim
theorem res_datas : ∀ {vs : List V} {rs : List AV} {k : List PyData → Prop}, ResAll K O H0 H σ vs rs → datasK rs k → ∃ xs, k xs ∧ DpAll K (Wo H O) vs xs
  | [], [], k, _, q => ⟨[], q, .nil⟩
  | v :: vs, r :: rs, k, h, q => by
    obtain ⟨x, q, hx⟩ := res_data h.1 q
    obtain ⟨xs, q, hxs⟩ := res_datas h.2 q
    exact ⟨x :: xs, q, .cons hx hxs⟩
theorem res_rd {k : PyData → Prop} (e : EnvOk K F O H σ env) (h : Res K O H0 H σ v r) (q : rdK env r k) : ∃ x, k x ∧ RdD K O H v x := by
  cases r with
  | d x => exact ⟨x, q, rdD_of h⟩
  | o ds =>
    obtain ⟨p, vs, rfl, n, no, hp, hd⟩ := h
    exact ⟨.list ds, q, p, vs, rfl, .inl (.inl hp), dps_mono wo_cons hd⟩
  | b j =>
    unfold rdK at q
    simp only at q
    split at q
    · rename_i ds hg
      obtain ⟨p, rfl, hs⟩ := h
      obtain ⟨p', vs, h1, h2, h3, h4⟩ := e.own j ds hg
      rw [hs] at h1; cases h1
      exact ⟨.list ds, q, p, vs, rfl, .inl (.inl h3), h4⟩
    · exact q.elim
theorem res_rds (e : EnvOk K F O H σ env) : ∀ {vs : List V} {rs : List AV} {k : List PyData → Prop}, ResAll K O H0 H σ vs rs → rdsK env rs k → ∃ xs, k xs ∧ vs.length = xs.length ∧ ∀ (i : Nat) (v : V) (x : PyData), vs[i]? = some v → xs[i]? = some x → RdD K O H v x
  | [], [], k, _, q => ⟨[], q, rfl, fun i v x h => by simp at h⟩
  | v :: vs, r :: rs, k, h, q => by
    obtain ⟨x, q, hx⟩ := res_rd e h.1 q
    obtain ⟨xs, q, hl, hxs⟩ := res_rds e h.2 q
    refine ⟨x :: xs, q, by simp [hl], fun i w y h1 h2 => ?_⟩
    cases i with
    | zero => simp at h1 h2; subst h1; subst h2; exact hx
    | succ i => exact hxs i w y (by simpa using h1) (by simpa using h2)
/-- a new list, a new tuple -/
theorem res_new {vs : List V} {ds : List PyData} {p : Addr} (e : EnvOk K F O H σ env) (hp : H p = none) (c : Chg O H0 H) (h : DpAll K (Wo H O) vs ds) : Res K O H0 (upd H p (.lst vs)) σ (.ref p) (.o ds) := by
  have no := e.notO hp
  refine ⟨p, vs, rfl, ?_, no, upd_same, dps_mono (wo_new hp) h⟩
  cases q : H0 p with
  | none => rfl
  | some o => rw [c _ _ q no] at hp; cases hp
theorem av_new {p : Addr} {o : HO} (e : EnvOk K F O H σ env) (hp : H p = none) : Av K O p (upd H p o) σ env := by
  refine ⟨fun j x h => ?_, fun j xs h => ?_⟩
  · obtain ⟨v, h1, h2⟩ := e.dat j x h
    exact ⟨v, h1, dp_mono (wo_new hp) h2⟩
  · obtain ⟨a, us, h1, h2, h3, h4⟩ := e.own j xs h
    exact ⟨a, us, h1, h2, by rw [upd_ne (ne_of_none h3 hp)]; exact h3, dps_mono (wo_new hp) h4⟩
theorem avR_new {p : Addr} {vs : List V} {ds : List PyData} (e : EnvOk K F O H σ env) (hp : H p = none) : AvR K O (upd H p (.lst vs)) σ env (.ref p) (.o ds) := fun q z => by
  cases z
  exact av_new e hp
theorem dp_tup {vs : List V} {ds : List PyData} {p : Addr} (no : p ∉ O) (hp : H p = none) (h : DpAll K (Wo H O) vs ds) : Dp K (Wo (upd H p (.tup vs)) O) (.ref p) (.tuple ds) :=
  .tup (.inl (.inl (by rw [wo_out no, upd_same]))) (dps_mono (chg_new hp).wo h)
theorem same_new {p : Addr} {o : HO} (h : H p = none) : Same H (upd H p o) := fun a u e => by rw [upd_ne (ne_of_none e h)]; exact e
theorem RdD.int {i : Int} (h : RdD K O H v (.int i)) : v = .int i := by
  cases (show Dp K H v (.int i) from h); rfl
theorem RdD.bool {i : Bool} (h : RdD K O H v (.bool i)) : v = .bl i := by
  cases (show Dp K H v (.bool i) from h); rfl
theorem RdD.none (h : RdD K O H v .none) : v = .non := by
  cases (show Dp K H v .none from h); rfl
theorem RdD.str {i : Str} (h : RdD K O H v (.str i)) : v = .str i := by
  cases (show Dp K H v (.str i) from h); rfl
end
end PF

set_option maxRecDepth 100000
set_option maxHeartbeats 4000000
namespace PF
open PySem PySem.Spec PyProof.Rows L2
abbrev X0 : XQ := fun _ _ => False
/-! ### readings by wishes -/
def TEof (K : PySem.W.Frag) (e : E) : TE := fun σ H Q => ∃ (F : Fi) (O : List Addr) (env : AEnv), EnvOk K F O H σ env ∧ wE e env (fun r env' => ∀ v H', EnvOk K F O H' σ env' → Chg O H H' → Res K O H H' σ v r → AvR K O H' σ env' v r → Q v H') X0
def TTof (K : PySem.W.Frag) (e : E) : TT := fun σ H Q => ∃ (F : Fi) (O : List Addr) (env : AEnv), EnvOk K F O H σ env ∧ wE e env (fun r env' => truthK env' r fun b => ∀ H', EnvOk K F O H' σ env' → Chg O H H' → Q b H') X0
def TAof (K : PySem.W.Frag) (es : Es) : TA := fun σ H Q => ∃ (F : Fi) (O : List Addr) (env : AEnv), EnvOk K F O H σ env ∧ wEs es env (fun rs env' => ∀ vs H', EnvOk K F O H' σ env' → Chg O H H' → ResAll K O H H' σ vs rs → Q vs H') X0
section
variable {X : Cx} {e : Expr} {K : PySem.W.Frag} {F : Fi}
theorem pe_weak {t t' : TE} (h : PE X e t) (hw : ∀ σ H Q, t' σ H Q → t σ H Q) : PE X e t' := ⟨fun pins s σ H Q I q => h.run pins s σ H Q I (hw σ H Q q)⟩
theorem pt_weak {t t' : TT} (h : PT X e t) (hw : ∀ σ H Q, t' σ H Q → t σ H Q) : PT X e t' := ⟨fun pins s σ H Q I q => h.run pins s σ H Q I (hw σ H Q q)⟩
theorem pw_weak {t t' : TT} (h : PW X e t) (hw : ∀ σ H Q, t' σ H Q → t σ H Q) : PW X e t' := ⟨fun wh pins s σ H Q I q => h.run wh pins s σ H Q I (hw σ H Q q)⟩
theorem pa_weak {es : List Expr} {t t' : TA} (h : PA X es t) (hw : ∀ σ H Q, t' σ H Q → t σ H Q) : PA X es t' := ⟨fun pos pins s σ H Q I q => h.run pos pins s σ H Q I (hw σ H Q q)⟩
theorem ps_weak {st : Stmt} {t t' : TS} (h : PS X st t) (hw : ∀ D σ H, t' D σ H → t D σ H) : PS X st t' := ⟨fun pins s σ H D I q => h.run pins s σ H D I (hw D σ H q)⟩
theorem pss_weak {st : List Stmt} {t t' : TS} (h : PSs X st t) (hw : ∀ D σ H, t' D σ H → t D σ H) : PSs X st t' := ⟨fun pins s σ H D I q => h.run pins s σ H D I (hw D σ H q)⟩
/-- one part evaluated, then the rest -/
theorem te_then {a : E} {σ : L2.St} {H : Hp} {O : List Addr} {env : AEnv} {q : AV → AEnv → Prop} {Q : VK} (eo : EnvOk K F O H σ env) (hw : wE a env q X0)
    (k : ∀ r env1 v H1, q r env1 → EnvOk K F O H1 σ env1 → Chg O H H1 → Res K O H H1 σ v r → AvR K O H1 σ env1 v r → Q v H1) : TEof K a σ H Q :=
  ⟨F, O, env, eo, wE_mono a (fun r env1 h v H1 e1 c1 r1 a1 => k r env1 v H1 h e1 c1 r1 a1) hw⟩
theorem ta_then {es : Es} {σ : L2.St} {H : Hp} {O : List Addr} {env : AEnv} {q : List AV → AEnv → Prop} {Q : List V → Hp → Prop} (eo : EnvOk K F O H σ env) (hw : wEs es env q X0)
    (k : ∀ rs env1 vs H1, q rs env1 → EnvOk K F O H1 σ env1 → Chg O H H1 → ResAll K O H H1 σ vs rs → Q vs H1) : TAof K es σ H Q :=
  ⟨F, O, env, eo, wEs_mono es (fun r env1 h v H1 e1 c1 r1 => k r env1 v H1 h e1 c1 r1) hw⟩
theorem tt_then {a : E} {σ : L2.St} {H : Hp} {O : List Addr} {env : AEnv} {q : Bool → AEnv → Prop} {Q : Bool → Hp → Prop} (eo : EnvOk K F O H σ env) (hw : wE a env (fun r env' => truthK env' r fun b => q b env') X0)
    (k : ∀ b env1 H1, q b env1 → EnvOk K F O H1 σ env1 → Chg O H H1 → Q b H1) : TTof K a σ H Q :=
  ⟨F, O, env, eo, wE_mono a (fun r env1 h => truthK_mono (fun b h H1 e1 c1 => k b env1 H1 h e1 c1) h) hw⟩
end

section
variable {X : Cx} {F : Fi} {a b c : Expr} {pos : Pos}
/-! ### names, constants -/
theorem te_var {i : Nat} {x : Str} (hN : X.N[i]? = some x) (hv : Vis X.env.scope x) (hd : (x == ("__debug__" : Str)) = false) (hcd : (x == ("__classdict__" : Str)) = false) : PE X (.Name x pos) (TEof X.K (.var i)) :=
  pe_weak (pe_var hN hv hd hcd) fun σ H Q ⟨F, O, env, eo, hw⟩ => by
    unfold wE at hw
    split at hw
    · rename_i y hg
      obtain ⟨v, h1, h2⟩ := eo.dat i y hg
      exact ⟨v, h1, hw v H eo .refl h2 trivial⟩
    · rename_i ds hg
      obtain ⟨p, vs, h1, h2, h3, h4⟩ := eo.own i ds hg
      exact ⟨_, h1, hw _ H eo .refl ⟨p, rfl, h1⟩ trivial⟩
    · exact hw.elim
theorem te_int {i : Int} {j : Nat} : PE X (.Constant (.int i) j pos) (TEof X.K (.int i)) := pe_weak pe_int fun σ H Q ⟨F, O, env, eo, hw⟩ => hw _ H eo .refl (.int i) trivial
theorem te_bool {i : Bool} {j : Nat} : PE X (.Constant (.bool i) j pos) (TEof X.K (.bool i)) := pe_weak pe_bl fun σ H Q ⟨F, O, env, eo, hw⟩ => hw _ H eo .refl (.bl i) trivial
theorem te_none {j : Nat} : PE X (.Constant .none j pos) (TEof X.K .none) := pe_weak pe_non fun σ H Q ⟨F, O, env, eo, hw⟩ => hw _ H eo .refl .non trivial
theorem te_str {i : Str} {j : Nat} : PE X (.Constant (.str i) j pos) (TEof X.K (.str i)) := pe_weak pe_str fun σ H Q ⟨F, O, env, eo, hw⟩ => hw _ H eo .refl (.str i) trivial
/-- a module's constant -/
def GlobOk (K : PySem.W.Frag) (mg : Str → Option Value) (x : Str) (d : PyData) : Prop := ∃ v u, mg x = some u ∧ RelV v u ∧ ∀ H, Dp K H v d
theorem te_glob {x : Str} {d : PyData} (g : GlobOk X.K X.mg x d) (hg : Gl X x) (hd : (x == ("__debug__" : Str)) = false) : PE X (.Name x pos) (TEof X.K (.glob x d)) := by
  obtain ⟨v, u, h1, h2, h3⟩ := g
  exact pe_weak (pe_glob hg h1 h2 hd) fun σ H Q ⟨F, O, env, eo, hw⟩ => hw _ H eo .refl (h3 _) trivial

/-! ### two-place operators -/
theorem op_fdivA : OpR X (binaryOp .FloorDiv) (rI (fun _ j => divOk j) fun i j => .int (i.fdiv j)) := opI fun _ _ _ _ _ _ _ hc q => floordiv_int hc.1 q (.inl (PyProof.noPylong_of_log2 hc.2))
theorem op_powA : OpR X (binaryOp .Pow) (rI powOk fun i j => .int (i ^ j.toNat)) := opI fun _ _ _ _ _ _ _ hc q => pow_int hc.1 hc.2 q
/-- list + list, whatever lists they are -/
def rCatA (K : PySem.W.Frag) : R2 := fun x y H Q => ∃ l b xs zs, x = .ref l ∧ y = .ref b ∧ SqL K H l xs ∧ SqL K H b zs ∧ xs.length + zs.length ≤ sizeLine ∧ ∀ p, H p = none → Q (.ref p) (upd H p (.lst (xs ++ zs)))
theorem op_catA : OpR X (binaryOp .Add) (rCatA X.K) := by
  intro pins s σ H x y v u Q I rx ry h
  obtain ⟨l, b, xs, zs, rfl, rfl, hH, hB, hz, q⟩ := h
  cases rx
  cases ry
  obtain ⟨its, r, ⟨⟨cls, dd, data, sl⟩, n, e, hc, hd, hs⟩, _⟩ := I.list hH
  obtain ⟨its2, r2, ⟨⟨cls2, dd2, data2, sl2⟩, n2, e2, hc2, hd2, hs2⟩, _⟩ := I.list hB
  simp only at hc hd hs hc2 hd2 hs2
  subst hc hd hs hc2 hd2 hs2
  have hl := r.length
  have hl2 := r2.length
  refine concat_meets ⟨_, e, rfl⟩ ⟨_, e2, rfl⟩ noFill_list_add seq_list_add PySem.F.slot_list_add PySem.F.entry_list_add (PySem.F.args_list_add_2 _ _) (list_addW l b its.toArray its2.toArray n n2 none none sl sl2 (by rw [List.size_toArray, List.size_toArray]; omega)) ⟨e, e2, ?_⟩
  have ea : its.toArray ++ its2.toArray = (its ++ its2).toArray := by simp
  rw [ea]
  exact ⟨.ref _, _, I.lnew (t' := s.toks) (r.append r2) (by rw [List.length_append]; omega), rfl, q _ I.fresh⟩
def opOf : BOp → Operator
  | .add => .Add | .sub => .Sub | .mul => .Mult | .fdiv => .FloorDiv | .mod => .Mod | .pow => .Pow | .shl => .LShift | .band => .BitAnd
/-- the wish of an operator by values -/
def rBin (K : PySem.W.Frag) : BOp → R2
  | .add => fun x y H Q => rI0 (fun i j => .int (i + j)) x y H Q ∨ rCatA K x y H Q
  | .sub => rI0 fun i j => .int (i - j)
  | .mul => rI CMulW (fun i j => .int (i * j))
  | .fdiv => rI (fun _ j => divOk j) fun i j => .int (i.fdiv j)
  | .mod => rI (fun _ j => j ≠ 0) fun i j => .int (i.fmod j)
  | .pow => rI powOk fun i j => .int (i ^ j.toNat)
  | _ => fun _ _ _ _ => False
theorem op_bin (op : BOp) : OpR X (binaryOp (opOf op)) (rBin X.K op) := by
  cases op with
  | add => exact op_add.or op_catA
  | sub => exact op_sub
  | mul => exact op_mulW
  | fdiv => exact op_fdivA
  | mod => exact op_modN
  | pow => exact op_powA
  | shl => exact fun _ _ _ _ _ _ _ _ _ _ _ _ h => h.elim
  | band => exact fun _ _ _ _ _ _ _ _ _ _ _ _ h => h.elim
variable {ea eb ec : E}
theorem bin_rd {K : PySem.W.Frag} {O : List Addr} {H0 H : Hp} {σ : L2.St} {env : AEnv} {op : BOp} {x y : V} {dx dy : PyData} {Q' : AV → Prop} {Q : VK} (eo : EnvOk K F O H σ env) (hc : Chg O H0 H) (hx : RdD K O H x dx) (hy : RdD K O H y dy) (hq : binK op dx dy Q')
    (k : ∀ r v H', Q' r → EnvOk K F O H' σ env → Chg O H0 H' → Res K O H0 H' σ v r → AvR K O H' σ env v r → Q v H') : rBin K op x y H Q := by
  unfold binK at hq
  split at hq
  · cases hx.int; cases hy.int; exact .inl ⟨_, _, rfl, rfl, k _ _ _ hq eo hc (.int _) trivial⟩
  · cases hx.int; cases hy.int; exact ⟨_, _, rfl, rfl, k _ _ _ hq eo hc (.int _) trivial⟩
  · cases hx.int; cases hy.int; exact ⟨_, _, rfl, rfl, hq.1, k _ _ _ hq.2 eo hc (.int _) trivial⟩
  · cases hx.int; cases hy.int; exact ⟨_, _, rfl, rfl, hq.1, k _ _ _ hq.2 eo hc (.int _) trivial⟩
  · cases hx.int; cases hy.int; exact ⟨_, _, rfl, rfl, hq.1, k _ _ _ hq.2 eo hc (.int _) trivial⟩
  · cases hx.int; cases hy.int; exact ⟨_, _, rfl, rfl, hq.1, k _ _ _ hq.2 eo hc (.int _) trivial⟩
  · obtain ⟨p, vs, rfl, s1, d1⟩ := hx
    obtain ⟨p2, vs2, rfl, s2, d2⟩ := hy
    refine .inr ⟨p, p2, vs, vs2, rfl, rfl, s1, s2, by rw [dps_len d1, dps_len d2]; exact hq.1, fun z hz => ?_⟩
    exact k _ _ _ hq.2 (eo.grow (same_new hz)) (hc.trans (chg_new hz)) (res_new eo hz hc (dps_append d1 d2)) (avR_new eo hz)
  · exact hq.elim
theorem te_bin (op : BOp) (ha : PE X a (TEof X.K ea)) (hb : PE X b (TEof X.K eb)) : PE X (.BinOp a (opOf op) b pos) (TEof X.K (.bin op ea eb)) :=
  pe_weak (pe_op (op_bin op) ha hb) fun σ H Q ⟨F, O, env, eo, hw⟩ => te_then eo hw fun r1 env1 v1 H1 q1 e1 c1 s1 a1 => te_then e1 q1 fun r2 env2 v2 H2 q2 e2 c2 s2 a2 => by
    obtain ⟨dx, q2, hx⟩ := res_rd e2 (s1.chg c2) q2
    obtain ⟨dy, q2, hy⟩ := res_rd e2 s2 q2
    exact bin_rd e2 (c1.trans c2) hx hy q2 fun r v H' q e c s a => q v H' e c s a
theorem te_neg (ha : PE X a (TEof X.K ea)) : PE X (.UnaryOp .USub a pos) (TEof X.K (.neg ea)) :=
  pe_weak (pe_un un_neg ha) fun σ H Q ⟨F, O, env, eo, hw⟩ => te_then eo hw fun r1 env1 v1 H1 q1 e1 c1 s1 a1 => by
    split at q1
    · cases (show Dp X.K _ v1 (.int _) from s1)
      exact ⟨_, rfl, q1 _ _ e1 c1 (.int _) trivial⟩
    · exact q1.elim
theorem te_rep (ha : PE X a (TEof X.K ea)) (hb : PE X b (TEof X.K eb)) : PE X (.BinOp a .Mult b pos) (TEof X.K (.rep ea eb)) :=
  pe_weak (pe_op op_rep ha hb) fun σ H Q ⟨F, O, env, eo, hw⟩ => te_then eo hw fun r1 env1 v1 H1 q1 e1 c1 s1 a1 => te_then e1 q1 fun r2 env2 v2 H2 q2 e2 c2 s2 a2 => by
    split at q2
    · cases (show Dp X.K _ v2 (.int _) from s2)
      have s1' := s1.chg c2
      obtain ⟨p, vs, rfl, n, no, hp, hd⟩ := s1'
      obtain ⟨⟨b1, b2, b3⟩, q2⟩ := q2
      refine ⟨p, _, vs, rfl, rfl, hp, b1, b2, by rw [dps_len hd]; exact b3, fun z hz => ?_⟩
      exact q2 _ _ (e2.grow (same_new hz)) ((c1.trans c2).trans (chg_new hz)) (res_new e2 hz (c1.trans c2) (dps_mono wo_cons (dps_flat hd _))) (avR_new e2 hz)
    · exact q2.elim

/-! ### comparisons -/
def isNoneD : PyData → Bool
  | .none => true
  | _ => false
theorem is_none_of {K : PySem.W.Frag} {H : Hp} {v : V} {x : PyData} (h : Dp K H v x) : decide (v = .non) = isNoneD x := by
  cases h <;> rfl
theorem isNoneD_no {x : PyData} (h : x = .none → False) : isNoneD x = false := by
  cases x <;> first | rfl | exact (h rfl).elim
def copOf : COp → CmpOp
  | .eq => .Eq | .ne => .NotEq | .lt => .Lt | .le => .LtE | .gt => .Gt | .ge => .GtE | .isin => .In | .notin => .NotIn | .is => .Is | .isnot => .IsNot
def rCmp (K : PySem.W.Frag) : COp → R2
  | .eq => rEqD K
  | .ne => rNeD K
  | .lt => rI0 fun i j => .bl (decide (i < j))
  | .le => rI0 fun i j => .bl (decide (i ≤ j))
  | .gt => rI0 fun i j => .bl (decide (j < i))
  | .ge => rI0 fun i j => .bl (decide (j ≤ i))
  | .isin => rInD K
  | .notin => rNotInD K
  | .is => fun x y H Q => (y = .non ∧ Q (.bl (decide (x = .non))) H) ∨ rIsB x y H Q
  | .isnot => fun x y H Q => (y = .non ∧ Q (.bl (!decide (x = .non))) H) ∨ rNotB x y H Q
theorem op_cmp (op : COp) (hu : X.A.units + 65 < cLine) : OpR X (compareOp (copOf op)) (rCmp X.K op) := by
  cases op with
  | eq => exact op_eqD (by omega)
  | ne => exact op_neD (by omega)
  | lt => exact op_lt
  | le => exact op_le
  | gt => exact op_gt
  | ge => exact op_ge
  | isin => exact op_inD hu
  | notin => exact op_notInD hu
  | is => exact op_isN.or op_isBl
  | isnot => exact op_notN.or op_notBl
theorem cmp_rd {K : PySem.W.Frag} {O : List Addr} {H : Hp} {op : COp} {x y : V} {dx dy : PyData} {Q' : Bool → Prop} {Q : VK} (hx : RdD K O H x dx) (hy : RdD K O H y dy) (hq : cmpK op dx dy Q') (k : ∀ r, Q' r → Q (.bl r) H) : rCmp K op x y H Q := by
  unfold cmpK at hq
  split at hq
  · exact ⟨dx, dy, hx.dp, hy.dp, hq.1, hq.2.1, k _ hq.2.2⟩
  · exact ⟨dx, dy, hx.dp, hy.dp, hq.1, hq.2.1, k _ hq.2.2⟩
  · split at hq
    · cases hx.int; cases hy.int; exact ⟨_, _, rfl, rfl, k _ hq⟩
    · exact hq.elim
  · split at hq
    · cases hx.int; cases hy.int; exact ⟨_, _, rfl, rfl, k _ hq⟩
    · exact hq.elim
  · split at hq
    · cases hx.int; cases hy.int; exact ⟨_, _, rfl, rfl, k _ hq⟩
    · exact hq.elim
  · split at hq
    · cases hx.int; cases hy.int; exact ⟨_, _, rfl, rfl, k _ hq⟩
    · exact hq.elim
  · split at hq
    · exact ⟨dx, _, hx.dp, hy.dp, hq.1, hq.2.1, k _ hq.2.2⟩
    · exact hq.elim
  · split at hq
    · exact ⟨dx, _, hx.dp, hy.dp, hq.1, hq.2.1, k _ hq.2.2⟩
    · exact hq.elim
  · have ex := is_none_of hx.dp
    split at hq
    · cases hy.none; exact .inl ⟨rfl, by rw [ex]; exact k _ hq⟩
    · rename_i hne
      cases hy.none
      refine .inl ⟨rfl, ?_⟩
      rw [ex]
      rw [isNoneD_no hne]
      exact k _ hq
    · cases hx.bool; cases hy.bool; exact .inr ⟨_, _, rfl, rfl, k _ hq⟩
    · exact hq.elim
  · have ex := is_none_of hx.dp
    split at hq
    · cases hy.none; exact .inl ⟨rfl, by rw [ex]; exact k _ hq⟩
    · rename_i hne
      cases hy.none
      refine .inl ⟨rfl, ?_⟩
      rw [ex]
      rw [isNoneD_no hne]
      exact k _ hq
    · cases hx.bool; cases hy.bool; exact .inr ⟨_, _, rfl, rfl, k _ hq⟩
    · exact hq.elim
theorem tcmp {op : COp} {σ : L2.St} {H : Hp} {Q : VK} (h : TEof X.K (.cmp op ea eb) σ H Q) : tOp (rCmp X.K op) (TEof X.K ea) (TEof X.K eb) σ H Q := by
  obtain ⟨F, O, env, eo, hw⟩ := h
  refine te_then eo hw fun r1 env1 v1 H1 q1 e1 c1 s1 a1 => te_then e1 q1 fun r2 env2 v2 H2 q2 e2 c2 s2 a2 => ?_
  obtain ⟨dx, q2, hx⟩ := res_rd e2 (s1.chg c2) q2
  obtain ⟨dy, q2, hy⟩ := res_rd e2 s2 q2
  exact cmp_rd hx hy q2 fun r q => q _ _ e2 (c1.trans c2) (.bl _) trivial
theorem te_cmp (op : COp) (hu : X.A.units + 65 < cLine) (ha : PE X a (TEof X.K ea)) (hb : PE X b (TEof X.K eb)) (hm : behindInMarks (copOf op) b = false) : PE X (.Compare a [copOf op] [b] pos) (TEof X.K (.cmp op ea eb)) :=
  pe_weak (pe_cmpR (op_cmp op hu) ha hb hm) fun σ H Q h => tcmp h
theorem tt_te {e : E} {σ : L2.St} {H : Hp} {Q : Bool → Hp → Prop} {op : COp} (h : TTof X.K (.cmp op ea eb) σ H Q) : TEof X.K (.cmp op ea eb) σ H fun x H' => ∃ k, x = .bl k ∧ Q k H' := by
  obtain ⟨F, O, env, eo, hw⟩ := h
  refine ⟨F, O, env, eo, ?_⟩
  unfold wE at hw ⊢
  refine wE_mono ea (fun r1 env1 q => wE_mono eb (fun r2 env2 q => rdK_mono (fun dx q => rdK_mono (fun dy q => cmpK_mono (fun b q v H' e c s _ => ?_) q) q) q) q) hw
  cases (show Dp X.K _ v (.bool _) from s)
  exact ⟨_, rfl, q _ e c⟩
theorem tt_cmp (op : COp) (hu : X.A.units + 65 < cLine) (ha : PE X a (TEof X.K ea)) (hb : PE X b (TEof X.K eb)) (hm : behindInMarks (copOf op) b = false) : PT X (.Compare a [copOf op] [b] pos) (TTof X.K (.cmp op ea eb)) :=
  pt_weak (pt_cmpR (op_cmp op hu) ha hb hm) fun σ H Q h => tcmp (tt_te (e := .none) h)
theorem tchain {o1 o2 : COp} {σ : L2.St} {H : Hp} {Q : VK} (h : TEof X.K (.chain o1 o2 ea eb ec) σ H Q) : tChain (rCmp X.K o1) (rCmp X.K o2) (TEof X.K ea) (TEof X.K eb) (TEof X.K ec) σ H Q := by
  obtain ⟨F, O, env, eo, hw⟩ := h
  refine te_then eo hw fun r1 env1 v1 H1 q1 e1 c1 s1 a1 => te_then e1 q1 fun r2 env2 v2 H2 q2 e2 c2 s2 a2 => ?_
  obtain ⟨dx, q2, hx⟩ := res_rd e2 (s1.chg c2) q2
  obtain ⟨dy, q2, hy⟩ := res_rd e2 s2 q2
  refine cmp_rd hx hy q2 fun r q => ⟨r, rfl, ?_⟩
  cases r with
  | true =>
    rw [if_pos rfl] at q ⊢
    refine te_then e2 q fun r3 env3 v3 H3 q3 e3 c3 s3 a3 => ?_
    obtain ⟨dy, q3, hy⟩ := res_rd e3 (s2.chg c3) q3
    obtain ⟨dz, q3, hz⟩ := res_rd e3 s3 q3
    exact cmp_rd hy hz q3 fun r q => q _ _ e3 ((c1.trans c2).trans c3) (.bl _) trivial
  | false =>
    rw [if_neg Bool.false_ne_true] at q ⊢
    exact q _ _ e2 (c1.trans c2) (.bl _) trivial
theorem te_chain (o1 o2 : COp) (hu : X.A.units + 65 < cLine) (ha : PE X a (TEof X.K ea)) (hb : PE X b (TEof X.K eb)) (hc : PE X c (TEof X.K ec)) (hm : lastMarks [copOf o1, copOf o2] [b, c] = false) : PE X (.Compare a [copOf o1, copOf o2] [b, c] pos) (TEof X.K (.chain o1 o2 ea eb ec)) :=
  pe_weak (pe_chain (op_cmp o1 hu) (op_cmp o2 hu) ha hb hc hm) fun σ H Q h => tchain h
/-! ### truth, and, or, not, if -/
theorem tru_of {K : PySem.W.Frag} {O : List Addr} {H : Hp} {v : V} {x : PyData} {b : Bool} (h : RdD K O H v x) (e : truth x = some b) : TruV K v H b := by
  cases x with
  | none => cases h.none; cases e; rfl
  | bool c => cases h.bool; cases e; rfl
  | int i => cases h.int; cases e; rfl
  | str s => cases e
  | dict k => cases e
  | list xs =>
    obtain ⟨p, vs, rfl, s1, d1⟩ := h
    have e : some (!xs.isEmpty) = some b := e
    cases e
    refine .inl ⟨vs, s1, ?_⟩
    cases d1 <;> rfl
  | tuple xs =>
    obtain ⟨p, vs, rfl, s1, d1⟩ := h
    have e : some (!xs.isEmpty) = some b := e
    cases e
    refine .inr (.inl ⟨vs, sq_t wo_all s1, ?_⟩)
    cases d1 <;> rfl
theorem res_truth {K : PySem.W.Frag} {O : List Addr} {H0 H : Hp} {σ : L2.St} {env : AEnv} {v : V} {r : AV} {k : Bool → Prop} (e : EnvOk K F O H σ env) (h : Res K O H0 H σ v r) (q : truthK env r k) : ∃ b, k b ∧ TruV K v H b := by
  obtain ⟨x, q, hx⟩ := res_rd e h q
  cases ht : truth x with
  | none => rw [ht] at q; exact q.elim
  | some b => rw [ht] at q; exact ⟨b, q, tru_of hx ht⟩
theorem te_not (ha : PE X a (TEof X.K ea)) : PE X (.UnaryOp .Not a pos) (TEof X.K (.not ea)) :=
  pe_weak (pe_notT ha) fun σ H Q ⟨F, O, env, eo, hw⟩ => te_then eo hw fun r1 env1 v1 H1 q1 e1 c1 s1 a1 => by
    obtain ⟨k, q, hk⟩ := res_truth e1 s1 q1
    exact ⟨k, hk, q _ _ e1 c1 (.bl _) trivial⟩
theorem te_and {rest : List Expr} (ha : PE X a (TEof X.K ea)) (hb : PE X (.BoolOp .And (b :: rest) pos) (TEof X.K eb)) : PE X (.BoolOp .And (a :: b :: rest) pos) (TEof X.K (.and ea eb)) :=
  pe_weak (pe_andT ha hb) fun σ H Q ⟨F, O, env, eo, hw⟩ => te_then eo hw fun r1 env1 v1 H1 q1 e1 c1 s1 a1 => by
    obtain ⟨k, q, hk⟩ := res_truth e1 s1 q1
    refine ⟨k, hk, ite_mono (fun q => ?_) (fun q => ?_) q⟩
    · exact te_then e1 q fun r2 env2 v2 H2 q2 e2 c2 s2 a2 => q2 v2 H2 e2 (c1.trans c2) (s2.back c1) a2
    · exact q v1 H1 e1 c1 s1 a1
theorem te_or {rest : List Expr} (ha : PE X a (TEof X.K ea)) (hb : PE X (.BoolOp .Or (b :: rest) pos) (TEof X.K eb)) : PE X (.BoolOp .Or (a :: b :: rest) pos) (TEof X.K (.or ea eb)) :=
  pe_weak (pe_orT ha hb) fun σ H Q ⟨F, O, env, eo, hw⟩ => te_then eo hw fun r1 env1 v1 H1 q1 e1 c1 s1 a1 => by
    obtain ⟨k, q, hk⟩ := res_truth e1 s1 q1
    refine ⟨k, hk, ite_mono (fun q => ?_) (fun q => ?_) q⟩
    · exact q v1 H1 e1 c1 s1 a1
    · exact te_then e1 q fun r2 env2 v2 H2 q2 e2 c2 s2 a2 => q2 v2 H2 e2 (c1.trans c2) (s2.back c1) a2
theorem te_ife (hc : PT X c (TTof X.K ec)) (ha : PE X a (TEof X.K ea)) (hb : PE X b (TEof X.K eb)) : PE X (.IfExp c a b pos) (TEof X.K (.ife ec ea eb)) :=
  pe_weak (pe_ifExp hc ha hb) fun σ H Q ⟨F, O, env, eo, hw⟩ => tt_then (q := fun t env1 => if t = true then wE ea env1 _ X0 else wE eb env1 _ X0) eo hw fun t env1 H1 q1 e1 c1 =>
    ite_mono (fun q => te_then e1 q fun r2 env2 v2 H2 q2 e2 c2 s2 a2 => q2 v2 H2 e2 (c1.trans c2) (s2.back c1) a2) (fun q => te_then e1 q fun r2 env2 v2 H2 q2 e2 c2 s2 a2 => q2 v2 H2 e2 (c1.trans c2) (s2.back c1) a2) q1
/-- any value as a test -/
theorem tt_any {e : E} (ha : PE X a (TEof X.K e)) (he : ∀ whole, isTrue a X.env whole = (do let v ← whole; standAt a.pos; holding [v] (truthy v))) : PT X a (TTof X.K e) :=
  pt_weak (pt_truth ha he) fun σ H Q ⟨F, O, env, eo, hw⟩ => te_then eo hw fun r1 env1 v1 H1 q1 e1 c1 s1 a1 => by
    obtain ⟨k, q, hk⟩ := res_truth e1 s1 q1
    exact ⟨k, hk, q _ e1 c1⟩
theorem tt_not (ha : PT X a (TTof X.K ea)) : PT X (.UnaryOp .Not a pos) (TTof X.K (.not ea)) :=
  pt_weak (pt_not ha) fun σ H Q ⟨F, O, env, eo, hw⟩ => by
    refine ⟨F, O, env, eo, ?_⟩
    unfold wE at hw
    refine wE_mono ea (fun r1 env1 q => truthK_mono (fun b q H' e c => ?_) q) hw
    exact q H' e c
theorem tw_and {rest : List Expr} (ha : PT X a (TTof X.K ea)) (hb : PW X (.BoolOp .And (b :: rest) pos) (TTof X.K eb)) : PW X (.BoolOp .And (a :: b :: rest) pos) (TTof X.K (.and ea eb)) :=
  pw_weak (pw_and ha hb) fun σ H Q ⟨F, O, env, eo, hw⟩ => by
    refine ⟨F, O, env, eo, ?_⟩
    unfold wE at hw
    refine wE_mono ea (fun r1 env1 q => ?_) hw
    rw [truthK_iff] at q ⊢
    obtain ⟨t, et, q⟩ := q
    refine ⟨t, et, fun H' e c => ?_⟩
    cases t with
    | true =>
      simp only [if_true] at q ⊢
      exact ⟨F, O, env1, e, wE_mono eb (fun r2 env2 q => truthK_mono (fun b q H2 e2 c2 => q H2 e2 (c.trans c2)) q) q⟩
    | false =>
      simp only [Bool.false_eq_true, if_false] at q ⊢
      obtain ⟨t', et', q⟩ := truthK_iff.mp q
      rw [et] at et'; cases et'
      exact q H' e c
theorem tw_or {rest : List Expr} (ha : PT X a (TTof X.K ea)) (hb : PW X (.BoolOp .Or (b :: rest) pos) (TTof X.K eb)) : PW X (.BoolOp .Or (a :: b :: rest) pos) (TTof X.K (.or ea eb)) :=
  pw_weak (pw_or ha hb) fun σ H Q ⟨F, O, env, eo, hw⟩ => by
    refine ⟨F, O, env, eo, ?_⟩
    unfold wE at hw
    refine wE_mono ea (fun r1 env1 q => ?_) hw
    rw [truthK_iff] at q ⊢
    obtain ⟨t, et, q⟩ := q
    refine ⟨t, et, fun H' e c => ?_⟩
    cases t with
    | false =>
      simp only [Bool.false_eq_true, if_false] at q ⊢
      exact ⟨F, O, env1, e, wE_mono eb (fun r2 env2 q => truthK_mono (fun b q H2 e2 c2 => q H2 e2 (c.trans c2)) q) q⟩
    | true =>
      simp only [if_true] at q ⊢
      obtain ⟨t', et', q⟩ := truthK_iff.mp q
      rw [et] at et'; cases et'
      exact q H' e c
theorem tt_chain (o1 o2 : COp) (hu : X.A.units + 65 < cLine) (ha : PE X a (TEof X.K ea)) (hb : PE X b (TEof X.K eb)) (hc : PE X c (TEof X.K ec)) (hm : lastMarks [copOf o1, copOf o2] [b, c] = false) : PT X (.Compare a [copOf o1, copOf o2] [b, c] pos) (TTof X.K (.chain o1 o2 ea eb ec)) :=
  pt_weak (pt_chain (op_cmp o1 hu) (op_cmp o2 hu) ha hb hc hm) fun σ H Q ⟨F, O, env, eo, hw⟩ => tchain (Q := fun x H' => ∃ k, x = .bl k ∧ Q k H') (by
    refine ⟨F, O, env, eo, ?_⟩
    unfold wE at hw ⊢
    refine wE_mono ea (fun r1 env1 q => wE_mono eb (fun r2 env2 q => rdK_mono (fun dx q => rdK_mono (fun dy q => cmpK_mono (fun b q => ite_mono (fun q => ?_) (fun q => ?_) q) q) q) q) q) hw
    · refine wE_mono ec (fun r1 env1 q => rdK_mono (fun dx q => rdK_mono (fun dy q => cmpK_mono (fun b q v H' e c s _ => ?_) q) q) q) q
      cases (show Dp X.K _ v (.bool _) from s)
      exact ⟨_, rfl, q _ e c⟩
    · intro v H' e c s _
      cases (show Dp X.K _ v (.bool _) from s)
      exact ⟨_, rfl, q _ e c⟩)
/-! ### displays, arguments -/
theorem ta_nil : PA X [] (TAof X.K .nil) := pa_weak pa_nil fun σ H Q ⟨F, O, env, eo, hw⟩ => hw [] H eo .refl trivial
theorem ta_cons {es : List Expr} {ees : Es} (ha : PE X a (TEof X.K ea)) (hr : PA X es (TAof X.K ees)) (hs : starEach (a :: es) X.env = (false, eval a X.env) :: starEach es X.env) : PA X (a :: es) (TAof X.K (.cons ea ees)) :=
  pa_weak (pa_cons ha hr hs) fun σ H Q ⟨F, O, env, eo, hw⟩ => te_then eo hw fun r1 env1 v1 H1 q1 e1 c1 s1 a1 => ta_then e1 q1 fun rs env2 vs H2 q2 e2 c2 s2 =>
    q2 (v1 :: vs) H2 e2 (c1.trans c2) ⟨s1.chg c2, s2.back c1⟩
theorem te_tup {es : List Expr} {ees : Es} {k : Nat} (h : PA X es (TAof X.K ees)) (hn : ∀ (σ : L2.St) (H : Hp) (Q : List V → Hp → Prop), TAof X.K ees σ H Q → TAof X.K ees σ H fun vs H' => vs.length ≤ sizeLine ∧ Q vs H') : PE X (.Tuple es k pos) (TEof X.K (.tup ees)) :=
  pe_weak (pe_tup h) fun σ H Q ⟨F, O, env, eo, hw⟩ => hn _ _ _ (ta_then eo hw fun rs env1 vs H1 q1 e1 c1 s1 => by
    obtain ⟨xs, q, hx⟩ := res_datas s1 q1
    intro p hp
    have no := e1.notO hp
    exact q _ _ (e1.grow (same_new hp)) (c1.trans (chg_new hp)) (dp_tup no hp hx) trivial)
theorem te_lst {es : List Expr} {ees : Es} (h : PA X es (TAof X.K ees)) (hn : ∀ (σ : L2.St) (H : Hp) (Q : List V → Hp → Prop), TAof X.K ees σ H Q → TAof X.K ees σ H fun vs H' => vs.length ≤ sizeLine ∧ Q vs H') : PE X (.List es pos) (TEof X.K (.lst ees)) :=
  pe_weak (pe_lst h) fun σ H Q ⟨F, O, env, eo, hw⟩ => hn _ _ _ (ta_then eo hw fun rs env1 vs H1 q1 e1 c1 s1 => by
    obtain ⟨xs, q, hx⟩ := res_datas s1 q1
    intro p hp
    exact q _ _ (e1.grow (same_new hp)) (c1.trans (chg_new hp)) (res_new e1 hp c1 hx) (avR_new e1 hp))
def lenEs : Es → Nat
  | .nil => 0
  | .cons _ es => lenEs es + 1
theorem wEs_len : ∀ {es : Es} {env : AEnv} {Q : List AV → AEnv → Prop} {X : XQ}, wEs es env Q X → wEs es env (fun rs e => rs.length = lenEs es ∧ Q rs e) X
  | .nil, _, _, _, h => ⟨rfl, h⟩
  | .cons e es, _, _, _, h => wE_mono e (fun v e1 q => wEs_mono es (fun vs e2 q => ⟨by rw [List.length_cons, q.1]; rfl, q.2⟩) (wEs_len q)) h
theorem resAll_len {K : PySem.W.Frag} {O : List Addr} {H H' : Hp} {σ : L2.St} : ∀ {vs : List V} {rs : List AV}, ResAll K O H H' σ vs rs → vs.length = rs.length
  | [], [], _ => rfl
  | _ :: _, _ :: _, h => by rw [List.length_cons, List.length_cons, resAll_len h.2]
theorem ta_len {ees : Es} (hl : lenEs ees ≤ sizeLine) (σ : L2.St) (H : Hp) (Q : List V → Hp → Prop) (h : TAof X.K ees σ H Q) : TAof X.K ees σ H fun vs H' => vs.length ≤ sizeLine ∧ Q vs H' := by
  obtain ⟨F, O, env, eo, hw⟩ := h
  refine ⟨F, O, env, eo, wEs_mono ees (fun rs e1 q vs H' e c s => ⟨?_, q.2 vs H' e c s⟩) (wEs_len hw)⟩
  rw [resAll_len s, q.1]
  exact hl
/-! ### subscripts, slices -/
theorem dps_at {K : PySem.W.Frag} {H : Hp} {vs : List V} {ds : List PyData} {i : Int} {d : PyData} (h : DpAll K H vs ds) (e : atI ds i = some d) : ∃ v, atI vs i = some v ∧ Dp K H v d := by
  unfold atI at e ⊢
  rw [dps_len h]
  cases hj : ixN ds.length i with
  | none => rw [hj] at e; cases e
  | some j => rw [hj] at e; exact dps_get h e
theorem te_ix (ha : PE X a (TEof X.K ea)) (hb : PE X b (TEof X.K eb)) (hs : PlainIx b) : PE X (.Subscript a b pos) (TEof X.K (.ix ea eb)) :=
  pe_weak (pe_ix ix_seq ha hb hs) fun σ H Q ⟨F, O, env, eo, hw⟩ => te_then eo hw fun r1 env1 v1 H1 q1 e1 c1 s1 a1 => te_then e1 q1 fun r2 env2 v2 H2 q2 e2 c2 s2 a2 => by
    obtain ⟨dx, q2, hx⟩ := res_rd e2 (s1.chg c2) q2
    obtain ⟨dy, q2, hy⟩ := res_rd e2 s2 q2
    unfold ixK at q2
    split at q2
    · split at q2
      · rename_i hz
        cases hy.int
        obtain ⟨p, vs, rfl, sq, d1⟩ := hx
        obtain ⟨v, hv, hd⟩ := dps_at d1 hz
        exact .inl ⟨p, vs, _, v, rfl, rfl, sq, hv, q2 _ _ e2 (c1.trans c2) hd trivial⟩
      · exact q2.elim
    · split at q2
      · rename_i hz
        cases hy.int
        obtain ⟨p, vs, rfl, sq, d1⟩ := hx
        obtain ⟨v, hv, hd⟩ := dps_at d1 hz
        exact .inr (.inl ⟨p, vs, _, v, rfl, rfl, sq_t wo_all sq, hv, q2 _ _ e2 (c1.trans c2) hd trivial⟩)
      · exact q2.elim
    · exact q2.elim
theorem sl_rd {K : PySem.W.Frag} {O : List Addr} {H0 H : Hp} {σ : L2.St} {env : AEnv} {x : V} {dx : PyData} {lo hi : Option Int} {Q' : AV → Prop} {Q : VK} (eo : EnvOk K F O H σ env) (hc : Chg O H0 H) (hx : RdD K O H x dx) (hq : slK dx lo hi Q')
    (k : ∀ r v H', Q' r → EnvOk K F O H' σ env → Chg O H0 H' → Res K O H0 H' σ v r → AvR K O H' σ env v r → Q v H') : rSlL K x lo hi H Q := by
  unfold slK at hq
  split at hq
  · obtain ⟨p, vs, rfl, sq, d1⟩ := hx
    refine ⟨p, vs, rfl, sq, fun z hz => ?_⟩
    refine k _ _ _ hq (eo.grow (same_new hz)) (hc.trans (chg_new hz)) (res_new eo hz hc ?_) (avR_new eo hz)
    unfold cutV cutD
    rw [dps_len d1]
    exact dps_take _ (dps_drop _ d1)
  · exact hq.elim
theorem te_slL {p2 : Pos} (ha : PE X a (TEof X.K ea)) (hb : PE X b (TEof X.K eb)) : PE X (.Subscript a (.Slice (some b) none none p2) pos) (TEof X.K (.slL ea eb)) :=
  pe_weak (pe_slice sl_list ha (po_some hb) po_none) fun σ H Q ⟨F, O, env, eo, hw⟩ => te_then eo hw fun r1 env1 v1 H1 q1 e1 c1 s1 a1 => te_then e1 q1 fun r2 env2 v2 H2 q2 e2 c2 s2 a2 => by
    split at q2
    · cases (show Dp X.K _ v2 (.int _) from s2)
      obtain ⟨dx, q2, hx⟩ := res_rd e2 (s1.chg c2) q2
      exact ⟨_, rfl, sl_rd e2 (c1.trans c2) hx q2 fun r v H' q e c s a => q v H' e c s a⟩
    · exact q2.elim
theorem te_slU {p2 : Pos} (ha : PE X a (TEof X.K ea)) (hb : PE X b (TEof X.K eb)) : PE X (.Subscript a (.Slice none (some b) none p2) pos) (TEof X.K (.slU ea eb)) :=
  pe_weak (pe_slice sl_list ha po_none (po_some hb)) fun σ H Q ⟨F, O, env, eo, hw⟩ => te_then eo hw fun r1 env1 v1 H1 q1 e1 c1 s1 a1 => te_then e1 q1 fun r2 env2 v2 H2 q2 e2 c2 s2 a2 => by
    split at q2
    · cases (show Dp X.K _ v2 (.int _) from s2)
      obtain ⟨dx, q2, hx⟩ := res_rd e2 (s1.chg c2) q2
      exact ⟨_, rfl, sl_rd e2 (c1.trans c2) hx q2 fun r v H' q e c s a => q v H' e c s a⟩
    · exact q2.elim
theorem te_slLU {p2 : Pos} (ha : PE X a (TEof X.K ea)) (hb : PE X b (TEof X.K eb)) (hc : PE X c (TEof X.K ec)) : PE X (.Subscript a (.Slice (some b) (some c) none p2) pos) (TEof X.K (.slLU ea eb ec)) :=
  pe_weak (pe_slice sl_list ha (po_some hb) (po_some hc)) fun σ H Q ⟨F, O, env, eo, hw⟩ => te_then eo hw fun r1 env1 v1 H1 q1 e1 c1 s1 a1 => te_then e1 q1 fun r2 env2 v2 H2 q2 e2 c2 s2 a2 => by
    split at q2
    · cases (show Dp X.K _ v2 (.int _) from s2)
      refine ⟨_, rfl, te_then e2 q2 fun r3 env3 v3 H3 q3 e3 c3 s3 a3 => ?_⟩
      split at q3
      · cases (show Dp X.K _ v3 (.int _) from s3)
        obtain ⟨dx, q3, hx⟩ := res_rd e3 ((s1.chg c2).chg c3) q3
        exact ⟨_, rfl, sl_rd e3 ((c1.trans c2).trans c3) hx q3 fun r v H' q e c s a => q v H' e c s a⟩
      · exact q3.elim
    · exact q2.elim
theorem te_slRev {k : Nat} {p1 p2 p3 : Pos} (ha : PE X a (TEof X.K ea)) : PE X (.Subscript a (.Slice none none (some (.UnaryOp .USub (.Constant (.int 1) k p1) p2)) p3) pos) (TEof X.K (.slRev ea)) :=
  pe_weak (pe_revL ha) fun σ H Q ⟨F, O, env, eo, hw⟩ => te_then eo hw fun r1 env1 v1 H1 q1 e1 c1 s1 a1 => by
    obtain ⟨dx, q, hx⟩ := res_rd e1 s1 q1
    split at q
    · obtain ⟨p, vs, rfl, sq, d1⟩ := hx
      refine ⟨p, vs, rfl, sq, fun z hz => ?_⟩
      exact q _ _ (e1.grow (same_new hz)) (c1.trans (chg_new hz)) (res_new e1 hz c1 (dps_rev d1)) (avR_new e1 hz)
    · exact q.elim
end
end PF

set_option maxRecDepth 100000
set_option maxHeartbeats 4000000
namespace PF
open PySem PySem.Spec PyProof.Rows L2
/-! ### a def by its promise, where nothing is being shown -/
structure FnG (P : Program) (w : World) (K : PySem.W.Frag) (mg : Str → Option Value) (base : Heap) (k : Nat) (f : Addr) (fd : FuncData) (ps : List Str) (sp : Sp) : Prop where
  len : ∀ vs H Q E, sp vs H Q E → vs.length = ps.length
  run : ∀ (A : Around) (outer : List Env) (s : Shared) (H : Hp) (args : Args) (us : List Value) (vs : List V) (Q : VK), Room k A → A.guards = some [] → Env0 P w K mg base A outer s H → BindsTo s fd args (ps.zip us) →
    Vals vs us → sp vs H Q E0 → codeAny (model P w) A (.call (.ref f) args) (CR CX0 outer P w H s Q E0) s
theorem FnG.mono {P : Program} {w : World} {K : PySem.W.Frag} {mg : Str → Option Value} {base : Heap} {j k : Nat} {f : Addr} {fd : FuncData} {ps : List Str} {sp : Sp} (F : FnG P w K mg base j f fd ps sp) (h : j ≤ k) : FnG P w K mg base k f fd ps sp :=
  ⟨F.len, fun A outer s H args us vs Q hr => F.run A outer s H args us vs Q (hr.mono h)⟩
section
variable {X : Cx} {pins : List (Addr × Obj)} {σ : L2.St} {H : Hp} {s : Shared} {k : Nat} {f : Addr} {fd : FuncData} {ps : List Str} {sp : Sp}
theorem run_g {args : Args} {us : List Value} {vs : List V} {Q : VK} (G : FnG X.prog X.w X.K X.mg X.base k f fd ps sp) (hr : Room k X.A) (hg : X.A.guards = some []) (I : Inv X pins σ H s) (hb : BindsTo s fd args (ps.zip us)) (hv : Vals vs us) (h : sp vs H Q E0) :
    codeAny (model X.prog X.w) X.A (.call (.ref f) args) (wants (EP X pins σ Q) X.xe) s := by
  refine codeAny_mono (G.run X.A X.stack s H args us vs Q hr hg I.env0 hb hv h) ?_
  intro r s' hq
  match r, hq with
  | .ok (.ret u), hq => exact I.after hq
end

/-! ### arguments as a def gets them -/
def lentA : List V → List AV → List Addr
  | .ref p :: vs, .o _ :: as => p :: lentA vs as
  | _ :: vs, _ :: as => lentA vs as
  | _, _ => []
structure ArgsOk (K : PySem.W.Frag) (O : List Addr) (H : Hp) (vs : List V) (as : List AV) : Prop where
  len : vs.length = as.length
  dat : ∀ (i : Nat) x, as[i]? = some (.d x) → ∃ v, vs[i]? = some v ∧ Dp K (Wo H O) v x
  own : ∀ (i : Nat) ds, as[i]? = some (.o ds) → ∃ p us, vs[i]? = some (.ref p) ∧ p ∈ O ∧ H p = some (.lst us) ∧ DpAll K (Wo H O) us ds
  nob : ∀ (i : Nat) j, as[i]? ≠ some (.b j)
  one : ∀ (i j : Nat) ds ds', as[i]? = some (.o ds) → as[j]? = some (.o ds') → i = j
  live : ∀ p ∈ O, H p ≠ none
/-- lists stay lists -/
def Shape (as as' : List AV) : Prop := as'.length = as.length ∧ ∀ (i : Nat) ds, as[i]? = some (.o ds) → ∃ ds', as'[i]? = some (.o ds')
def RetOk (K : PySem.W.Frag) (O : List Addr) (H H' : Hp) (v : V) : AV → Prop
  | .d x => Dp K (Wo H' O) v x
  | .o ds => ∃ p vs, v = .ref p ∧ H p = none ∧ p ∉ O ∧ H' p = some (.lst vs) ∧ DpAll K (Wo H' (p :: O)) vs ds
  | .b _ => False
/-- what was lent does not hang on the new list -/
def AvA (K : PySem.W.Frag) (O : List Addr) (H : Hp) (vs : List V) (as : List AV) (v : V) : AV → Prop
  | .o _ => ∀ p, v = .ref p → ∀ (i : Nat) ds, as[i]? = some (.o ds) → ∃ a us, vs[i]? = some (.ref a) ∧ H a = some (.lst us) ∧ DpAll K (Wo H (p :: O)) us ds
  | _ => True
def liftSp (K : PySem.W.Frag) (sp : ASp) : Sp := fun vs H Q _ => ∃ (as : List AV) (O : List Addr), ArgsOk K O H vs as ∧ sp.run as (fun r as' => ∀ v H', Shape as as' → ArgsOk K O H' vs as' → (∀ a o, H a = some o → (∀ (i : Nat) ds, as[i]? = some (.o ds) → vs[i]? ≠ some (.ref a)) → H' a = some o) → RetOk K O H H' v r → AvA K O H' vs as' v r → Q v H') (fun _ => False)
/-- a def of the module under its name -/
def CallOk (P : Program) (w : World) (K : PySem.W.Frag) (mg : Str → Option Value) (base : Heap) (k : Nat) (x : Str) (sp : ASp) : Prop :=
  ∃ f fd ps, FnG P w K mg base k f fd ps (liftSp K sp) ∧ mg x = some (.ref f) ∧ PySem.W.keepIn K (.ref f) = true ∧ Binds K fd ps []
/-- .. called by keywords -/
def CallKOk (P : Program) (w : World) (K : PySem.W.Frag) (mg : Str → Option Value) (base : Heap) (k : Nat) (x : Str) (sp : ASp) (ps ks : List Str) : Prop :=
  ∃ f fd, FnG P w K mg base k f fd ps (liftSp K sp) ∧ mg x = some (.ref f) ∧ PySem.W.keepIn K (.ref f) = true ∧
    ∀ (s : Shared) (ws : List Value), K.In s.heap → ws.length = ks.length → ∃ us, ps.mapM (fun p => (ks.zip ws).lookup p) = some us ∧ BindsTo s fd ⟨[], ks.zip ws⟩ (ps.zip us)

section
variable {K : PySem.W.Frag} {F : Fi} {O : List Addr} {H0 H H' : Hp} {σ : L2.St} {env : AEnv}
theorem lend_ok (e : EnvOk K F O H σ env) : ∀ {vs : List V} {rs : List AV} {k : List AV → Prop}, ResAll K O H0 H σ vs rs → lendK env rs k → ∃ as, k as ∧ as.length = rs.length ∧ vs.length = rs.length ∧
    (∀ (i : Nat) x, as[i]? = some (.d x) → ∃ v, vs[i]? = some v ∧ Dp K (Wo H O) v x) ∧
    (∀ (i : Nat) ds, as[i]? = some (.o ds) → ∃ p us j, vs[i]? = some (.ref p) ∧ rs[i]? = some (.b j) ∧ getE env j = some (.o ds) ∧ σ[j]? = some (some (.ref p)) ∧ p ∈ O ∧ H p = some (.lst us) ∧ DpAll K (Wo H O) us ds) ∧ (∀ (i : Nat) j, as[i]? ≠ some (.b j)) ∧ (∀ (i : Nat) j, rs[i]? = some (.b j) → ∃ ds, as[i]? = some (.o ds))
  | [], [], k, _, q => ⟨[], q, rfl, rfl, fun i x z => by simp at z, fun i x z => by simp at z, fun i x z => by simp at z, fun i x z => by simp at z⟩
  | v :: vs, r :: rs, k, h, q => by
    have next : ∀ {a : AV} {as : List AV}, (as.length = rs.length ∧ vs.length = rs.length ∧
        (∀ (i : Nat) x, as[i]? = some (.d x) → ∃ v, vs[i]? = some v ∧ Dp K (Wo H O) v x) ∧
        (∀ (i : Nat) ds, as[i]? = some (.o ds) → ∃ p us j, vs[i]? = some (.ref p) ∧ rs[i]? = some (.b j) ∧ getE env j = some (.o ds) ∧ σ[j]? = some (some (.ref p)) ∧ p ∈ O ∧ H p = some (.lst us) ∧ DpAll K (Wo H O) us ds) ∧ (∀ (i : Nat) j, as[i]? ≠ some (.b j)) ∧ (∀ (i : Nat) j, rs[i]? = some (.b j) → ∃ ds, as[i]? = some (.o ds))) →
        (∀ x, a = .d x → Dp K (Wo H O) v x) → (∀ ds, a = .o ds → ∃ p us j, v = .ref p ∧ r = .b j ∧ getE env j = some (.o ds) ∧ σ[j]? = some (some (.ref p)) ∧ p ∈ O ∧ H p = some (.lst us) ∧ DpAll K (Wo H O) us ds) → (∀ j, a ≠ .b j) → (∀ j, r = .b j → ∃ ds, a = .o ds) →
        ((a :: as).length = (r :: rs).length ∧ (v :: vs).length = (r :: rs).length ∧
        (∀ (i : Nat) x, (a :: as)[i]? = some (.d x) → ∃ w, (v :: vs)[i]? = some w ∧ Dp K (Wo H O) w x) ∧
        (∀ (i : Nat) ds, (a :: as)[i]? = some (.o ds) → ∃ p us j, (v :: vs)[i]? = some (.ref p) ∧ (r :: rs)[i]? = some (.b j) ∧ getE env j = some (.o ds) ∧ σ[j]? = some (some (.ref p)) ∧ p ∈ O ∧ H p = some (.lst us) ∧ DpAll K (Wo H O) us ds) ∧ (∀ (i : Nat) j, (a :: as)[i]? ≠ some (.b j)) ∧ (∀ (i : Nat) j, (r :: rs)[i]? = some (.b j) → ∃ ds, (a :: as)[i]? = some (.o ds))) := by
      rintro a as ⟨h1, h2, h3, h4, h5, h6⟩ g1 g2 g3 g4
      refine ⟨by simp [h1], by simp [h2], ?_, ?_, ?_, ?_⟩
      · intro i x z
        cases i with
        | zero => simp at z; exact ⟨v, rfl, g1 x z⟩
        | succ i => simpa using h3 i x (by simpa using z)
      · intro i x z
        cases i with
        | zero =>
          simp at z
          obtain ⟨p, us, j, e1, e2, e3⟩ := g2 x z
          exact ⟨p, us, j, by simp [e1], by simp [e2], e3⟩
        | succ i => simpa using h4 i x (by simpa using z)
      · intro i j z
        cases i with
        | zero => simp at z; exact g3 j z
        | succ i => exact h5 i j (by simpa using z)
      · intro i j z
        cases i with
        | zero =>
          simp at z
          obtain ⟨ds, e⟩ := g4 j z
          exact ⟨ds, by simp [e]⟩
        | succ i => simpa using h6 i j (by simpa using z)
    cases r with
    | d x =>
      obtain ⟨as, q, hh⟩ := lend_ok e h.2 q
      exact ⟨.d x :: as, q, next hh (fun y z => by cases z; exact h.1) (fun y z => by cases z) (fun j z => by cases z) (fun j z => by cases z)⟩
    | o ds =>
      obtain ⟨as, q, hh⟩ := lend_ok e h.2 q
      obtain ⟨y, hy, dd⟩ := res_data (k := fun y => y = .list ds) h.1 rfl
      subst hy
      exact ⟨.d (.list ds) :: as, q, next hh (fun y z => by cases z; exact dd) (fun y z => by cases z) (fun j z => by cases z) (fun j z => by cases z)⟩
    | b j =>
      unfold lendK at q
      split at q
      · rename_i ds hg
        obtain ⟨as, q, hh⟩ := lend_ok e h.2 q
        obtain ⟨p, rfl, hs⟩ := h.1
        obtain ⟨p', us, e1, e2, e3, e4⟩ := e.own j ds hg
        rw [hs] at e1; cases e1
        exact ⟨.o ds :: as, q, next hh (fun y z => by cases z) (fun y z => by cases z; exact ⟨p, us, j, rfl, rfl, hg, hs, e2, e3, e4⟩) (fun j z => by cases z) (fun j z => ⟨ds, rfl⟩)⟩
      · exact q.elim
theorem lent_one : ∀ {rs : List AV}, (lent rs).length ≤ 1 → ∀ (i j : Nat) a b, rs[i]? = some (.b a) → rs[j]? = some (.b b) → i = j
  | [], _, i, j, a, b, h1, _ => by simp at h1
  | r :: rs, h, i, j, a, b, h1, h2 => by
    have nob : ∀ {l : List AV} {m x : Nat}, (lent l).length = 0 → l[m]? = some (.b x) → False := by
      intro l
      induction l with
      | nil => intro m x _ z; simp at z
      | cons y l ih =>
        intro m x hl z
        cases m with
        | zero => simp at z; subst z; simp [lent] at hl
        | succ m =>
          refine ih (m := m) (x := x) ?_ (by simpa using z)
          cases y <;> simp [lent] at hl ⊢ <;> exact hl
    cases i with
    | zero =>
      cases j with
      | zero => rfl
      | succ j =>
        simp at h1
        subst h1
        simp [lent] at h
        exact (nob (l := rs) (m := j) (x := b) (by simp [h]) (by simpa using h2)).elim
    | succ i =>
      cases j with
      | zero =>
        simp at h2
        subst h2
        simp [lent] at h
        exact (nob (l := rs) (m := i) (x := a) (by simp [h]) (by simpa using h1)).elim
      | succ j =>
        have : i = j := lent_one (rs := rs) (by cases r <;> simp [lent] at h ⊢ <;> first | exact h | simp [h]) i j a b (by simpa using h1) (by simpa using h2)
        rw [this]
theorem backL_no : ∀ {rs as : List AV} {env : AEnv}, (∀ (i : Nat) j, rs[i]? ≠ some (.b j)) → backL env rs as = env
  | [], as, env, _ => by cases as <;> rfl
  | r :: rs, [], env, _ => by cases r <;> rfl
  | r :: rs, a :: as, env, h => by
    have ih : backL env rs as = env := backL_no fun i j z => h (i + 1) j (by simpa using z)
    cases r with
    | b j => exact (h 0 j rfl).elim
    | d x => exact ih
    | o x => exact ih
theorem backL_one : ∀ {rs as : List AV} {env : AEnv} {i j : Nat} {ds : List PyData}, rs[i]? = some (.b j) → (∀ (m : Nat) n, rs[m]? = some (.b n) → m = i) → as[i]? = some (.o ds) → backL env rs as = setE env j (some (.o ds))
  | [], _, _, i, _, _, h, _, _ => by simp at h
  | _ :: _, [], _, i, _, _, _, _, h => by simp at h
  | r :: rs, a :: as, env, 0, j, ds, h1, h2, h3 => by
    simp at h1 h3
    subst h1; subst h3
    show backL (setE env j (some (.o ds))) rs as = _
    exact backL_no fun m n z => by have := h2 (m + 1) n (by simpa using z); omega
  | r :: rs, a :: as, env, i + 1, j, ds, h1, h2, h3 => by
    have hr : ∀ n, r ≠ .b n := fun n z => by have := h2 0 n (by simp [z]); omega
    have ih := backL_one (rs := rs) (as := as) (env := env) (i := i) (j := j) (ds := ds) (by simpa using h1) (fun m n z => by have := h2 (m + 1) n (by simpa using z); omega) (by simpa using h3)
    cases r with
    | b n => exact (hr n rfl).elim
    | d x => exact ih
    | o x => exact ih
theorem retOk_res {v : V} {r : AV} (h : RetOk K O H H' v r) : Res K O H H' σ v r := by
  cases r with
  | d x => exact h
  | o ds => exact h
  | b j => exact h.elim
/-- a call seen from the caller -/
theorem call_lift {sp : ASp} {vs : List V} {rs : List AV} {Q : AV → AEnv → Prop} {Qv : VK} (e : EnvOk K F O H σ env) (c : Chg O H0 H) (hr : ResAll K O H0 H σ vs rs) (hq : callK sp rs env Q X0)
    (k : ∀ r env' v H', Q r env' → EnvOk K F O H' σ env' → Chg O H0 H' → Res K O H0 H' σ v r → AvR K O H' σ env' v r → Qv v H') : liftSp K sp vs H Qv E0 := by
  obtain ⟨h1, hq⟩ := hq
  obtain ⟨as, hq, l1, l2, hd, ho, hb, hbo⟩ := lend_ok e hr hq
  have one := lent_one h1
  refine ⟨as, O, ⟨by omega, hd, fun i ds z => ?_, hb, fun i j ds ds' z1 z2 => ?_, e.live⟩, sp.mono _ _ _ _ _ (fun r as' hq v H' sh ao fr ro aa => ?_) (fun c z => z) hq⟩
  · obtain ⟨p, us, j, a1, a2, a3, a4, a5, a6, a7⟩ := ho i ds z
    exact ⟨p, us, a1, a5, a6, a7⟩
  · obtain ⟨_, _, m, _, b1, _⟩ := ho i ds z1
    obtain ⟨_, _, n, _, b2, _⟩ := ho j ds' z2
    exact one i j m n b1 b2
  · have cH : Chg O H H' := fun a o z no => fr a o z fun i ds z1 z2 => by
      obtain ⟨p, us, j, a1, a2, a3, a4, a5, _⟩ := ho i ds z1
      rw [a1] at z2; cases z2
      exact no a5
    have nop : ∀ p, r ≠ .d .none → (∃ ds, r = .o ds) → v = .ref p → H p = none ∧ p ∉ O := fun p _ ⟨ds, hr⟩ hv => by
      subst hr; subst hv
      obtain ⟨p', us, e1, e2, e3, _⟩ := ro
      cases e1
      exact ⟨e2, e3⟩
    have sm : ∀ p, H p = none → Same (Wo H O) (Wo H' (p :: O)) := fun p hp a o z => by
      obtain ⟨n, z⟩ := wo_some z
      have ne := ne_of_none z hp
      rw [wo_out (by simp only [List.mem_cons, not_or]; exact ⟨ne, n⟩)]
      exact cH a o z n
    have avD : ∀ p, H p = none → ∀ j x, getE env j = some (.d x) → ∃ v, σ[j]? = some (some v) ∧ Dp K (Wo H' (p :: O)) v x := fun p hp j x h => by
      obtain ⟨w, h1, h2⟩ := e.dat j x h
      exact ⟨w, h1, dp_mono (sm p hp) h2⟩
    by_cases hn : ∃ (i : Nat) (j : Nat), rs[i]? = some (.b j)
    · obtain ⟨i, j, hij⟩ := hn
      obtain ⟨ds, hds⟩ := hbo i j hij
      obtain ⟨p, us, j', a1, a2, a3, a4, a5, a6, a7⟩ := ho i ds hds
      rw [hij] at a2; cases a2
      obtain ⟨ds', hds'⟩ := sh.2 i ds hds
      rw [backL_one hij (fun m n z => one m i n j z hij) hds'] at hq
      obtain ⟨p', us', b1, b2, b3, b4⟩ := ao.own i ds' hds'
      rw [a1] at b1; cases b1
      have frp : ∀ a o, H a = some o → a ≠ p → H' a = some o := fun a o z ne => fr a o z fun i' ds'' z1 z2 => by
        obtain ⟨q, _, n, c1, c2, _⟩ := ho i' ds'' z1
        have : i' = i := one i' i n j c2 hij
        subst this
        rw [a1] at z2; cases z2
        exact ne rfl
      refine k r _ v H' hq (e.put a3 a4 cH frp b3 b4) (c.trans cH) (retOk_res (σ := σ) ro |>.back c) ?_
      cases r with
      | d x => trivial
      | b j => trivial
      | o xs =>
        intro q hv
        obtain ⟨hqn, _⟩ := nop q (by intro z; cases z) ⟨xs, rfl⟩ hv
        have hj := getE_len a3
        refine ⟨fun m x h => ?_, fun m ys h => ?_⟩
        · by_cases hm : m = j
          · subst hm; rw [get_set_same hj] at h; cases h
          · rw [get_set_ne hm] at h; exact avD q hqn m x h
        · by_cases hm : m = j
          · subst hm
            rw [get_set_same hj] at h; cases h
            obtain ⟨a, us2, d1, d2, d3⟩ := aa q hv i ds' hds'
            rw [a1] at d1; cases d1
            exact ⟨p, us2, a4, a5, d2, d3⟩
          · rw [get_set_ne hm] at h
            obtain ⟨a, us2, d1, d2, d3, d4⟩ := e.own m ys h
            have ne : a ≠ p := fun z => by subst z; exact hm (e.inj m j _ _ _ h a3 d1 a4)
            exact ⟨a, us2, d1, d2, frp _ _ d3 ne, dps_mono (sm q hqn) d4⟩
    · have hno : ∀ (i : Nat) j, rs[i]? ≠ some (.b j) := fun i j z => hn ⟨i, j, z⟩
      rw [backL_no hno] at hq
      have sa : Same H H' := fun a o z => fr a o z fun i ds z1 => by
        obtain ⟨_, _, j, _, b1, _⟩ := ho i ds z1
        exact (hno i j b1).elim
      refine k r _ v H' hq (e.grow sa) (c.trans cH) (retOk_res (σ := σ) ro |>.back c) ?_
      cases r with
      | d x => trivial
      | b j => trivial
      | o xs =>
        intro q hv
        obtain ⟨hqn, _⟩ := nop q (by intro z; cases z) ⟨xs, rfl⟩ hv
        refine ⟨avD q hqn, fun m ys h => ?_⟩
        obtain ⟨a, us2, d1, d2, d3, d4⟩ := e.own m ys h
        exact ⟨a, us2, d1, d2, sa _ _ d3, dps_mono (sm q hqn) d4⟩
end

section
variable {X : Cx} {F : Fi} {x : Str} {sp : ASp} {k : Nat} {p pos : Pos} {es : List Expr} {ees : Es}
theorem te_call (C : CallOk X.prog X.w X.K X.mg X.base k x sp) (hr : Room k X.A) (hgd : X.A.guards = some []) (hg : Gl X x) (hdb : (x == ("__debug__" : Str)) = false) {e : Expr} (ha : PA X (e :: es) (TAof X.K ees))
    (he : starEach (e :: es) X.env = (false, eval e X.env) :: starEach es X.env) (hpl : (backTo pos (starEach es X.env)).any (·.1) = false) : PE X (.Call (.Name x p) (e :: es) [] pos) (TEof X.K (.call x sp ees)) := by
  obtain ⟨f, fd, ps, G, hm, hk, hb⟩ := C
  refine ⟨fun pins s σ H Q I h => ?_⟩
  obtain ⟨F, O, env, eo, hw⟩ := h
  refine wpAny_Call_Name_kw (ld_glob I hg hm ?_ hdb)
  refine PySem.W.callWith_K (h₀ := X.base) I.ok.mod.kin hk ?_ he hpl
  refine thn (ha.run pos pins s σ H (fun vs H1 => liftSp X.K sp vs H1 Q E0) I (ta_then eo hw fun rs env1 vs H1 q1 e1 c1 s1 => call_lift e1 c1 s1 q1 fun r env' v H' q e c s a => q v H' e c s a)) ?_
  rintro us s1 ⟨vs, H1, I1, rv, q⟩
  have hl : (us ++ []).length = ps.length := by rw [List.append_nil, ← rv.length]; exact G.len _ _ _ _ q
  have hb' := hb s1 us I1.kIn hl
  rw [List.append_nil] at hb'
  exact ⟨I1.kIn, wpAny_call (run_g G hr hgd I1 hb' rv q)⟩
theorem te_call0 (C : CallOk X.prog X.w X.K X.mg X.base k x sp) (hr : Room k X.A) (hgd : X.A.guards = some []) (hg : Gl X x) (hdb : (x == ("__debug__" : Str)) = false) : PE X (.Call (.Name x p) [] [] pos) (TEof X.K (.call x sp .nil)) := by
  obtain ⟨f, fd, ps, G, hm, hk, hb⟩ := C
  refine ⟨fun pins s σ H Q I h => ?_⟩
  obtain ⟨F, O, env, eo, hw⟩ := h
  refine wpAny_Call_Name_kw (ld_glob I hg hm ?_ hdb)
  simp only [wE, wEs] at hw
  have q : liftSp X.K sp [] H Q E0 := call_lift (vs := []) (rs := []) eo .refl trivial hw fun r env' v H' q e c s a => q v H' e c s a
  have hl : (([] : List Value) ++ []).length = ps.length := G.len _ _ _ _ q
  have hb' := hb s [] I.kIn hl
  exact PySem.W.callWith_K0 I.kIn hk (wpAny_call (run_g G hr hgd I hb' .nil q))
theorem EnvOk.fresh0 {K : PySem.W.Frag} {F : Fi} {O : List Addr} {H : Hp} {σ : L2.St} {env : AEnv} (e : EnvOk K F O H σ env) {p : Addr} (h : H p = none) : F.H0 p = none := by
  cases q : F.H0 p with
  | none => rfl
  | some o =>
    by_cases hl : F.lent p
    · obtain ⟨i, hi⟩ := hl
      obtain ⟨h1, ds, h2⟩ := e.par i p hi
      obtain ⟨p', vs, g1, g2, g3, _⟩ := e.own i ds h2
      rw [h1] at g1; cases g1
      rw [h] at g3; cases g3
    · rw [e.keep p o q hl] at h; cases h

/-- a new list is handed over -/
theorem callO_lift {K : PySem.W.Frag} {F : Fi} {O : List Addr} {H0 H : Hp} {σ : L2.St} {env env0 : AEnv} {sp : ASp} {v : V} {ds : List PyData} {Q : AV → AEnv → Prop} {Qv : VK} (e0 : EnvOk K F O H0 σ env0) (e : EnvOk K F O H σ env) (c : Chg O H0 H) (hr : Res K O H0 H σ v (.o ds)) (ha : AvR K O H σ env v (.o ds))
    (hq : sp.run [.o ds] (fun r _ => match r with | .d x => Q (.d x) env | _ => False) (fun _ => False)) (k : ∀ x v' H', Q (.d x) env → EnvOk K F O H' σ env → Chg O H0 H' → Dp K (Wo H' O) v' x → Qv v' H') : liftSp K sp [v] H Qv E0 := by
  obtain ⟨p, us, rfl, n, no, hp, hd⟩ := hr
  have av := ha p rfl
  have nF := e0.fresh0 n
  refine ⟨[.o ds], p :: O, ⟨rfl, fun i x z => ?_, fun i x z => ?_, fun i x z => ?_, fun i j x y z1 z2 => ?_, fun q hq => ?_⟩, sp.mono _ _ _ _ _ (fun r as' q v' H' sh ao fr ro aa => ?_) (fun _ z => z) hq⟩
  · match i, z with
    | 0, z => cases z
    | i + 1, z => simp at z
  · match i, z with
    | 0, z =>
      cases z
      exact ⟨p, us, rfl, List.mem_cons_self, hp, hd⟩
    | i + 1, z => simp at z
  · match i, z with
    | 0, z => cases z
    | i + 1, z => simp at z
  · match i, j, z1, z2 with
    | 0, 0, _, _ => rfl
    | i + 1, _, z1, _ => simp at z1
    | 0, j + 1, _, z2 => simp at z2
  · rcases List.mem_cons.mp hq with h | h
    · rw [h, hp]; intro z; cases z
    · exact e.live q h
  · have frp : ∀ a o, H a = some o → a ≠ p → H' a = some o := fun a o z ne => fr a o z fun i x z1 z2 => by
      match i, z1, z2 with
      | 0, _, z2 => cases z2; exact ne rfl
      | i + 1, z1, _ => simp at z1
    have sm : Same (Wo H (p :: O)) (Wo H' O) := fun a o z => by
      obtain ⟨m, z⟩ := wo_some z
      simp only [List.mem_cons, not_or] at m
      rw [wo_out m.2]
      exact frp a o z m.1
    match r, q, ro with
    | .d x, q, ro =>
      refine k x v' H' q ⟨e.len, fun j y h => ?_, fun j ys h => ?_, e.nob, e.inj, fun q hq => ?_, e.sub, e.new, fun a o h l => ?_, e.ownF, e.par⟩ (fun a o z m => ?_) (dp_mono (wo_sub fun z hz => List.mem_cons_of_mem _ hz) ro)
      · obtain ⟨w, h1, h2⟩ := av.dat j y h
        exact ⟨w, h1, dp_mono sm h2⟩
      · obtain ⟨a, vs, h1, h2, h3, h4⟩ := av.own j ys h
        exact ⟨a, vs, h1, h2, frp a _ h3 (fun z => no (z ▸ h2)), dps_mono sm h4⟩
      · have l := e.live q hq
        cases z : H q with
        | none => exact (l z).elim
        | some o =>
          rw [frp q o z (fun y => no (y ▸ hq))]
          intro y; cases y
      · exact frp a o (e.keep a o h l) (ne_of_none h nF)
      · exact frp a o (c a o z m) (ne_of_none z n)
    | .o _, q, _ => exact q.elim
    | .b _, q, _ => exact q.elim
theorem te_callO (C : CallOk X.prog X.w X.K X.mg X.base k x sp) (hr : Room k X.A) (hgd : X.A.guards = some []) (hg : Gl X x) (hdb : (x == ("__debug__" : Str)) = false) {e : Expr} {ea : E} (ha : PE X e (TEof X.K ea))
    (he : starEach [e] X.env = (false, eval e X.env) :: starEach [] X.env) : PE X (.Call (.Name x p) [e] [] pos) (TEof X.K (.callO x sp ea)) := by
  obtain ⟨f, fd, ps, G, hm, hk, hb⟩ := C
  refine ⟨fun pins s σ H Q I h => ?_⟩
  obtain ⟨F, O, env, eo, hw⟩ := h
  refine wpAny_Call_Name_kw (ld_glob I hg hm ?_ hdb)
  refine PySem.W.callWith_K (h₀ := X.base) I.ok.mod.kin hk ?_ he rfl
  have pa : PA X [e] (tCons (TEof X.K ea) tNil) := pa_cons ha pa_nil he
  refine thn (pa.run pos pins s σ H (fun vs H1 => liftSp X.K sp vs H1 Q E0) I (te_then eo hw fun r env1 v H1 q1 e1 c1 s1 a1 => ?_)) ?_
  · match r, q1, s1, a1 with
    | .o ds, q1, s1, a1 => exact callO_lift (Q := fun r env' => ∀ v' H', EnvOk X.K F O H' σ env' → Chg O H H' → Res X.K O H H' σ v' r → AvR X.K O H' σ env' v' r → Q v' H') eo e1 c1 s1 a1 q1 fun x v' H' q e c s => q v' H' e c s trivial
  rintro us s1 ⟨vs, H1, I1, rv, q⟩
  have hl : (us ++ []).length = ps.length := by rw [List.append_nil, ← rv.length]; exact G.len _ _ _ _ q
  have hb' := hb s1 us I1.kIn hl
  rw [List.append_nil] at hb'
  exact ⟨I1.kIn, wpAny_call (run_g G hr hgd I1 hb' rv q)⟩
/-! ### keywords -/
theorem tk_nil : PK X [] (TAof X.K .nil) := ⟨fun pos pins s σ H Q I h => by
  obtain ⟨F, O, env, eo, hw⟩ := h
  exact (pk_nil (X := X)).run pos pins s σ H Q I (hw [] H eo .refl trivial)⟩
theorem tk_cons {nm : Option Str} {e : Expr} {kpos : Pos} {kws : List Keyword} {ea : E} (ha : PE X e (TEof X.K ea)) (hr : PK X kws (TAof X.K ees)) : PK X (⟨nm, e, kpos⟩ :: kws) (TAof X.K (.cons ea ees)) := ⟨fun pos pins s σ H Q I h => by
  obtain ⟨F, O, env, eo, hw⟩ := h
  refine (pk_cons ha hr).run pos pins s σ H Q I (te_then eo hw fun r1 env1 v1 H1 q1 e1 c1 s1 a1 => ta_then e1 q1 fun rs env2 vs H2 q2 e2 c2 s2 => ?_)
  exact q2 (v1 :: vs) H2 e2 (c1.trans c2) ⟨s1.chg c2, s2.back c1⟩⟩
theorem lookup_res {K : PySem.W.Frag} {O : List Addr} {H H' : Hp} {σ : L2.St} {p : Str} : ∀ {ks : List Str} {vs : List V} {rs : List AV} {us : List Value} {r : AV}, ResAll K O H H' σ vs rs → Vals vs us → (ks.zip rs).lookup p = some r →
    ∃ v u, (ks.zip vs).lookup p = some v ∧ (ks.zip us).lookup p = some u ∧ RelV v u ∧ Res K O H H' σ v r
  | [], _, _, _, _, _, _, h => by simp at h
  | _ :: _, [], [], _, _, _, _, h => by simp at h
  | k :: ks, v :: vs, r0 :: rs, _, r, hr, .cons rv hv, h => by
    simp only [List.zip_cons_cons, List.lookup_cons] at h ⊢
    cases hb : p == k with
    | true =>
      rw [hb] at h
      cases h
      exact ⟨v, _, rfl, rfl, rv, hr.1⟩
    | false =>
      rw [hb] at h
      exact lookup_res hr.2 hv h
theorem mapM_res {K : PySem.W.Frag} {O : List Addr} {H H' : Hp} {σ : L2.St} {ks : List Str} {vs : List V} {rs : List AV} {us : List Value} (hr : ResAll K O H H' σ vs rs) (hv : Vals vs us) : ∀ {ps : List Str} {as : List AV} {ws : List Value}, ps.mapM (fun p => (ks.zip rs).lookup p) = some as → ps.mapM (fun p => (ks.zip us).lookup p) = some ws →
    ∃ zs, Vals zs ws ∧ ResAll K O H H' σ zs as
  | [], as, ws, h1, h2 => by
    simp at h1 h2
    subst h1; subst h2
    exact ⟨[], .nil, trivial⟩
  | p :: ps, as, ws, h1, h2 => by
    simp only [List.mapM_cons, Option.bind_eq_bind, Option.bind_eq_some_iff] at h1 h2
    obtain ⟨a, ha, as', has, e1⟩ := h1
    obtain ⟨w, hw, ws', hws, e2⟩ := h2
    have e1 : a :: as' = as := Option.some.inj e1
    have e2 : w :: ws' = ws := Option.some.inj e2
    subst e1; subst e2
    obtain ⟨v, u, g1, g2, g3, g4⟩ := lookup_res hr hv ha
    rw [hw] at g2; cases g2
    obtain ⟨zs, z1, z2⟩ := mapM_res hr hv has hws
    exact ⟨v :: zs, .cons g3 z1, g4, z2⟩
theorem te_callK {ps ks : List Str} {kws : List Keyword} (C : CallKOk X.prog X.w X.K X.mg X.base k x sp ps ks) (hr : Room k X.A) (hgd : X.A.guards = some []) (hg : Gl X x) (hdb : (x == ("__debug__" : Str)) = false) (ha : PK X kws (TAof X.K ees)) (hlen : lenEs ees = ks.length)
    (hall : (backToKw pos (keywordEach kws X.env)).all (·.1.isSome) = true) (hks : (backToKw pos (keywordEach kws X.env)).filterMap (·.1) = ks) (hpl : ((backTo pos (starEach [] X.env)).any (·.1) || (backToKw pos (keywordEach kws X.env)).any (·.1.isNone)) = false) :
    PE X (.Call (.Name x p) [] kws pos) (TEof X.K (.callK x sp ps ks ees)) := by
  obtain ⟨f, fd, G, hm, hk, hb⟩ := C
  refine ⟨fun pins s σ H Q I h => ?_⟩
  obtain ⟨F, O, env, eo, hw⟩ := h
  refine wpAny_Call_Name_kw (ld_glob I hg hm ?_ hdb)
  refine PySem.W.callWith_KW0 (h₀ := X.base) I.ok.mod.kin hk hall ?_ hpl
  rw [hks]
  unfold wE at hw
  refine thn (ha.run pos pins s σ H (fun vs H1 => ∃ rs env1, rs.length = ks.length ∧ ResAll X.K O H H1 σ vs rs ∧ EnvOk X.K F O H1 σ env1 ∧ Chg O H H1 ∧ ∃ as, reorder ps ks rs = some as ∧ callK sp as env1 (fun r env' => ∀ v H', EnvOk X.K F O H' σ env' → Chg O H H' → Res X.K O H H' σ v r → AvR X.K O H' σ env' v r → Q v H') X0) I ?_) ?_
  · refine ta_then eo (wEs_len hw) fun rs env1 vs H1 q1 e1 c1 s1 => ?_
    obtain ⟨q0, q1⟩ := q1
    refine ⟨rs, env1, q0.trans hlen, s1, e1, c1, ?_⟩
    split at q1
    · rename_i as has
      exact ⟨as, has, q1⟩
    · exact q1.elim
  · rintro us s1 ⟨vs, H1, I1, rv, rs, env1, hl, hs, e1, c1, as, has, q⟩
    obtain ⟨ws, hws, hbt⟩ := hb s1 us I1.kIn (by rw [← rv.length, resAll_len hs]; exact hl)
    obtain ⟨zs, hz, hzr⟩ := mapM_res hs rv has hws
    have q2 : liftSp X.K sp zs H1 Q E0 := call_lift e1 c1 hzr q fun r env' v H' q e c s a => q v H' e c s a
    exact ⟨I1.kIn, wpAny_call (run_g G hr hgd I1 hbt hz q2)⟩
end
section
variable {X : Cx} {F : Fi} {p pos : Pos} {es : List Expr} {ees : Es}
/-! ### built-ins -/
def biName : BI → Str
  | .len => "len" | .abs => "abs" | .max2 => "max" | .min2 => "min" | .int => "int" | .sum => "sum" | .any => "any" | .all => "all" | .min1 => "min" | .max1 => "max"
  | .list => "list" | .tuple => "tuple" | .sorted => "sorted" | .repr => "repr" | .bool => "bool"
theorem ints_vals {K : PySem.W.Frag} {H : Hp} : ∀ {vs : List V} {xs : List PyData} {ns : List Int}, DpAll K H vs xs → intsOf xs = some ns → vs = ns.map V.int
  | _, _, ns, .nil, e => by cases e; rfl
  | _, _, ns, .cons (d := .int i) h t, e => by
    cases h
    simp only [intsOf, Option.map_eq_some_iff] at e
    obtain ⟨ms, e1, rfl⟩ := e
    rw [ints_vals t e1]
    rfl
  | _, _, ns, .cons (d := .none) h t, e => by cases e
  | _, _, ns, .cons (d := .bool _) h t, e => by cases e
  | _, _, ns, .cons (d := .str _) h t, e => by cases e
  | _, _, ns, .cons (d := .list _) h t, e => by cases e
  | _, _, ns, .cons (d := .tuple _) h t, e => by cases e
  | _, _, ns, .cons (d := .dict _) h t, e => by cases e
theorem bools_vals {K : PySem.W.Frag} {H : Hp} : ∀ {vs : List V} {xs : List PyData} {ns : List Bool}, DpAll K H vs xs → boolsOf xs = some ns → vs = ns.map V.bl
  | _, _, ns, .nil, e => by cases e; rfl
  | _, _, ns, .cons (d := .bool i) h t, e => by
    cases h
    simp only [boolsOf, Option.map_eq_some_iff] at e
    obtain ⟨ms, e1, rfl⟩ := e
    rw [bools_vals t e1]
    rfl
  | _, _, ns, .cons (d := .none) h t, e => by cases e
  | _, _, ns, .cons (d := .int _) h t, e => by cases e
  | _, _, ns, .cons (d := .str _) h t, e => by cases e
  | _, _, ns, .cons (d := .list _) h t, e => by cases e
  | _, _, ns, .cons (d := .tuple _) h t, e => by cases e
  | _, _, ns, .cons (d := .dict _) h t, e => by cases e
theorem dps_ints {K : PySem.W.Frag} {H : Hp} : ∀ ns : List Int, DpAll K H (ns.map V.int) (ns.map PyData.int)
  | [] => .nil
  | n :: ns => .cons (.int n) (dps_ints ns)
/-- repr of data -/
def rRepr (K : PySem.W.Frag) : List V → Hp → VK → Prop := fun vs H Q => ∃ v x, vs = [v] ∧ Dp K H v x ∧ x.showable = true ∧ x.hasDict = false ∧ x.shown.length ≤ sizeLine ∧ x.depth ≤ 64 ∧ Q (.str x.shown) H
theorem cr_repr (hgd : X.A.guards = some []) (hu : X.A.units + 70 < cLine) : CallR X (.builtin "repr") (rRepr X.K) := by
  intro pins s σ H vs us Q I r h
  obtain ⟨v, x, rfl, hd, h1, h2, h3, h4, q⟩ := h
  obtain ⟨u, rfl, ru⟩ := r.one
  obtain ⟨as, hr⟩ := Dp.reads I x v u hd ru
  cases hd with
  | lst _ _ =>
    cases ru
    exact repr_of_reads' hr h1 (fun z => by rw [h2] at z; cases z) hgd (by omega) (fun _ _ e => e) (fun h' u tk hk => ⟨.str _, H, I.kept hk, ⟨_, rfl⟩, q⟩) h3
  | tup _ _ =>
    cases ru
    exact repr_of_reads' hr h1 (fun z => by rw [h2] at z; cases z) hgd (by omega) (fun _ _ e => e) (fun h' u tk hk => ⟨.str _, H, I.kept hk, ⟨_, rfl⟩, q⟩) h3
  | int i =>
    obtain ⟨t, rfl⟩ := ru
    exact PySem.P.repr_of_int (by simpa [PyData.showable] using h1) ⟨.str _, H, I.tok _, ⟨_, rfl⟩, q⟩
  | non =>
    cases ru
    exact PySem.P.repr_of_none ⟨.str _, H, I.tok _, ⟨_, rfl⟩, q⟩
  | bl b =>
    cases ru
    exact PySem.P.repr_of_bool ⟨.str _, H, I.tok _, ⟨_, rfl⟩, q⟩
  | str z =>
    obtain ⟨t, rfl⟩ := ru
    exact PySem.P.repr_of_str ⟨.str _, H, I.tok _, ⟨_, rfl⟩, q⟩ h3
/-- from data to a built-in's wish by values -/
def BiImp (K : PySem.W.Frag) (f : BI) (r : List V → Hp → VK → Prop) : Prop := ∀ (F : Fi) (O : List Addr) (H0 H : Hp) (σ : L2.St) (env : AEnv) (vs : List V) (xs : List PyData) (Q' : AV → Prop) (Q : VK), EnvOk K F O H σ env → Chg O H0 H → vs.length = xs.length →
  (∀ (i : Nat) (v : V) (x : PyData), vs[i]? = some v → xs[i]? = some x → RdD K O H v x) → biK f xs Q' → (∀ r v H', Q' r → EnvOk K F O H' σ env → Chg O H0 H' → Res K O H0 H' σ v r → AvR K O H' σ env v r → Q v H') → r vs H Q
theorem bi_arg {K : PySem.W.Frag} {f : BI} {r : List V → Hp → VK → Prop} (imp : BiImp K f r) {σ : L2.St} {H : Hp} {Q : VK} (h : TEof K (.bi f ees) σ H Q) : tCB r (TAof K ees) σ H Q := by
  obtain ⟨F, O, env, eo, hw⟩ := h
  refine ta_then eo hw fun rs env1 vs H1 q1 e1 c1 s1 => ?_
  obtain ⟨xs, q, hl, hx⟩ := res_rds e1 s1 q1
  exact imp F O H H1 σ env1 vs xs _ Q e1 c1 hl hx q fun r v H' q e c s a => q v H' e c s a
theorem one_arg {K : PySem.W.Frag} {O : List Addr} {H : Hp} {vs : List V} {x : PyData} (hl : vs.length = [x].length) (h : ∀ (i : Nat) (v : V) (y : PyData), vs[i]? = some v → [x][i]? = some y → RdD K O H v y) : ∃ v, vs = [v] ∧ RdD K O H v x := by
  match vs, hl with
  | [v], _ => exact ⟨v, rfl, h 0 v x rfl rfl⟩
theorem two_arg {K : PySem.W.Frag} {O : List Addr} {H : Hp} {vs : List V} {x x2 : PyData} (hl : vs.length = [x, x2].length) (h : ∀ (i : Nat) (v : V) (y : PyData), vs[i]? = some v → [x, x2][i]? = some y → RdD K O H v y) : ∃ v v2, vs = [v, v2] ∧ RdD K O H v x ∧ RdD K O H v2 x2 := by
  match vs, hl with
  | [v, v2], _ => exact ⟨v, v2, rfl, h 0 v x rfl rfl, h 1 v2 x2 rfl rfl⟩
theorem imp_len {K : PySem.W.Frag} : BiImp K .len (fun xs H Q => ∃ x n, xs = [x] ∧ LenV K x H n ∧ Q (.int n) H) := by
  intro F O H0 H σ env vs xs Q' Q eo hc hl hx hq k
  unfold biK at hq
  split at hq <;> try (exact hq.elim) <;> try contradiction
  all_goals first
    | contradiction
    | (obtain ⟨v, rfl, p, us, rfl, s1, d1⟩ := one_arg hl hx
       first
         | exact ⟨_, _, rfl, .inl ⟨us, s1, rfl⟩, by rw [dps_len d1]; exact k _ _ _ hq eo hc (.int _) trivial⟩
         | exact ⟨_, _, rfl, .inr ⟨us, sq_t wo_all s1, rfl⟩, by rw [dps_len d1]; exact k _ _ _ hq eo hc (.int _) trivial⟩)
    | exact hq.elim
theorem imp_abs {K : PySem.W.Frag} : BiImp K .abs (fun xs H Q => ∃ i, xs = [.int i] ∧ Q (.int (if i < 0 then -i else i)) H) := by
  intro F O H0 H σ env vs xs Q' Q eo hc hl hx hq k
  match xs, hq with
  | [.int i], hq =>
    obtain ⟨v, rfl, h⟩ := one_arg hl hx
    cases h.int
    exact ⟨i, rfl, k _ _ _ hq eo hc (.int _) trivial⟩
theorem imp_max2 {K : PySem.W.Frag} : BiImp K .max2 (fun xs H Q => ∃ i j, xs = [.int i, .int j] ∧ Q (.int (if j > i then j else i)) H) := by
  intro F O H0 H σ env vs xs Q' Q eo hc hl hx hq k
  match xs, hq with
  | [.int i, .int j], hq =>
    obtain ⟨v, v2, rfl, h, h2⟩ := two_arg hl hx
    cases h.int; cases h2.int
    exact ⟨i, j, rfl, k _ _ _ hq eo hc (.int _) trivial⟩
theorem imp_min2 {K : PySem.W.Frag} : BiImp K .min2 (fun xs H Q => ∃ i j, xs = [.int i, .int j] ∧ Q (.int (if j < i then j else i)) H) := by
  intro F O H0 H σ env vs xs Q' Q eo hc hl hx hq k
  match xs, hq with
  | [.int i, .int j], hq =>
    obtain ⟨v, v2, rfl, h, h2⟩ := two_arg hl hx
    cases h.int; cases h2.int
    exact ⟨i, j, rfl, k _ _ _ hq eo hc (.int _) trivial⟩
theorem imp_int {K : PySem.W.Frag} : BiImp K .int (fun xs H Q => (∃ i, xs = [.int i] ∧ Q (.int i) H) ∨ ∃ k, xs = [.bl k] ∧ Q (.int (if k then 1 else 0)) H) := by
  intro F O H0 H σ env vs xs Q' Q eo hc hl hx hq k
  match xs, hq with
  | [.int i], hq =>
    obtain ⟨v, rfl, h⟩ := one_arg hl hx
    cases h.int
    exact .inl ⟨i, rfl, k _ _ _ hq eo hc (.int _) trivial⟩
  | [.bool i], hq =>
    obtain ⟨v, rfl, h⟩ := one_arg hl hx
    cases h.bool
    exact .inr ⟨i, rfl, k _ _ _ hq eo hc (.int _) trivial⟩
theorem imp_list {K : PySem.W.Frag} : BiImp K .list (fun xs H Q => ∃ p ys, xs = [.ref p] ∧ (SqL K H p ys ∨ SqT K H p ys) ∧ ∀ l, H l = none → Q (.ref l) (upd H l (.lst ys))) := by
  intro F O H0 H σ env vs xs Q' Q eo hc hl hx hq k
  match xs, hq with
  | [.list a], hq =>
    obtain ⟨v, rfl, p, us, rfl, s1, d1⟩ := one_arg hl hx
    exact ⟨p, us, rfl, .inl s1, fun l hl => k _ _ _ hq (eo.grow (same_new hl)) (hc.trans (chg_new hl)) (res_new eo hl hc d1) (avR_new eo hl)⟩
  | [.tuple a], hq =>
    obtain ⟨v, rfl, p, us, rfl, s1, d1⟩ := one_arg hl hx
    exact ⟨p, us, rfl, .inr (sq_t wo_all s1), fun l hl => k _ _ _ hq (eo.grow (same_new hl)) (hc.trans (chg_new hl)) (res_new eo hl hc d1) (avR_new eo hl)⟩
theorem imp_sum {K : PySem.W.Frag} : BiImp K .sum (rSum K) := by
  intro F O H0 H σ env vs xs Q' Q eo hc hl hx hq k
  match xs, hq with
  | [.list a], hq =>
    obtain ⟨v, rfl, p, us, rfl, s1, d1⟩ := one_arg hl hx
    simp only [biK] at hq
    split at hq
    · rename_i ns hn
      exact ⟨p, ns, rfl, by rw [← ints_vals d1 hn]; exact s1, k _ _ _ hq eo hc (.int _) trivial⟩
    · exact hq.elim
theorem imp_any {K : PySem.W.Frag} : BiImp K .any (rAny K) := by
  intro F O H0 H σ env vs xs Q' Q eo hc hl hx hq k
  match xs, hq with
  | [.list a], hq =>
    obtain ⟨v, rfl, p, us, rfl, s1, d1⟩ := one_arg hl hx
    simp only [biK] at hq
    split at hq
    · rename_i ns hn
      exact ⟨p, ns, rfl, by rw [← bools_vals d1 hn]; exact s1, k _ _ _ hq eo hc (.bl _) trivial⟩
    · exact hq.elim
theorem imp_all {K : PySem.W.Frag} : BiImp K .all (rAll K) := by
  intro F O H0 H σ env vs xs Q' Q eo hc hl hx hq k
  match xs, hq with
  | [.list a], hq =>
    obtain ⟨v, rfl, p, us, rfl, s1, d1⟩ := one_arg hl hx
    simp only [biK] at hq
    split at hq
    · rename_i ns hn
      exact ⟨p, ns, rfl, by rw [← bools_vals d1 hn]; exact s1, k _ _ _ hq eo hc (.bl _) trivial⟩
    · exact hq.elim
theorem imp_min1 {K : PySem.W.Frag} : BiImp K .min1 (rMin K) := by
  intro F O H0 H σ env vs xs Q' Q eo hc hl hx hq k
  match xs, hq with
  | [.list a], hq =>
    obtain ⟨v, rfl, p, us, rfl, s1, d1⟩ := one_arg hl hx
    simp only [biK] at hq
    split at hq
    · rename_i ns hn
      exact ⟨p, ns, rfl, by rw [← ints_vals d1 hn]; exact s1, hq.1, fun m h1 h2 => k _ _ _ (hq.2 m h1 h2) eo hc (.int _) trivial⟩
    · exact hq.elim
theorem imp_max1 {K : PySem.W.Frag} : BiImp K .max1 (rMax K) := by
  intro F O H0 H σ env vs xs Q' Q eo hc hl hx hq k
  match xs, hq with
  | [.list a], hq =>
    obtain ⟨v, rfl, p, us, rfl, s1, d1⟩ := one_arg hl hx
    simp only [biK] at hq
    split at hq
    · rename_i ns hn
      exact ⟨p, ns, rfl, by rw [← ints_vals d1 hn]; exact s1, hq.1, fun m h1 h2 => k _ _ _ (hq.2 m h1 h2) eo hc (.int _) trivial⟩
    · exact hq.elim
theorem imp_sorted {K : PySem.W.Frag} : BiImp K .sorted (rSortedI K) := by
  intro F O H0 H σ env vs xs Q' Q eo hc hl hx hq k
  match xs, hq with
  | [.list a], hq =>
    obtain ⟨v, rfl, p, us, rfl, s1, d1⟩ := one_arg hl hx
    simp only [biK] at hq
    split at hq
    · rename_i ns hn
      exact ⟨p, ns, rfl, by rw [← ints_vals d1 hn]; exact s1, fun ns' z h1 h2 hz => k _ _ _ (hq ns' h1 h2) (eo.grow (same_new hz)) (hc.trans (chg_new hz)) (res_new eo hz hc (dps_ints ns')) (avR_new eo hz)⟩
    · exact hq.elim
theorem imp_repr {K : PySem.W.Frag} : BiImp K .repr (rRepr K) := by
  intro F O H0 H σ env vs xs Q' Q eo hc hl hx hq k
  match xs, hq with
  | [x], hq =>
    obtain ⟨v, rfl, h⟩ := one_arg hl hx
    obtain ⟨⟨h1, h2, h3, h4⟩, hq⟩ := hq
    exact ⟨v, x, rfl, h.dp, h1, h2, h3, h4, k _ _ _ hq eo hc (.str _) trivial⟩
theorem imp_tuple {K : PySem.W.Frag} : BiImp K .tuple (fun xs H Q => ∃ p ys, xs = [.ref p] ∧ ((SqL K H p ys ∧ ∀ l, H l = none → Q (.ref l) (upd H l (.tup ys))) ∨ (SqT K H p ys ∧ Q (.ref p) H))) := by
  intro F O H0 H σ env vs xs Q' Q eo hc hl hx hq k
  match xs, hq with
  | [.list a], hq =>
    obtain ⟨v, rfl, p, us, rfl, s1, d1⟩ := one_arg hl hx
    exact ⟨p, us, rfl, .inl ⟨s1, fun l hl => k _ _ _ hq (eo.grow (same_new hl)) (hc.trans (chg_new hl)) (dp_tup (eo.notO hl) hl d1) trivial⟩⟩
  | [.tuple a], hq =>
    obtain ⟨v, rfl, p, us, rfl, s1, d1⟩ := one_arg hl hx
    exact ⟨p, us, rfl, .inr ⟨sq_t wo_all s1, k _ _ _ hq eo hc (.tup s1 d1) trivial⟩⟩
/-- every built-in -/
theorem te_bi {e : Expr} (f : BI) (hf : f ≠ .bool) (hc : X.calm = true) (hgd : X.A.guards = some []) (hu : X.A.units + 70 < cLine) (hg : Gl X (biName f)) (hm : X.mg (biName f) = none) (ha : PA X (e :: es) (TAof X.K ees)) (he : starEach (e :: es) X.env = (false, eval e X.env) :: starEach es X.env)
    (hpl : (backTo pos (starEach es X.env)).any (·.1) = false) : PE X (.Call (.Name (biName f) p) (e :: es) [] pos) (TEof X.K (.bi f ees)) := by
  cases f with
  | len => exact pe_weak (pe_callB call_len hg hm (by decide +kernel) ha (by decide +kernel) (by decide +kernel) he hpl) fun σ H Q h => bi_arg imp_len h
  | abs => exact pe_weak (pe_callB call_abs hg hm (by decide +kernel) ha (by decide +kernel) (by decide +kernel) he hpl) fun σ H Q h => bi_arg imp_abs h
  | max2 => exact pe_weak (pe_callB (call_max2 hc) hg hm (by decide +kernel) ha (by decide +kernel) (by decide +kernel) he hpl) fun σ H Q h => bi_arg imp_max2 h
  | min2 => exact pe_weak (pe_callB (call_min2 hc) hg hm (by decide +kernel) ha (by decide +kernel) (by decide +kernel) he hpl) fun σ H Q h => bi_arg imp_min2 h
  | int => exact pe_weak (pe_callTy call_int1 hg hm (by decide +kernel) ha (by decide +kernel) (by decide +kernel) he hpl) fun σ H Q h => bi_arg imp_int h
  | sum => exact pe_weak (pe_callB (cr_sum hc) hg hm (by decide +kernel) ha (by decide +kernel) (by decide +kernel) he hpl) fun σ H Q h => bi_arg imp_sum h
  | any => exact pe_weak (pe_callB (cr_any hc) hg hm (by decide +kernel) ha (by decide +kernel) (by decide +kernel) he hpl) fun σ H Q h => bi_arg imp_any h
  | all => exact pe_weak (pe_callB (cr_all hc) hg hm (by decide +kernel) ha (by decide +kernel) (by decide +kernel) he hpl) fun σ H Q h => bi_arg imp_all h
  | min1 => exact pe_weak (pe_callB (cr_min hc) hg hm (by decide +kernel) ha (by decide +kernel) (by decide +kernel) he hpl) fun σ H Q h => bi_arg imp_min1 h
  | max1 => exact pe_weak (pe_callB (cr_max hc) hg hm (by decide +kernel) ha (by decide +kernel) (by decide +kernel) he hpl) fun σ H Q h => bi_arg imp_max1 h
  | list => exact pe_weak (pe_callTy call_list_of hg hm (by decide +kernel) ha (by decide +kernel) (by decide +kernel) he hpl) fun σ H Q h => bi_arg imp_list h
  | tuple => exact pe_weak (pe_callTy call_tuple_of hg hm (by decide +kernel) ha (by decide +kernel) (by decide +kernel) he hpl) fun σ H Q h => bi_arg imp_tuple h
  | sorted => exact pe_weak (pe_callB cr_sortedI hg hm (by decide +kernel) ha (by decide +kernel) (by decide +kernel) he hpl) fun σ H Q h => bi_arg imp_sorted h
  | repr => exact pe_weak (pe_callB (cr_repr hgd hu) hg hm (by decide +kernel) ha (by decide +kernel) (by decide +kernel) he hpl) fun σ H Q h => bi_arg imp_repr h
  | bool => exact absurd rfl hf
/-! ### isinstance -/
def tyName : Ty → String
  | .int => "int" | .bool => "bool" | .str => "str" | .list => "list" | .tuple => "tuple"
def pyTy : PyData → String
  | .none => "NoneType" | .bool _ => "bool" | .int _ => "int" | .str _ => "str" | .list _ => "list" | .tuple _ => "tuple" | .dict _ => "dict"
def tyS (s : String) (t : Ty) : Bool := s == tyName t || (s == "bool" && t == .int)
theorem kitS : ∀ s ∈ ["NoneType", "bool", "int", "str", "list", "tuple"], ∀ t ∈ [Ty.int, .bool, .str, .list, .tuple], kitB s (tyName t) = some (tyS s t) := by decide +kernel
theorem kit_all (x : PyData) (t : Ty) (hx : ∀ k, x ≠ .dict k) : kitB (pyTy x) (tyName t) = some (isTy x [t]) := by
  have h1 : pyTy x ∈ ["NoneType", "bool", "int", "str", "list", "tuple"] := by
    cases x <;> first | (simp [pyTy]; done) | exact absurd rfl (hx _)
  have h2 : t ∈ [Ty.int, .bool, .str, .list, .tuple] := by cases t <;> simp
  rw [kitS _ h1 _ h2]
  congr 1
  cases x <;> cases t <;> first | rfl | exact absurd rfl (hx _)
theorem tyX_of {K : PySem.W.Frag} {H : Hp} {v : V} {x : PyData} (h : Dp K H v x) : TyX K H v (.type (pyTy x)) := by
  cases h with
  | non => exact .base .non
  | bl b => exact .base (.bl b)
  | int i => exact .base (.int i)
  | str s => exact .base (.str s)
  | lst h _ =>
    rcases h with (h | ⟨o, h⟩) | ⟨o, its, n, h1, h2, _⟩
    · exact .base (.lst h)
    · exact .base (.frz h)
    · exact .kList h1 h2
  | tup h _ =>
    rcases h with (h | ⟨o, h⟩) | ⟨o, its, n, h1, h2, _⟩
    · exact .base (.tup h)
    · exact .fTuple h
    · exact .kTuple h1 h2
theorem nodict_of {K : PySem.W.Frag} {H : Hp} {v : V} {x : PyData} (h : Dp K H v x) : ∀ k, x ≠ .dict k := by
  cases h <;> intro k z <;> cases z
theorem te_inst {a c : Expr} {ea : E} {t : Ty} (hg : Gl X "isinstance") (hm : X.mg "isinstance" = none) (ha : PE X a (TEof X.K ea)) (hc : PE X c (tC (.ty (tyName t)))) (he : starEach [a, c] X.env = (false, eval a X.env) :: starEach [c] X.env) (he2 : starEach [c] X.env = [(false, eval c X.env)])
    (hpl : (backTo pos (starEach [c] X.env)).any (·.1) = false) : PE X (.Call (.Name "isinstance" p) [a, c] [] pos) (TEof X.K (.inst ea [t])) :=
  pe_weak (pe_callB call_isi hg hm (by decide +kernel) (pa_cons ha (pa_cons hc pa_nil he2) he) (by decide +kernel) (by decide +kernel) he hpl) fun σ H Q ⟨F, O, env, eo, hw⟩ => te_then eo hw fun r1 env1 v1 H1 q1 e1 c1 s1 a1 => by
    obtain ⟨x, q, hx⟩ := res_rd e1 s1 q1
    exact ⟨v1, _, _, _, _, rfl, .ty _, tyX_of hx.dp, kit_ty (kit_all x t (nodict_of hx.dp)), q _ _ e1 c1 (.bl _) trivial⟩
theorem te_tyname {x : Str} {n : String} (hg : Gl X x) (hm : X.mg x = none) (hv : bootBuiltins x = some (.type n)) (hn : x ≠ "__name__") (hd : (x == ("__debug__" : Str)) = false) : PE X (.Name x p) (tC (.ty n)) := pe_bltn hg hm hv rfl hn hd
end
end PF

set_option maxRecDepth 100000
set_option maxHeartbeats 4000000
/-! no slot comes to own a list within an expression -/
namespace PF
open PySem L2
def Shp (env env' : AEnv) : Prop := (∀ i ds, getE env' i = some (.o ds) → ∃ ds', getE env i = some (.o ds')) ∧ env'.length = env.length
theorem Shp.refl {env : AEnv} : Shp env env := ⟨fun i ds h => ⟨ds, h⟩, rfl⟩
theorem Shp.trans {a b c : AEnv} (h : Shp a b) (k : Shp b c) : Shp a c := ⟨fun i ds e => by
  obtain ⟨ds', e'⟩ := k.1 i ds e
  exact h.1 i ds' e', k.2.trans h.2⟩
theorem Shp.set {env : AEnv} {i : Nat} {v : Option AV} (h : ∀ ds, v ≠ some (.o ds)) : Shp env (setE env i v) := ⟨fun j ds e => by
  rw [get_set] at e
  split at e
  · split at e
    · exact (h ds e).elim
    · cases e
  · exact ⟨ds, e⟩, setE_len _ _ _⟩
theorem Shp.put {env : AEnv} {i : Nat} {ds ds' : List PyData} (h : getE env i = some (.o ds)) : Shp env (setE env i (some (.o ds'))) := ⟨fun j xs e => by
  rw [get_set] at e
  split at e
  · rename_i hj
    subst hj
    exact ⟨ds, h⟩
  · exact ⟨xs, e⟩, setE_len _ _ _⟩
theorem shp_wipe {env : AEnv} : ∀ own : List (Str × Nat), Shp env (wipeE env own)
  | [] => .refl
  | p :: r => (shp_wipe r).trans (.set fun ds z => by cases z)
theorem shp_many : ∀ {is : List Nat} {xs : List PyData} {env : AEnv}, Shp env (setMany is xs env)
  | [], _, _ => .refl
  | _ :: _, [], _ => .refl
  | i :: is, x :: xs, env => by
    show Shp env (setMany is xs (setE env i (some (.d x))))
    exact Shp.trans (Shp.set fun ds z => by cases z) shp_many
theorem tgK_shp {tg : Tg} {x : PyData} {env : AEnv} {k : AEnv → Prop} (q : tgK tg x env k) : tgK tg x env fun e => Shp env e ∧ k e := by
  unfold tgK at q ⊢
  split at q
  · exact ⟨.set (fun ds z => by cases z), q⟩
  · split at q
    · exact ⟨q.1, shp_many, q.2⟩
    · exact q
theorem shp_back {old env : AEnv} (h : Shp old env) : ∀ own : List (Str × Nat), Shp old (backE old env own)
  | [] => h
  | p :: r => by
    have ih := shp_back h r
    refine ⟨fun j ds e0 => ?_, ?_⟩
    · show ∃ ds', getE old j = some (.o ds')
      have e : getE (setE (backE old env r) p.2 (getE old p.2)) j = some (.o ds) := e0
      clear e0
      rw [get_set] at e
      split at e
      · rename_i hj
        subst hj
        split at e
        · exact ⟨ds, e⟩
        · cases e
      · exact ih.1 j ds e
    · show (setE (backE old env r) p.2 (getE old p.2)).length = _
      rw [setE_len]
      exact ih.2
theorem shp_backL : ∀ {rs as : List AV} {env env0 : AEnv}, (∀ j, j ∈ lent rs → ∃ ds, getE env0 j = some (.o ds)) → Shp env0 env → Shp env0 (backL env rs as)
  | [], as, env, _, _, h => by cases as <;> exact h
  | .d _ :: rs, [], env, _, _, h => h
  | .o _ :: rs, [], env, _, _, h => h
  | .b _ :: rs, [], env, _, _, h => h
  | .d _ :: rs, a :: as, env, env0, hl, h => shp_backL (rs := rs) (as := as) (env := env) hl h
  | .o _ :: rs, a :: as, env, env0, hl, h => shp_backL (rs := rs) (as := as) (env := env) hl h
  | .b j :: rs, .d x :: as, env, env0, hl, h => shp_backL (rs := rs) (as := as) (env := env) (fun j' hj => hl j' (List.mem_cons_of_mem _ hj)) h
  | .b j :: rs, .b x :: as, env, env0, hl, h => shp_backL (rs := rs) (as := as) (env := env) (fun j' hj => hl j' (List.mem_cons_of_mem _ hj)) h
  | .b j :: rs, .o ds :: as, env, env0, hl, h => by
    refine shp_backL (rs := rs) (as := as) (env := setE env j (some (.o ds))) (fun j' hj => hl j' (List.mem_cons_of_mem _ hj)) ⟨fun i xs e => ?_, by rw [setE_len]; exact h.2⟩
    rw [get_set] at e
    split at e
    · rename_i hi
      subst hi
      exact hl _ List.mem_cons_self
    · exact h.1 i xs e
theorem lend_has {env : AEnv} : ∀ {rs : List AV} {k : List AV → Prop}, lendK env rs k → ∀ j, j ∈ lent rs → ∃ ds, getE env j = some (.o ds)
  | [], _, _, j, hj => by cases hj
  | .d _ :: rs, k, q, j, hj => lend_has (rs := rs) q j hj
  | .o _ :: rs, k, q, j, hj => lend_has (rs := rs) q j hj
  | .b m :: rs, k, q, j, hj => by
    unfold lendK at q
    split at q
    · rename_i ds hg
      rcases List.mem_cons.mp hj with z | z
      · exact ⟨ds, by rw [z]; exact hg⟩
      · exact lend_has q j z
    · exact q.elim
theorem callK_shp {sp : ASp} {vs : List AV} {env : AEnv} {Q : AV → AEnv → Prop} {X : XQ} (q : callK sp vs env Q X) : callK sp vs env (fun r e => Shp env e ∧ Q r e) X := by
  have hl := lend_has q.2
  refine ⟨q.1, lendK_mono (fun as q => sp.mono _ _ _ _ _ (fun r as' z => ⟨shp_backL hl .refl, z⟩) (fun _ z => z) q) q.2⟩
theorem compW_shp {cond : Option Unit} {ec ee : AEnv → (AV → AEnv → Prop) → Prop} {tg : Tg} {own : List (Str × Nat)} (mc : ∀ env Q Q', (∀ r e, Q r e → Q' r e) → ec env Q → ec env Q') (me : ∀ env Q Q', (∀ r e, Q r e → Q' r e) → ee env Q → ee env Q')
    (hc : ∀ env Q, ec env Q → ec env fun r e => Shp env e ∧ Q r e) (he : ∀ env Q, ee env Q → ee env fun r e => Shp env e ∧ Q r e) :
    ∀ {items : List PyData} {env0 env : AEnv} {acc : List PyData} {Q : List PyData → AEnv → Prop}, Shp env0 env → compW cond ec ee tg own items env acc Q → compW cond ec ee tg own items env acc fun r e => Shp env0 e ∧ Q r e
  | [], _, _, _, _, h, q => ⟨h, q⟩
  | x :: xs, env0, env, acc, Q, h, q => by
    refine tgK_mono (fun env1 q => ?_) (tgK_shp q)
    obtain ⟨s1, q⟩ := q
    have s1 : Shp env0 env1 := (h.trans (shp_wipe own)).trans s1
    cases cond with
    | none => exact me _ _ _ (fun v e3 q => dataK_mono (fun y z => compW_shp mc me hc he (s1.trans q.1) z) q.2) (he _ _ q)
    | some u =>
      refine mc _ _ _ (fun c e2 q => truthK_mono (fun b z => ?_) q.2) (hc _ _ q)
      have s2 := s1.trans q.1
      cases b with
      | true =>
        rw [if_pos rfl] at z ⊢
        exact me _ _ _ (fun v e3 q => dataK_mono (fun y z => compW_shp mc me hc he (s2.trans q.1) z) q.2) (he _ _ z)
      | false =>
        rw [if_neg Bool.false_ne_true] at z ⊢
        exact compW_shp mc me hc he s2 z
mutual
theorem wE_shp : ∀ (e : E) {env : AEnv} {Q : AV → AEnv → Prop} {X : XQ}, wE e env Q X → wE e env (fun r e' => Shp env e' ∧ Q r e') X
  | .var i, env, Q, X, q => by
    unfold wE at q ⊢
    split at q <;> first | exact ⟨.refl, q⟩ | exact q
  | .int _, _, _, _, q => ⟨.refl, q⟩
  | .bool _, _, _, _, q => ⟨.refl, q⟩
  | .none, _, _, _, q => ⟨.refl, q⟩
  | .str _, _, _, _, q => ⟨.refl, q⟩
  | .glob _ _, _, _, _, q => ⟨.refl, q⟩
  | .bin op a b, _, _, _, q => wE_mono a (fun _ _ q => wE_mono b (fun _ _ z => rdK_mono (fun _ y => rdK_mono (fun _ y => binK_mono (fun _ y => ⟨q.1.trans z.1, y⟩) y) y) z.2) (wE_shp b q.2)) (wE_shp a q)
  | .neg a, _, _, _, q => wE_mono a (fun _ _ q => by
      obtain ⟨s, q⟩ := q
      split at q
      · exact ⟨s, q⟩
      · exact q) (wE_shp a q)
  | .rep a n, _, _, _, q => wE_mono a (fun _ _ q => wE_mono n (fun _ _ z => by
      obtain ⟨s, z⟩ := z
      split at z
      · exact ⟨z.1, q.1.trans s, z.2⟩
      · exact z) (wE_shp n q.2)) (wE_shp a q)
  | .not a, _, _, _, q => wE_mono a (fun _ _ q => truthK_mono (fun _ y => ⟨q.1, y⟩) q.2) (wE_shp a q)
  | .and a b, _, _, _, q => wE_mono a (fun _ _ q => truthK_mono (fun _ y => ite_mono (fun y => wE_mono b (fun _ _ z => ⟨q.1.trans z.1, z.2⟩) (wE_shp b y)) (fun y => ⟨q.1, y⟩) y) q.2) (wE_shp a q)
  | .or a b, _, _, _, q => wE_mono a (fun _ _ q => truthK_mono (fun _ y => ite_mono (fun y => ⟨q.1, y⟩) (fun y => wE_mono b (fun _ _ z => ⟨q.1.trans z.1, z.2⟩) (wE_shp b y)) y) q.2) (wE_shp a q)
  | .cmp op a b, _, _, _, q => wE_mono a (fun _ _ q => wE_mono b (fun _ _ z => rdK_mono (fun _ y => rdK_mono (fun _ y => cmpK_mono (fun _ y => ⟨q.1.trans z.1, y⟩) y) y) z.2) (wE_shp b q.2)) (wE_shp a q)
  | .chain o1 o2 a b c, _, _, _, q => wE_mono a (fun _ _ q => wE_mono b (fun _ _ z => rdK_mono (fun _ y => rdK_mono (fun _ y => cmpK_mono (fun _ y => ite_mono (fun y => wE_mono c (fun _ _ u => rdK_mono (fun _ y => rdK_mono (fun _ y => cmpK_mono (fun _ y => ⟨(q.1.trans z.1).trans u.1, y⟩) y) y) u.2) (wE_shp c y)) (fun y => ⟨q.1.trans z.1, y⟩) y) y) y) z.2) (wE_shp b q.2)) (wE_shp a q)
  | .ife c a b, _, _, _, q => wE_mono c (fun _ _ q => truthK_mono (fun _ y => ite_mono (fun y => wE_mono a (fun _ _ z => ⟨q.1.trans z.1, z.2⟩) (wE_shp a y)) (fun y => wE_mono b (fun _ _ z => ⟨q.1.trans z.1, z.2⟩) (wE_shp b y)) y) q.2) (wE_shp c q)
  | .tup es, _, _, _, q => wEs_mono es (fun _ _ q => datasK_mono (fun _ y => ⟨q.1, y⟩) q.2) (wEs_shp es q)
  | .lst es, _, _, _, q => wEs_mono es (fun _ _ q => datasK_mono (fun _ y => ⟨q.1, y⟩) q.2) (wEs_shp es q)
  | .ix a i, _, _, _, q => wE_mono a (fun _ _ q => wE_mono i (fun _ _ z => rdK_mono (fun _ y => rdK_mono (fun _ y => ixK_mono (fun _ y => ⟨q.1.trans z.1, y⟩) y) y) z.2) (wE_shp i q.2)) (wE_shp a q)
  | .slL a lo, _, _, _, q => wE_mono a (fun _ _ q => wE_mono lo (fun _ _ z => by
      obtain ⟨s, z⟩ := z
      split at z
      · exact rdK_mono (fun _ y => slK_mono (fun _ y => ⟨q.1.trans s, y⟩) y) z
      · exact z) (wE_shp lo q.2)) (wE_shp a q)
  | .slU a lo, _, _, _, q => wE_mono a (fun _ _ q => wE_mono lo (fun _ _ z => by
      obtain ⟨s, z⟩ := z
      split at z
      · exact rdK_mono (fun _ y => slK_mono (fun _ y => ⟨q.1.trans s, y⟩) y) z
      · exact z) (wE_shp lo q.2)) (wE_shp a q)
  | .slLU a lo hi, _, _, _, q => wE_mono a (fun _ _ q => wE_mono lo (fun _ _ z => by
      obtain ⟨s, z⟩ := z
      split at z
      · refine wE_mono hi (fun _ _ y => ?_) (wE_shp hi z)
        obtain ⟨s2, y⟩ := y
        split at y
        · exact rdK_mono (fun _ y => slK_mono (fun _ y => ⟨(q.1.trans s).trans s2, y⟩) y) y
        · exact y
      · exact z) (wE_shp lo q.2)) (wE_shp a q)
  | .slRev a, _, _, _, q => wE_mono a (fun _ _ q => rdK_mono (fun _ y => by
      split at y
      · exact ⟨q.1, y⟩
      · exact y) q.2) (wE_shp a q)
  | .call _ sp es, _, _, _, q => wEs_mono es (fun _ _ q => callK_mono (fun _ _ z => ⟨q.1.trans z.1, z.2⟩) (callK_shp q.2)) (wEs_shp es q)
  | .callK _ sp ps ks es, _, _, _, q => wEs_mono es (fun _ _ q => by
      obtain ⟨s, q⟩ := q
      split at q
      · exact callK_mono (fun _ _ z => ⟨s.trans z.1, z.2⟩) (callK_shp q)
      · exact q) (wEs_shp es q)
  | .callO _ sp a, _, _, _, q => wE_mono a (fun v _ q => by
      obtain ⟨s, q⟩ := q
      split at q
      · exact sp.mono _ _ _ _ _ (fun r _ z => by
          split at z
          · exact ⟨s, z⟩
          · exact z) (fun _ z => z) q
      · exact q) (wE_shp a q)
  | .bi f es, _, _, _, q => wEs_mono es (fun _ _ q => rdsK_mono (fun _ y => biK_mono (fun _ y => ⟨q.1, y⟩) y) q.2) (wEs_shp es q)
  | .inst a ts, _, _, _, q => wE_mono a (fun _ _ q => rdK_mono (fun _ y => ⟨q.1, y⟩) q.2) (wE_shp a q)
  | .lrg1 a, _, _, _, q => wE_mono a (fun _ _ q => by
      obtain ⟨s, q⟩ := q
      split at q
      · exact ⟨q.1, s, q.2⟩
      · exact q) (wE_shp a q)
  | .lrg2 a b, _, _, _, q => wE_mono a (fun _ _ q => wE_mono b (fun _ _ z => by
      obtain ⟨s, z⟩ := z
      split at z
      · exact ⟨z.1, q.1.trans s, z.2⟩
      · exact z) (wE_shp b q.2)) (wE_shp a q)
  | .lrg3 a b c, _, _, _, q => wE_mono a (fun _ _ q => wE_mono b (fun _ _ z => by
      obtain ⟨s1, z⟩ := z
      refine wE_mono c (fun _ _ y => ?_) (wE_shp c z)
      obtain ⟨s, y⟩ := y
      split at y
      · exact ⟨y.1, (q.1.trans s1).trans s, y.2⟩
      · exact y) (wE_shp b q.2)) (wE_shp a q)
  | .pop j i, env, Q, X, q => by
    unfold wE at q ⊢
    split at q
    · refine wE_mono i (fun _ _ z => ?_) (wE_shp i q)
      obtain ⟨s, z⟩ := z
      split at z
      · rename_i hg
        exact popK_mono (fun _ _ y => ⟨s.trans (.put hg), y⟩) z
      · exact z
    · exact q
  | .comp elt cond c tg it own, env, Q, X, q => by
    unfold wE at q ⊢
    refine wIt_mono it (fun items e1 q => ⟨q.2.1, ?_⟩) (wIt_shp it q)
    obtain ⟨s1, no, q⟩ := q
    refine compW_mono (ec := fun e q => wE c e q X) (ee := fun e q => wE elt e q X) (fun env Q Q' h q => wE_mono c h q) (fun env Q Q' h q => wE_mono elt h q) (fun r e z => ⟨?_, z.2⟩)
      (compW_shp (ec := fun e q => wE c e q X) (ee := fun e q => wE elt e q X) (fun env Q Q' h q => wE_mono c h q) (fun env Q Q' h q => wE_mono elt h q) (fun env Q q => wE_shp c q) (fun env Q q => wE_shp elt q) (env0 := e1) .refl q)
    exact s1.trans (shp_back z.1 own)
theorem wEs_shp : ∀ (es : Es) {env : AEnv} {Q : List AV → AEnv → Prop} {X : XQ}, wEs es env Q X → wEs es env (fun r e' => Shp env e' ∧ Q r e') X
  | .nil, _, _, _, q => ⟨.refl, q⟩
  | .cons e es, _, _, _, q => wE_mono e (fun _ _ q => wEs_mono es (fun _ _ z => ⟨q.1.trans z.1, z.2⟩) (wEs_shp es q.2)) (wE_shp e q)
theorem wIt_shp : ∀ (it : It) {env : AEnv} {Q : List PyData → AEnv → Prop} {X : XQ}, wIt it env Q X → wIt it env (fun r e' => Shp env e' ∧ Q r e') X
  | .seq e, _, _, _, q => wE_mono e (fun _ _ q => seqK_mono (fun _ y => ⟨q.1, y⟩) q.2) (wE_shp e q)
  | .range1 a, _, _, _, q => wE_mono a (fun _ _ q => by
      obtain ⟨s, q⟩ := q
      split at q
      · exact ⟨q.1, s, q.2⟩
      · exact q) (wE_shp a q)
  | .range2 a b, _, _, _, q => wE_mono a (fun _ _ q => wE_mono b (fun _ _ z => by
      obtain ⟨s, z⟩ := z
      split at z
      · exact ⟨z.1, q.1.trans s, z.2⟩
      · exact z) (wE_shp b q.2)) (wE_shp a q)
  | .range3 a b c, _, _, _, q => wE_mono a (fun _ _ q => wE_mono b (fun _ _ z => by
      obtain ⟨s1, z⟩ := z
      refine wE_mono c (fun _ _ y => ?_) (wE_shp c z)
      obtain ⟨s, y⟩ := y
      split at y
      · exact ⟨y.1, (q.1.trans s1).trans s, y.2⟩
      · exact y) (wE_shp b q.2)) (wE_shp a q)
  | .enum e, _, _, _, q => wE_mono e (fun _ _ q => lstK_mono (fun _ y => ⟨q.1, y⟩) q.2) (wE_shp e q)
  | .zip a b, _, _, _, q => wE_mono a (fun _ _ q => wE_mono b (fun _ _ z => lstK_mono (fun _ y => lstK_mono (fun _ y => ⟨q.1.trans z.1, y⟩) y) z.2) (wE_shp b q.2)) (wE_shp a q)
end
end PF

set_option maxRecDepth 100000
set_option maxHeartbeats 4000000
namespace PF
open PySem PySem.Spec PyProof.Rows L2
/-! ### where one stands -/
structure Sc where
  N : List Str
  sc : Scope
  fn : Str → Bool
  R : List Nat
structure Good (Z : Sc) (k : Nat) (X : Cx) : Prop where
  hN : X.N = Z.N
  nd : Z.N.Nodup
  sc : X.env.scope = Z.sc
  kind : Z.sc.kind = .function
  fn : ∀ x, Z.fn x = true → X.fn x = true
  calm : X.calm = true
  room : Room k X.A
  guards : X.A.guards = some []
  xe : X.xe = fun _ _ => False
/-! ### owned lists come and go -/
def Ext (O : List Addr) (H : Hp) (O' : List Addr) (H' : Hp) : Prop := Chg O H H' ∧ ∀ p ∈ O', p ∈ O ∨ H p = none
theorem Ext.refl {O : List Addr} {H : Hp} : Ext O H O H := ⟨.refl, fun _ h => .inl h⟩
theorem Ext.of {O : List Addr} {H H' : Hp} (c : Chg O H H') : Ext O H O H' := ⟨c, fun _ h => .inl h⟩
theorem Ext.trans {O O1 O2 : List Addr} {H H1 H2 : Hp} (a : Ext O H O1 H1) (b : Ext O1 H1 O2 H2) : Ext O H O2 H2 := by
  have nin : ∀ p o, H p = some o → p ∉ O → p ∉ O1 := fun p o h n z => by
    rcases a.2 p z with q | q
    · exact n q
    · rw [q] at h; cases h
  refine ⟨fun p o h n => b.1 p o (a.1 p o h n) (nin p o h n), fun p hp => ?_⟩
  rcases b.2 p hp with q | q
  · exact a.2 p q
  · by_cases hO : p ∈ O
    · exact .inl hO
    · refine .inr ?_
      cases z : H p with
      | none => rfl
      | some o => rw [a.1 p o z hO] at q; cases q
theorem Ext.wo {O O' : List Addr} {H H' : Hp} (e : Ext O H O' H') : Same (Wo H O) (Wo H' O') := fun a o h => by
  obtain ⟨n, h⟩ := wo_some h
  have n' : a ∉ O' := fun z => by
    rcases e.2 a z with q | q
    · exact n q
    · rw [q] at h; cases h
  rw [wo_out n']
  exact e.1 a o h n
section
variable {K : PySem.W.Frag} {F : Fi} {O : List Addr} {H H' : Hp} {σ : L2.St} {env : AEnv}
theorem EnvOk.setD (e : EnvOk K F O H σ env) {i : Nat} {v : V} {x : PyData} (hi : ∀ p, F.par i ≠ some p) (hx : Dp K (Wo H O) v x) : EnvOk K F O H (σ.set i (some v)) (setE env i (some (.d x))) := by
  have gs : ∀ j, j ≠ i → (σ.set i (some v))[j]? = σ[j]? := fun j hj => List.getElem?_set_ne (Ne.symm hj)
  have ge : ∀ j w, getE (setE env i (some (.d x))) j = some w → (j = i ∧ i < env.length ∧ w = .d x) ∨ (j ≠ i ∧ getE env j = some w) := fun j w q => by
    rw [get_set] at q
    split at q
    · split at q
      · cases q; exact .inl ⟨by assumption, by assumption, rfl⟩
      · cases q
    · exact .inr ⟨by assumption, q⟩
  have go : ∀ j ds, getE (setE env i (some (.d x))) j = some (.o ds) → j ≠ i ∧ getE env j = some (.o ds) := fun j ds q => by
    rcases ge j _ q with ⟨_, _, z⟩ | z
    · cases z
    · exact z
  refine ⟨by rw [List.length_set, setE_len]; exact e.len, fun j y q => ?_, fun j ds q => ?_, fun j m q => ?_, fun j m ds ds' p q1 q2 r1 r2 => ?_, e.live, e.sub, e.new, e.keep, fun j ds p q r => ?_, fun j p q => ?_⟩
  · rcases ge j _ q with ⟨h1, h2, h3⟩ | ⟨h1, h2⟩
    · cases h3
      exact ⟨v, by rw [h1, List.getElem?_set_self (by rw [e.len]; exact h2)], hx⟩
    · rw [gs j h1]
      exact e.dat j y h2
  · obtain ⟨h1, h2⟩ := go j ds q
    rw [gs j h1]
    exact e.own j ds h2
  · rcases ge j _ q with ⟨h1, h2, h3⟩ | ⟨h1, h2⟩
    · cases h3
    · exact e.nob j m h2
  · obtain ⟨h1, h2⟩ := go j ds q1
    obtain ⟨h3, h4⟩ := go m ds' q2
    rw [gs j h1] at r1
    rw [gs m h3] at r2
    exact e.inj j m ds ds' p h2 h4 r1 r2
  · obtain ⟨h1, h2⟩ := go j ds q
    rw [gs j h1] at r
    exact e.ownF j ds p h2 r
  · have hj : j ≠ i := fun z => by subst z; exact hi p q
    rw [gs j hj, get_set_ne hj]
    exact e.par j p q
/-- a slot gets a new list -/
theorem EnvOk.setO (e : EnvOk K F O H σ env) {i : Nat} {p : Addr} {vs : List V} {ds : List PyData} (hi : ∀ a, F.par i ≠ some a) (hf : F.H0 p = none) (hO : p ∉ O) (hp : H p = some (.lst vs)) (hd : DpAll K (Wo H (p :: O)) vs ds)
    (hq : Same (Wo H O) (Wo H (p :: O)) ∨ True) (dat : ∀ j x, getE env j = some (.d x) → ∃ v, σ[j]? = some (some v) ∧ Dp K (Wo H (p :: O)) v x) (own : ∀ j xs, getE env j = some (.o xs) → ∃ a us, σ[j]? = some (some (.ref a)) ∧ a ∈ O ∧ H a = some (.lst us) ∧ DpAll K (Wo H (p :: O)) us xs) :
    EnvOk K F (p :: O) H (σ.set i (some (.ref p))) (setE env i (some (.o ds))) := by
  have gs : ∀ j, j ≠ i → (σ.set i (some (V.ref p)))[j]? = σ[j]? := fun j hj => List.getElem?_set_ne (Ne.symm hj)
  have ge : ∀ j w, getE (setE env i (some (.o ds))) j = some w → (j = i ∧ i < env.length ∧ w = .o ds) ∨ (j ≠ i ∧ getE env j = some w) := fun j w q => by
    rw [get_set] at q
    split at q
    · split at q
      · cases q; exact .inl ⟨by assumption, by assumption, rfl⟩
      · cases q
    · exact .inr ⟨by assumption, q⟩
  have si : i < env.length → (σ.set i (some (V.ref p)))[i]? = some (some (.ref p)) := fun h => List.getElem?_set_self (by rw [e.len]; exact h)
  have neq : ∀ j xs a, getE env j = some (.o xs) → σ[j]? = some (some (.ref a)) → a ≠ p := fun j xs a q r z => by
    obtain ⟨a', us, g1, g2, _⟩ := own j xs q
    rw [r] at g1; cases g1
    subst z
    exact hO g2
  refine ⟨by rw [List.length_set, setE_len]; exact e.len, fun j y q => ?_, fun j xs q => ?_, fun j m q => ?_, fun j m xs ys a q1 q2 r1 r2 => ?_, fun a ha z => ?_, fun a ha => List.mem_cons_of_mem _ (e.sub a ha), fun a ha => ?_, e.keep, fun j xs a q r => ?_, fun j a q => ?_⟩
  · rcases ge j _ q with ⟨h1, h2, h3⟩ | ⟨h1, h2⟩
    · cases h3
    · rw [gs j h1]
      exact dat j y h2
  · rcases ge j _ q with ⟨h1, h2, h3⟩ | ⟨h1, h2⟩
    · cases h3
      subst h1
      exact ⟨p, vs, si h2, List.mem_cons_self, hp, hd⟩
    · rw [gs j h1]
      obtain ⟨a, us, g1, g2, g3⟩ := own j xs h2
      exact ⟨a, us, g1, List.mem_cons_of_mem _ g2, g3⟩
  · rcases ge j _ q with ⟨h1, h2, h3⟩ | ⟨h1, h2⟩
    · cases h3
    · exact e.nob j m h2
  · rcases ge j _ q1 with ⟨h1, h2, h3⟩ | ⟨h1, h2⟩ <;> rcases ge m _ q2 with ⟨g1, g2, g3⟩ | ⟨g1, g2⟩
    · rw [h1, g1]
    · rw [h1, si h2] at r1; cases r1
      rw [gs m g1] at r2
      exact absurd rfl (neq m ys _ g2 r2)
    · rw [g1, si g2] at r2; cases r2
      rw [gs j h1] at r1
      exact absurd rfl (neq j xs _ h2 r1)
    · rw [gs j h1] at r1
      rw [gs m g1] at r2
      exact e.inj j m _ _ _ h2 g2 r1 r2
  · rcases List.mem_cons.mp ha with h | h
    · subst h; rw [hp] at z; cases z
    · exact e.live a h z
  · rcases List.mem_cons.mp ha with h | h
    · subst h; exact .inr hf
    · exact e.new a h
  · rcases ge j _ q with ⟨h1, h2, h3⟩ | ⟨h1, h2⟩
    · rw [h1, si h2] at r; cases r
      exact .inr hf
    · rw [gs j h1] at r
      exact e.ownF j xs a h2 r
  · have hj : j ≠ i := fun z => by subst z; exact hi a q
    rw [gs j hj, get_set_ne hj]
    exact e.par j a q
/-- the same, from an answer -/
theorem EnvOk.take (e0 : EnvOk K F O H σ env) {env1 : AEnv} (e : EnvOk K F O H' σ env1) (c : Chg O H H') {i : Nat} {p : Addr} {vs : List V} {ds : List PyData} (hi : ∀ a, F.par i ≠ some a) (hf : H p = none) (hO : p ∉ O) (hp : H' p = some (.lst vs)) (hd : DpAll K (Wo H' (p :: O)) vs ds)
    (dat : ∀ j x, getE env1 j = some (.d x) → ∃ v, σ[j]? = some (some v) ∧ Dp K (Wo H' (p :: O)) v x) (own : ∀ j xs, getE env1 j = some (.o xs) → ∃ a us, σ[j]? = some (some (.ref a)) ∧ a ∈ O ∧ H' a = some (.lst us) ∧ DpAll K (Wo H' (p :: O)) us xs) :
    EnvOk K F (p :: O) H' (σ.set i (some (.ref p))) (setE env1 i (some (.o ds))) :=
  e.setO hi (e0.fresh0 hf) hO hp hd (.inr trivial) dat own
end
end PF

set_option maxRecDepth 100000
set_option maxHeartbeats 4000000
namespace PF
open PySem PySem.Spec PyProof.Rows L2
/-! ### what is walked -/
def Wk (K : PySem.W.Frag) (O : List Addr) (H : Hp) (J : L2.It) (items : List PyData) : Prop := ∀ O' H', Ext O H O' H' → (∀ p ∈ O', H' p ≠ none) → ∀ i : Nat,
  (∀ d, items[i]? = some d → J.go i H' ∧ ∀ x H'', J.yld i H' x H'' → Same H' H'' ∧ Dp K (Wo H'' O') x d) ∧ (items.length ≤ i → J.stop i H')
def TIof (K : PySem.W.Frag) (it : PF.It) : TI := fun σ H R => ∃ (F : Fi) (O : List Addr) (env : AEnv), EnvOk K F O H σ env ∧ wIt it env (fun items env' => ∀ J H', EnvOk K F O H' σ env' → Chg O H H' → Wk K O H' J items → items.length ≤ sizeLine → R J H') X0
section
variable {K : PySem.W.Frag} {O : List Addr} {H : Hp}
theorem wk_list {a : Addr} {vs : List V} {xs : List PyData} (h : SqL K (Wo H O) a vs) (d : DpAll K (Wo H O) vs xs) : Wk K O H (Itl K a) xs := by
  intro O' H' e lv i
  have hs : SqL K H' a vs := wo_all.seq (e.wo.seq h)
  have hd := dps_mono e.wo d
  refine ⟨fun x hx => ?_, fun hi => ⟨vs, hs, by rw [dps_len d]; exact hi⟩⟩
  obtain ⟨v, hv, hp⟩ := dps_get hd hx
  refine ⟨⟨vs, v, hs, hv⟩, fun y H'' hy => ?_⟩
  obtain ⟨rfl, hy⟩ := hy
  have := hy vs hs
  rw [hv] at this; cases this
  exact ⟨Same.refl _, hp⟩
theorem wk_tup {a : Addr} {vs : List V} {xs : List PyData} (h : SqT K (Wo H O) a vs) (d : DpAll K (Wo H O) vs xs) : Wk K O H (Itt K a) xs := by
  intro O' H' e lv i
  have hs : SqT K H' a vs := sq_t wo_all (sq_t e.wo h)
  have hd := dps_mono e.wo d
  refine ⟨fun x hx => ?_, fun hi => ⟨vs, hs, by rw [dps_len d]; exact hi⟩⟩
  obtain ⟨v, hv, hp⟩ := dps_get hd hx
  refine ⟨⟨vs, v, hs, hv⟩, fun y H'' hy => ?_⟩
  obtain ⟨rfl, hy⟩ := hy
  have := hy vs hs
  rw [hv] at this; cases this
  exact ⟨Same.refl _, hp⟩
theorem range_get {lo hi : Int} {i : Nat} {d : PyData} (h : (rangeL lo hi)[i]? = some d) : i < (hi - lo).toNat ∧ d = .int (lo + (i : Int)) := by
  unfold rangeL at h
  rw [List.getElem?_map] at h
  cases q : (List.range (hi - lo).toNat)[i]? with
  | none => rw [q] at h; cases h
  | some j =>
    rw [q] at h
    obtain ⟨h1, h2⟩ := List.getElem?_eq_some_iff.mp q
    rw [List.getElem_range] at h2
    subst h2
    cases h
    exact ⟨by simpa using h1, rfl⟩
theorem range_len (lo hi : Int) : (rangeL lo hi).length = (hi - lo).toNat := by simp [rangeL]
theorem wk_range {lo hi : Int} : Wk K O H (Itr lo (hi - lo).toNat) (rangeL lo hi) := by
  intro O' H' e lv i
  refine ⟨fun x hx => ?_, fun hi => by rw [range_len] at hi; exact hi⟩
  obtain ⟨h1, rfl⟩ := range_get hx
  refine ⟨h1, fun y H'' hy => ?_⟩
  obtain ⟨rfl, rfl⟩ := hy
  exact ⟨Same.refl _, .int _⟩
theorem enum_get : ∀ {xs : List PyData} {k i : Nat} {d : PyData}, (enumL k xs)[i]? = some d → ∃ x, xs[i]? = some x ∧ d = .tuple [.int ((k + i : Nat) : Int), x]
  | [], _, _, _, h => by simp [enumL] at h
  | x :: xs, k, 0, d, h => by
    simp [enumL] at h
    exact ⟨x, rfl, by rw [← h]; rfl⟩
  | x :: xs, k, i + 1, d, h => by
    obtain ⟨y, h1, h2⟩ := enum_get (xs := xs) (k := k + 1) (i := i) (d := d) (by simpa [enumL] using h)
    exact ⟨y, by simpa using h1, by rw [h2]; congr 4; omega⟩
theorem enum_len : ∀ (k : Nat) (xs : List PyData), (enumL k xs).length = xs.length
  | _, [] => rfl
  | k, x :: xs => by show (enumL (k + 1) xs).length + 1 = _; rw [enum_len (k + 1) xs]; rfl
theorem wk_enum {a : Addr} {vs : List V} {xs : List PyData} (h : SqL K (Wo H O) a vs) (d : DpAll K (Wo H O) vs xs) : Wk K O H (Ite K a) (enumL 0 xs) := by
  intro O' H' e lv i
  have hs : SqL K H' a vs := wo_all.seq (e.wo.seq h)
  have hd := dps_mono e.wo d
  refine ⟨fun x hx => ?_, fun hi => ⟨vs, hs, by rw [enum_len] at hi; rw [dps_len d]; exact hi⟩⟩
  obtain ⟨y, hy, rfl⟩ := enum_get hx
  obtain ⟨v, hv, hp⟩ := dps_get hd hy
  refine ⟨⟨vs, v, hs, hv⟩, fun z H'' hz => ?_⟩
  obtain ⟨T, w, rfl, hT, rfl, hw⟩ := hz
  have := hw vs hs
  rw [hv] at this; cases this
  refine ⟨same_new hT, dp_tup (fun z => lv T z hT) hT (.cons ?_ (.cons hp .nil))⟩
  rw [Nat.zero_add]
  exact .int _
theorem zip_get : ∀ {xs ys : List PyData} {i : Nat} {d : PyData}, (zipL xs ys)[i]? = some d → ∃ x y, xs[i]? = some x ∧ ys[i]? = some y ∧ d = .tuple [x, y]
  | [], _, _, _, h => by simp [zipL] at h
  | _ :: _, [], _, _, h => by simp [zipL] at h
  | x :: xs, y :: ys, 0, d, h => by
    simp [zipL] at h
    exact ⟨x, y, rfl, rfl, h.symm⟩
  | x :: xs, y :: ys, i + 1, d, h => by
    obtain ⟨u, v, h1, h2, h3⟩ := zip_get (xs := xs) (ys := ys) (i := i) (d := d) (by simpa [zipL] using h)
    exact ⟨u, v, by simpa using h1, by simpa using h2, h3⟩
theorem zip_len : ∀ (xs ys : List PyData), (zipL xs ys).length = min xs.length ys.length
  | [], _ => by simp [zipL]
  | _ :: _, [] => by simp [zipL]
  | x :: xs, y :: ys => by simp [zipL, zip_len xs ys]
theorem wk_zip {a b : Addr} {vs us : List V} {xs ys : List PyData} (h : SqL K (Wo H O) a vs) (d : DpAll K (Wo H O) vs xs) (h2 : SqL K (Wo H O) b us) (d2 : DpAll K (Wo H O) us ys) : Wk K O H (Itz K a b) (zipL xs ys) := by
  intro O' H' e lv i
  have hs : SqL K H' a vs := wo_all.seq (e.wo.seq h)
  have hs2 : SqL K H' b us := wo_all.seq (e.wo.seq h2)
  have hd := dps_mono e.wo d
  have hd2 := dps_mono e.wo d2
  refine ⟨fun x hx => ?_, fun hi => ⟨vs, us, hs, hs2, by rw [zip_len] at hi; rw [dps_len d, dps_len d2]; omega⟩⟩
  obtain ⟨y, z, hy, hz, rfl⟩ := zip_get hx
  obtain ⟨v, hv, hp⟩ := dps_get hd hy
  obtain ⟨u, hu, hp2⟩ := dps_get hd2 hz
  refine ⟨⟨vs, us, v, u, hs, hs2, hv, hu⟩, fun q H'' hq => ?_⟩
  obtain ⟨T, w, w2, rfl, hT, rfl, hw, hw2⟩ := hq
  have := hw vs hs
  rw [hv] at this; cases this
  have := hw2 us hs2
  rw [hu] at this; cases this
  exact ⟨same_new hT, dp_tup (fun z => lv T z hT) hT (.cons hp (.cons hp2 .nil))⟩
end
/-! ### an answer as a list that is walked -/
section
variable {K : PySem.W.Frag} {F : Fi} {O : List Addr} {H0 H : Hp} {σ : L2.St} {env : AEnv} {v : V} {r : AV}
theorem res_lst {k : List PyData → Prop} (h : Res K O H0 H σ v r) (q : lstK r k) : ∃ xs a vs, k xs ∧ v = .ref a ∧ SqL K (Wo H O) a vs ∧ DpAll K (Wo H O) vs xs := by
  unfold lstK at q
  split at q
  · cases (show Dp K (Wo H O) v _ from h) with
    | lst h1 h2 => exact ⟨_, _, _, q, rfl, h1, h2⟩
  · obtain ⟨p, vs, rfl, n, no, hp, hd⟩ := h
    exact ⟨_, p, vs, q, rfl, .inl (.inl (by rw [wo_out no]; exact hp)), dps_mono wo_cons hd⟩
  · exact q.elim
theorem res_seq {k : List PyData → Prop} (h : Res K O H0 H σ v r) (q : seqK r k) : ∃ xs a vs, k xs ∧ v = .ref a ∧ (SqL K (Wo H O) a vs ∨ SqT K (Wo H O) a vs) ∧ DpAll K (Wo H O) vs xs := by
  unfold seqK at q
  split at q
  · cases (show Dp K (Wo H O) v _ from h) with
    | lst h1 h2 => exact ⟨_, _, _, q, rfl, .inl h1, h2⟩
  · cases (show Dp K (Wo H O) v _ from h) with
    | tup h1 h2 => exact ⟨_, _, _, q, rfl, .inr h1, h2⟩
  · obtain ⟨p, vs, rfl, n, no, hp, hd⟩ := h
    exact ⟨_, p, vs, q, rfl, .inl (.inl (.inl (by rw [wo_out no]; exact hp))), dps_mono wo_cons hd⟩
  · exact q.elim
end
section
variable {X : Cx} {F : Fi} {tg : Expr} {ea eb : E} {p pos : Pos}
theorem pi_weak {it : Expr} {w w' : TI} (h : PI X tg it w) (hw : ∀ σ H R, w' σ H R → w σ H R) : PI X tg it w' := ⟨fun pins s σ H R I q => h.run pins s σ H R I (hw σ H R q)⟩
theorem pa_sz {es : List Expr} {t : TA} (h : PA X es t) : PA X es fun σ H Q => t σ H fun vs H1 => (∀ v ∈ vs, ∀ a xs, v = .ref a → SqL X.K H1 a xs → xs.length ≤ sizeLine) → Q vs H1 := ⟨fun pos pins s σ H Q I q => by
  refine thn (h.run pos pins s σ H _ I q) ?_
  rintro us s1 ⟨vs, H1, I1, rv, q⟩
  refine ⟨vs, H1, I1, rv, q fun v hv a xs e hs => ?_⟩
  obtain ⟨_, _, _, hz⟩ := I1.list hs
  exact hz⟩
/-- an iterator over a list, over a tuple -/
theorem it_of {pins : List (Addr × Obj)} {σ : L2.St} {H : Hp} {s : Shared} {R : L2.It → Hp → Prop} {J : L2.It} {tn : Nat → Heap → Prop} {oi : Obj} (I : Inv X pins σ H s) (T : Turn X.prog X.w X.K tg J [s.heap.objs.size] s.heap.objs.size tn) (h0 : tn 0 (s.heap.push oi)) (q : R J H) :
    PIE X pins σ tg R (.ref s.heap.objs.size) { s with heap := s.heap.push oi } := by
  have I' : Inv X pins σ H { s with heap := s.heap.push oi } := I.kept (t' := s.toks) fun b o e => Heap.get?_push_of_some _ e
  refine ⟨_, _, tn, J, H, rfl, I', T, h0, ?_, q⟩
  intro b hb
  rw [List.mem_singleton] at hb
  subst hb
  exact I.fpOk (Nat.le_refl _) (I.hok.fresh (Nat.le_refl _))
theorem ti_seq {e : Expr} (he : PE X e (TEof X.K ea)) : PI X tg e (TIof X.K (.seq ea)) := by
  refine ⟨fun pins s σ H R I h => ?_⟩
  obtain ⟨F, O, env, eo, hw⟩ := h
  have key := he.run pins s σ H (fun v H1 => ∃ xs a vs, v = .ref a ∧ (SqL X.K (Wo H1 O) a vs ∨ SqT X.K (Wo H1 O) a vs) ∧ DpAll X.K (Wo H1 O) vs xs ∧ ∀ J, Wk X.K O H1 J xs → xs.length ≤ sizeLine → R J H1) I
    (te_then eo hw fun r1 env1 v1 H1 q1 e1 c1 s1 a1 => by
      obtain ⟨xs, a, vs, q, h1, h2, h3⟩ := res_seq s1 q1
      exact ⟨xs, a, vs, h1, h2, h3, fun J hJ hl => q J H1 e1 c1 hJ hl⟩)
  refine thn key ?_
  rintro v s1 ⟨y, H1, I1, ry, xs, a, vs, rfl, hs, hd, q⟩
  cases ry
  rcases hs with hs | hs
  · obtain ⟨its, rv, pl, hz⟩ := I1.list (wo_all.seq hs)
    have hl : xs.length ≤ sizeLine := by rw [← dps_len hd]; exact hz
    refine wpAny_pyIter_list pl.isList ?_
    exact it_of I1 (turn_list a _) ⟨_, Heap.get?_push_size _ rfl, rfl, rfl⟩ (q _ (wk_list hs hd) hl)
  · obtain ⟨its, rv, pl, hz⟩ := I1.tuple (sq_t wo_all hs)
    have hl : xs.length ≤ sizeLine := by rw [← dps_len hd]; exact hz
    refine wpAny_pyIter_tuple (show s1.heap.IsTuple a its.toArray from pl) ?_
    exact it_of I1 (turn_tuple a _) ⟨_, Heap.get?_push_size _ rfl, rfl, rfl⟩ (q _ (wk_tup hs hd) hl)
theorem ti_range1 {a : Expr} (hg : Gl X "range") (hm : X.mg "range" = none) (ha : PE X a (TEof X.K ea)) (hs : starEach [a] X.env = [(false, eval a X.env)]) : PI X tg (.Call (.Name "range" p) [a] [] pos) (TIof X.K (.range1 ea)) :=
  pi_weak (pi_range1 hg hm (pa_cons ha pa_nil hs) hs) fun σ H R ⟨F, O, env, eo, hw⟩ => te_then eo hw fun r1 env1 v1 H1 q1 e1 c1 s1 a1 => by
    split at q1
    · rename_i n
      cases (show Dp X.K _ v1 (.int _) from s1)
      obtain ⟨⟨_, _, h1, h2, h3⟩, q⟩ := q1
      have hl : (rangeL 0 n).length ≤ sizeLine := by rw [range_len]; omega
      refine ⟨n, rfl, by omega, by omega, ?_⟩
      · have := q (Itr 0 (n - 0).toNat) H1 e1 c1 wk_range hl
        rw [Int.sub_zero] at this
        exact this
    · exact q1.elim
theorem ti_range2 {a b : Expr} (hg : Gl X "range") (hm : X.mg "range" = none) (ha : PE X a (TEof X.K ea)) (hb : PE X b (TEof X.K eb)) (hs : starEach [a, b] X.env = [(false, eval a X.env), (false, eval b X.env)]) (hs2 : starEach [b] X.env = [(false, eval b X.env)]) : PI X tg (.Call (.Name "range" p) [a, b] [] pos) (TIof X.K (.range2 ea eb)) :=
  pi_weak (pi_range2 hg hm (pa_cons ha (pa_cons hb pa_nil hs2) (by rw [hs, hs2])) hs hs2) fun σ H R ⟨F, O, env, eo, hw⟩ => te_then eo hw fun r1 env1 v1 H1 q1 e1 c1 s1 a1 => te_then e1 q1 fun r2 env2 v2 H2 q2 e2 c2 s2 a2 => by
    split at q2
    · rename_i m n
      cases (show Dp X.K _ v1 (.int _) from s1)
      cases (show Dp X.K _ v2 (.int _) from s2)
      obtain ⟨⟨h1, h2, h3, h4, h5⟩, q⟩ := q2
      have hl : (rangeL m n).length ≤ sizeLine := by rw [range_len]; omega
      exact ⟨m, n, rfl, ⟨by omega, by omega, by omega, by omega⟩, q (Itr m (n - m).toNat) H2 e2 (c1.trans c2) wk_range hl⟩
    · exact q2.elim
theorem ti_enum {e : Expr} {elts : List Expr} {kk : Nat} {tpos : Pos} (hg : Gl X "enumerate") (hm : X.mg "enumerate" = none) (he : PE X e (TEof X.K ea)) (hs : starEach [e] X.env = [(false, eval e X.env)]) : PI X (.Tuple elts kk tpos) (.Call (.Name "enumerate" p) [e] [] pos) (TIof X.K (.enum ea)) :=
  pi_weak (pi_enum hg hm (pa_sz (pa_cons he pa_nil hs)) hs) fun σ H R ⟨F, O, env, eo, hw⟩ => te_then eo hw fun r1 env1 v1 H1 q1 e1 c1 s1 a1 => by
    obtain ⟨xs, a, vs, q, rfl, h2, h3⟩ := res_lst s1 q1
    intro sz
    have hl := sz _ List.mem_cons_self a vs rfl (wo_all.seq h2)
    exact ⟨a, vs, rfl, wo_all.seq h2, q _ H1 e1 c1 (wk_enum h2 h3) (by rw [enum_len, ← dps_len h3]; exact hl)⟩
theorem ti_zip {e e2 : Expr} {elts : List Expr} {kk : Nat} {tpos : Pos} (hg : Gl X "zip") (hm : X.mg "zip" = none) (he : PE X e (TEof X.K ea)) (he2 : PE X e2 (TEof X.K eb)) (hs : starEach [e, e2] X.env = (false, eval e X.env) :: starEach [e2] X.env) (hs2 : starEach [e2] X.env = [(false, eval e2 X.env)]) (hpl : (backTo pos (starEach [e2] X.env)).any (·.1) = false) :
    PI X (.Tuple elts kk tpos) (.Call (.Name "zip" p) [e, e2] [] pos) (TIof X.K (.zip ea eb)) :=
  pi_weak (pi_zip hg hm (pa_sz (pa_cons he (pa_cons he2 pa_nil hs2) hs)) hs hpl) fun σ H R ⟨F, O, env, eo, hw⟩ => te_then eo hw fun r1 env1 v1 H1 q1 e1 c1 s1 a1 => te_then e1 q1 fun r2 env2 v2 H2 q2 e2 c2 s2 a2 => by
    obtain ⟨xs, a, vs, q, rfl, h2, h3⟩ := res_lst (s1.chg c2) q2
    obtain ⟨ys, b, us, q, rfl, g2, g3⟩ := res_lst s2 q
    intro sz
    have hl := sz _ List.mem_cons_self a vs rfl (wo_all.seq h2)
    exact ⟨a, b, vs, us, rfl, wo_all.seq h2, wo_all.seq g2, q _ H2 e2 (c1.trans c2) (wk_zip h2 h3 g2 g3) (by rw [zip_len, ← dps_len h3, ← dps_len g3]; omega)⟩
/-! ### targets -/
def gsOf : List Nat → TGs
  | [] => gNil
  | i :: is => gCons (gName i) (gsOf is)
def TGof (K : PySem.W.Frag) : Tg → TG
  | .nm i => gName i
  | .tp is => gTup K is.length (gsOf is)
def tgSlots : Tg → List Nat
  | .nm i => [i]
  | .tp is => is
def setsV (σ : L2.St) : List Nat → List V → L2.St
  | i :: is, v :: vs => setsV (σ.set i (some v)) is vs
  | _, _ => σ
theorem gs_ok {K : PySem.W.Frag} {O : List Addr} {H : Hp} : ∀ {is : List Nat} {vs : List V} {xs : List PyData} {σ : L2.St} {env : AEnv} {Q : L2.St → Hp → Prop}, EnvOk K F O H σ env → DpAll K (Wo H O) vs xs → xs.length = is.length → (∀ i ∈ is, ∀ p, F.par i ≠ some p) → (EnvOk K F O H (setsV σ is vs) (setMany is xs env) → Q (setsV σ is vs) H) → gsOf is vs σ H Q
  | [], _, _, σ, env, Q, eo, .nil, _, _, k => ⟨rfl, k eo⟩
  | [], _, _, σ, env, Q, eo, .cons _ _, hl, _, k => by simp at hl
  | i :: is, _, _, σ, env, Q, eo, .nil, hl, _, k => by simp at hl
  | i :: is, v :: vs, x :: xs, σ, env, Q, eo, .cons h t, hl, hp, k =>
    ⟨v, vs, rfl, gs_ok (eo.setD (hp i List.mem_cons_self) h) t (by simpa using hl) (fun j hj => hp j (List.mem_cons_of_mem _ hj)) k⟩
/-- a target stored -/
theorem tg_ok {K : PySem.W.Frag} {O : List Addr} {H : Hp} {tg : Tg} {v : V} {x : PyData} {σ : L2.St} {env : AEnv} {k : AEnv → Prop} {Q : L2.St → Hp → Prop} (eo : EnvOk K F O H σ env) (hx : Dp K (Wo H O) v x) (hq : tgK tg x env k) (hp : ∀ i ∈ tgSlots tg, ∀ p, F.par i ≠ some p)
    (hk : ∀ vs env', (∃ ws, vs = setsV σ (tgSlots tg) ws) → k env' → EnvOk K F O H vs env' → Q vs H) : TGof K tg v σ H Q := by
  cases tg with
  | nm i => exact hk _ _ ⟨[v], rfl⟩ hq (eo.setD (hp i List.mem_cons_self) hx)
  | tp is =>
    unfold tgK at hq
    simp only at hq
    split at hq
    · obtain ⟨hl, hq⟩ := hq
      cases hx with
      | tup h t => exact ⟨_, _, rfl, sq_t wo_all h, by rw [dps_len t]; exact hl, gs_ok eo t hl hp fun e => hk _ _ ⟨_, rfl⟩ hq e⟩
    · exact hq.elim
/-! ### comprehensions -/
theorem get_wipe {env : AEnv} {j : Nat} {v : AV} : ∀ {own : List (Str × Nat)}, getE (wipeE env own) j = some v → getE env j = some v ∧ j ∉ own.map (·.2)
  | [], h => ⟨h, by simp⟩
  | p :: r, h => by
    have h : getE (setE (wipeE env r) p.2 none) j = some v := h
    rw [get_set] at h
    split at h
    · split at h <;> cases h
    · rename_i hj
      obtain ⟨h1, h2⟩ := get_wipe h
      exact ⟨h1, by simp only [List.map_cons, List.mem_cons, not_or]; exact ⟨hj, h2⟩⟩
theorem get_wipe_of {env : AEnv} {j : Nat} : ∀ {own : List (Str × Nat)}, j ∉ own.map (·.2) → getE (wipeE env own) j = getE env j
  | [], h => rfl
  | p :: r, h => by
    simp only [List.map_cons, List.mem_cons, not_or] at h
    show getE (setE (wipeE env r) p.2 none) j = _
    rw [get_set_ne h.1]
    exact get_wipe_of h.2
theorem wipe_out {σ : L2.St} {j : Nat} : ∀ {vs : List Nat}, j ∉ vs → (wipe σ vs)[j]? = σ[j]?
  | [], _ => rfl
  | v :: vs, h => by
    simp only [List.mem_cons, not_or] at h
    unfold wipe
    rw [List.getElem?_set_ne (Ne.symm h.1)]
    exact wipe_out h.2
theorem wipeE_len (env : AEnv) : ∀ own : List (Str × Nat), (wipeE env own).length = env.length
  | [] => rfl
  | p :: r => by show (setE (wipeE env r) p.2 none).length = _; rw [setE_len, wipeE_len env r]
theorem EnvOk.wipe {K : PySem.W.Frag} {O : List Addr} {H : Hp} {σ : L2.St} {env : AEnv} (e : EnvOk K F O H σ env) (own : List (Str × Nat)) (hp : ∀ i ∈ own.map (·.2), ∀ p, F.par i ≠ some p) : EnvOk K F O H (wipe σ (own.map (·.2))) (wipeE env own) where
  len := by rw [wipe_length, wipeE_len]; exact e.len
  dat := fun j x h => by
    obtain ⟨h1, h2⟩ := get_wipe h
    rw [wipe_out h2]
    exact e.dat j x h1
  own := fun j x h => by
    obtain ⟨h1, h2⟩ := get_wipe h
    rw [wipe_out h2]
    exact e.own j x h1
  nob := fun j m h => e.nob j m (get_wipe h).1
  inj := fun j m ds ds' p q1 q2 r1 r2 => by
    obtain ⟨h1, h2⟩ := get_wipe q1
    obtain ⟨h3, h4⟩ := get_wipe q2
    rw [wipe_out h2] at r1
    rw [wipe_out h4] at r2
    exact e.inj j m ds ds' p h1 h3 r1 r2
  live := e.live
  sub := e.sub
  new := e.new
  keep := e.keep
  ownF := fun j ds p q r => by
    obtain ⟨h1, h2⟩ := get_wipe q
    rw [wipe_out h2] at r
    exact e.ownF j ds p h1 r
  par := fun j p q => by
    have hj : j ∉ own.map (·.2) := fun z => hp j z p q
    rw [wipe_out hj, get_wipe_of hj]
    exact e.par j p q
/-- one more address that nobody of ours has -/
theorem EnvOk.more {K : PySem.W.Frag} {O : List Addr} {H : Hp} {σ : L2.St} {env : AEnv} (e : EnvOk K F O H σ env) {p : Addr} {o : HO} (hp : H p = none) : EnvOk K F (p :: O) (upd H p o) σ env where
  len := e.len
  dat := fun j x h => by
    obtain ⟨v, h1, h2⟩ := e.dat j x h
    exact ⟨v, h1, dp_mono (wo_new hp) h2⟩
  own := fun j x h => by
    obtain ⟨a, us, h1, h2, h3, h4⟩ := e.own j x h
    exact ⟨a, us, h1, List.mem_cons_of_mem _ h2, by rw [upd_ne (ne_of_none h3 hp)]; exact h3, dps_mono (wo_new hp) h4⟩
  nob := e.nob
  inj := e.inj
  live := fun a ha z => by
    rcases List.mem_cons.mp ha with h | h
    · subst h; rw [upd_same] at z; cases z
    · have := e.live a h
      rw [upd_ne (fun q => this (by rw [q]; exact hp))] at z
      exact this z
  sub := fun a ha => List.mem_cons_of_mem _ (e.sub a ha)
  new := fun a ha => by
    rcases List.mem_cons.mp ha with h | h
    · subst h; exact .inr (e.fresh0 hp)
    · exact e.new a h
  keep := fun a u h n => by
    have := e.keep a u h n
    rw [upd_ne (ne_of_none this hp)]
    exact this
  ownF := e.ownF
  par := e.par
/-- its list written -/
theorem EnvOk.wr {K : PySem.W.Frag} {O : List Addr} {H : Hp} {σ : L2.St} {env : AEnv} (e : EnvOk K F (p' :: O) H σ env) {o : HO} (ne : ∀ i ds a, getE env i = some (.o ds) → σ[i]? = some (some (.ref a)) → a ≠ p') (hf : F.H0 p' = none) : EnvOk K F (p' :: O) (upd H p' o) σ env := by
  have sm : Same (Wo H (p' :: O)) (Wo (upd H p' o) (p' :: O)) := fun a u h => by
    obtain ⟨n, h⟩ := wo_some h
    rw [wo_out n, upd_ne (fun z => n (by rw [z]; exact List.mem_cons_self))]
    exact h
  refine ⟨e.len, fun j x h => ?_, fun j x h => ?_, e.nob, e.inj, fun a ha z => ?_, e.sub, e.new, fun a u h n => ?_, e.ownF, e.par⟩
  · obtain ⟨v, h1, h2⟩ := e.dat j x h
    exact ⟨v, h1, dp_mono sm h2⟩
  · obtain ⟨a, us, h1, h2, h3, h4⟩ := e.own j x h
    exact ⟨a, us, h1, h2, by rw [upd_ne (ne j x a h h1)]; exact h3, dps_mono sm h4⟩
  · by_cases q : a = p'
    · subst q; rw [upd_same] at z; cases z
    · rw [upd_ne q] at z; exact e.live a ha z
  · have q : a ≠ p' := fun z => by subst z; rw [hf] at h; cases h
    rw [upd_ne q]
    exact e.keep a u h n
theorem wipe_sets {σ : L2.St} {vs : List Nat} : ∀ {is : List Nat} {ws : List V} {τ : L2.St}, (∀ i ∈ is, i ∈ vs) → wipe τ vs = wipe σ vs → wipe (setsV τ is ws) vs = wipe σ vs
  | [], _, τ, _, h => h
  | i :: is, [], τ, _, h => h
  | i :: is, w :: ws, τ, hi, h => by
    have one : ∀ (vs : List Nat) (τ : L2.St), i ∈ vs → wipe (τ.set i (some w)) vs = wipe τ vs := by
      intro vs
      induction vs with
      | nil => intro τ h; cases h
      | cons v vs ih =>
        intro τ hm
        show (wipe (τ.set i (some w)) vs).set v none = (wipe τ vs).set v none
        by_cases hv : v = i
        · subst hv
          have set_wipe : ∀ (vs : List Nat) (τ : L2.St), (wipe (τ.set v (some w)) vs).set v none = (wipe τ vs).set v none := by
            intro vs
            induction vs with
            | nil => intro τ; show (τ.set v (some w)).set v none = τ.set v none; rw [List.set_set]
            | cons u us ih =>
              intro τ
              show ((wipe (τ.set v (some w)) us).set u none).set v none = ((wipe τ us).set u none).set v none
              by_cases hu : u = v
              · subst hu; rw [List.set_set, List.set_set]; exact ih τ
              · rw [List.set_comm _ _ hu, ih τ, List.set_comm _ _ hu]
          exact set_wipe vs τ
        · rcases List.mem_cons.mp hm with z | z
          · exact absurd z.symm hv
          · rw [ih τ z]
    exact wipe_sets (is := is) (ws := ws) (τ := τ.set i (some w)) (fun j hj => hi j (List.mem_cons_of_mem _ hj)) ((one vs τ (hi i List.mem_cons_self)).trans h)
theorem wipe_wipe (σ : L2.St) (vs : List Nat) : wipe (wipe σ vs) vs = wipe σ vs := by
  have sw : ∀ (us : List Nat) (τ : L2.St) (i : Nat), (wipe (τ.set i none) us).set i none = (wipe τ us).set i none := by
    intro us
    induction us with
    | nil => intro τ i; show (τ.set i none).set i none = τ.set i none; rw [List.set_set]
    | cons u us ih =>
      intro τ i
      show ((wipe (τ.set i none) us).set u none).set i none = ((wipe τ us).set u none).set i none
      by_cases hu : u = i
      · subst hu; rw [List.set_set, List.set_set]; exact ih τ u
      · rw [List.set_comm _ _ hu, ih τ i, List.set_comm _ _ hu]
  induction vs with
  | nil => rfl
  | cons v vs ih =>
    show (wipe ((wipe σ vs).set v none) vs).set v none = (wipe σ vs).set v none
    rw [sw, ih]
theorem noOwn_ok {env : AEnv} : ∀ {own : List (Str × Nat)}, noOwn env own → ∀ i ∈ own.map (·.2), ∀ ds, getE env i ≠ some (.o ds)
  | [], _, i, hi, _ => by simp at hi
  | p :: r, h, i, hi, ds => by
    simp only [List.map_cons, List.mem_cons] at hi
    rcases hi with rfl | hi
    · intro z
      have h1 := h.1
      rw [z] at h1
      exact h1
    · exact noOwn_ok h.2 i hi ds
theorem get_back {old env : AEnv} {j : Nat} (hl : env.length = old.length) : ∀ own : List (Str × Nat), getE (backE old env own) j = if j ∈ own.map (·.2) then getE old j else getE env j
  | [] => by simp [backE]
  | p :: r => by
    have ih := get_back (j := j) hl r
    have len : ∀ r : List (Str × Nat), (backE old env r).length = old.length := by
      intro r
      induction r with
      | nil => exact hl
      | cons q r ih => show (setE (backE old env r) q.2 (getE old q.2)).length = _; rw [setE_len, ih]
    show getE (setE (backE old env r) p.2 (getE old p.2)) j = _
    rw [get_set]
    by_cases hj : j = p.2
    · subst hj
      rw [if_pos rfl, if_pos (show p.2 ∈ (p :: r).map (·.2) by simp)]
      by_cases h : p.2 < (backE old env r).length
      · rw [if_pos h]
      · rw [if_neg h]
        cases q : getE old p.2 with
        | none => rfl
        | some v => have := getE_len q; rw [len] at h; omega
    · rw [if_neg hj, ih]
      simp only [List.map_cons, List.mem_cons]
      by_cases h2 : j ∈ r.map (·.2)
      · rw [if_pos h2, if_pos (.inr h2)]
      · rw [if_neg h2, if_neg (by intro z; rcases z with z | z; exact hj z; exact h2 z)]
theorem back_len {old env : AEnv} (hl : env.length = old.length) : ∀ r : List (Str × Nat), (backE old env r).length = old.length
  | [] => hl
  | q :: r => by show (setE (backE old env r) q.2 (getE old q.2)).length = _; rw [setE_len, back_len hl r]
/-- behind a comprehension -/
theorem EnvOk.behind {K : PySem.W.Frag} {O : List Addr} {D : Addr} {H H' : Hp} {σ : L2.St} {env env' : AEnv} {own : List (Str × Nat)} (e0 : EnvOk K F O H σ env) (hD : H D = none) (e : EnvOk K F (D :: O) H' (L2.wipe σ (own.map (·.2))) (wipeE env' own)) (sh : Shp env env') (c : Chg O H H') (no : noOwn env own) :
    EnvOk K F O H' σ (backE env env' own) ∧ Av K O D H' σ (backE env env' own) := by
  have sm : Same (Wo H O) (Wo H' (D :: O)) := fun a o z => by
    obtain ⟨n, z⟩ := wo_some z
    have ne := ne_of_none z hD
    rw [wo_out (by simp only [List.mem_cons, not_or]; exact ⟨ne, n⟩)]
    exact c a o z n
  have gb := fun j => get_back (j := j) sh.2 own
  have dat : ∀ j x, getE (backE env env' own) j = some (.d x) → ∃ v, σ[j]? = some (some v) ∧ Dp K (Wo H' (D :: O)) v x := fun j x h => by
    rw [gb j] at h
    split at h
    · obtain ⟨v, h1, h2⟩ := e0.dat j x h
      exact ⟨v, h1, dp_mono sm h2⟩
    · rename_i hj
      obtain ⟨v, h1, h2⟩ := e.dat j x (by rw [get_wipe_of hj]; exact h)
      rw [wipe_out hj] at h1
      exact ⟨v, h1, h2⟩
  have ownp : ∀ j ds, getE (backE env env' own) j = some (.o ds) → j ∉ own.map (·.2) ∧ getE (wipeE env' own) j = some (.o ds) ∧ ∃ ds', getE env j = some (.o ds') := fun j ds h => by
    rw [gb j] at h
    split at h
    · rename_i hj
      exact (noOwn_ok no j hj ds h).elim
    · rename_i hj
      exact ⟨hj, by rw [get_wipe_of hj]; exact h, sh.1 j ds h⟩
  have own' : ∀ j xs, getE (backE env env' own) j = some (.o xs) → ∃ a us, σ[j]? = some (some (.ref a)) ∧ a ∈ O ∧ H' a = some (.lst us) ∧ DpAll K (Wo H' (D :: O)) us xs := fun j xs h => by
    obtain ⟨hj, h1, ds', h2⟩ := ownp j xs h
    obtain ⟨a, us, g1, g2, g3, g4⟩ := e.own j xs h1
    rw [wipe_out hj] at g1
    obtain ⟨a', us', k1, k2, k3, _⟩ := e0.own j ds' h2
    rw [g1] at k1; cases k1
    exact ⟨a, us, g1, k2, g3, g4⟩
  refine ⟨⟨by rw [back_len sh.2]; exact e0.len, fun j x h => ?_, fun j x h => ?_, fun j m h => ?_, fun j m ds ds' a q1 q2 r1 r2 => ?_, fun a ha => e.live a (List.mem_cons_of_mem _ ha), e0.sub, e0.new, e.keep, fun j ds a q r => ?_, fun j a q => ?_⟩, ⟨dat, own'⟩⟩
  · obtain ⟨v, h1, h2⟩ := dat j x h
    exact ⟨v, h1, dp_mono wo_cons h2⟩
  · obtain ⟨a, us, h1, h2, h3, h4⟩ := own' j x h
    exact ⟨a, us, h1, h2, h3, dps_mono wo_cons h4⟩
  · rw [gb j] at h
    split at h
    · exact e0.nob j m h
    · rename_i hj
      exact e.nob j m (by rw [get_wipe_of hj]; exact h)
  · obtain ⟨_, _, x1, h1⟩ := ownp j ds q1
    obtain ⟨_, _, x2, h2⟩ := ownp m ds' q2
    exact e0.inj j m _ _ a h1 h2 r1 r2
  · obtain ⟨_, _, x1, h1⟩ := ownp j ds q
    exact e0.ownF j _ a h1 r
  · obtain ⟨h1, ds, h2⟩ := e0.par j a q
    refine ⟨h1, ?_⟩
    have hj : j ∉ own.map (·.2) := fun z => noOwn_ok no j z ds h2
    obtain ⟨_, xs, h3⟩ := e.par j a q
    rw [get_wipe_of hj] at h3
    exact ⟨xs, by rw [gb j, if_neg hj]; exact h3⟩
/-! ### the entry as it is now -/
def Fi.now (O : List Addr) (H : Hp) (σ : L2.St) (env : AEnv) : Fi := ⟨O, H, fun i => match getE env i, σ[i]? with | some (.o _), some (some (.ref p)) => some p | _, _ => none⟩
theorem now_par {O : List Addr} {H : Hp} {σ : L2.St} {env : AEnv} {i : Nat} {p : Addr} : (Fi.now O H σ env).par i = some p ↔ (∃ ds, getE env i = some (.o ds)) ∧ σ[i]? = some (some (.ref p)) := by
  show (match getE env i, σ[i]? with | some (.o _), some (some (.ref p)) => some p | _, _ => none) = some p ↔ _
  constructor
  · intro h
    split at h
    · rename_i ds q h1 h2
      cases h
      exact ⟨⟨ds, h1⟩, h2⟩
    · cases h
  · rintro ⟨⟨ds, h1⟩, h2⟩
    rw [h1, h2]
theorem EnvOk.rebase {K : PySem.W.Frag} {O : List Addr} {H : Hp} {σ : L2.St} {env : AEnv} (e : EnvOk K F O H σ env) : EnvOk K (Fi.now O H σ env) O H σ env where
  len := e.len
  dat := e.dat
  own := e.own
  nob := e.nob
  inj := e.inj
  live := e.live
  sub := fun _ h => h
  new := fun _ h => .inl h
  keep := fun _ _ h _ => h
  ownF := fun i ds p h1 h2 => .inl ⟨i, now_par.mpr ⟨⟨ds, h1⟩, h2⟩⟩
  par := fun i p h => ⟨(now_par.mp h).2, (now_par.mp h).1⟩
theorem EnvOk.unbase {K : PySem.W.Frag} {O : List Addr} {H H' : Hp} {σ : L2.St} {env env' : AEnv} (e : EnvOk K F O H σ env) (e' : EnvOk K (Fi.now O H σ env) O H' σ env') (sh : Shp env env') : EnvOk K F O H' σ env' where
  len := e'.len
  dat := e'.dat
  own := e'.own
  nob := e'.nob
  inj := e'.inj
  live := e'.live
  sub := e.sub
  new := e.new
  keep := fun a o h n => e'.keep a o (e.keep a o h n) fun ⟨i, hi⟩ => by
    obtain ⟨⟨ds, h1⟩, h2⟩ := now_par.mp hi
    rcases e.ownF i ds a h1 h2 with q | q
    · exact n q
    · rw [q] at h; cases h
  ownF := fun i ds p h1 h2 => by
    obtain ⟨ds', h3⟩ := sh.1 i ds h1
    exact e.ownF i ds' p h3 h2
  par := fun i p h => by
    obtain ⟨h1, ds, h2⟩ := e.par i p h
    exact e'.par i p (now_par.mpr ⟨⟨ds, h2⟩, h1⟩)
/-- what no slot owns stays through an expression -/
theorem now_keep {K : PySem.W.Frag} {O : List Addr} {H H' : Hp} {σ : L2.St} {env env' : AEnv} (e' : EnvOk K (Fi.now O H σ env) O H' σ env') {a : Addr} {o : HO} (h : H a = some o) (n : ∀ i ds, getE env i = some (.o ds) → σ[i]? ≠ some (some (.ref a))) : H' a = some o :=
  e'.keep a o h fun ⟨i, hi⟩ => by
    obtain ⟨⟨ds, h1⟩, h2⟩ := now_par.mp hi
    exact n i ds h1 h2
def ttOf (K : PySem.W.Frag) (cond : Option Unit) (c : E) : TT := match cond with
  | none => tYes
  | some _ => TTof K c
theorem drop_get {α : Type} {xs : List α} {i : Nat} {d : α} (h : xs[i]? = some d) : xs.drop i = d :: xs.drop (i + 1) := by
  obtain ⟨h1, h2⟩ := List.getElem?_eq_some_iff.mp h
  rw [List.drop_eq_getElem_cons h1, h2]
theorem lc_red {K : PySem.W.Frag} {elt c : E} {cond : Option Unit} {tg : Tg} {it : PF.It} {own : List (Str × Nat)} {σ : L2.St} {H : Hp} {Q : VK} (hsl : ∀ i ∈ tgSlots tg, i ∈ own.map (·.2)) (h : TEof K (.comp elt cond c tg it own) σ H Q) :
    tLc (TIof K it) (TGof K tg) (ttOf K cond c) (TEof K elt) (own.map (·.2)) σ H Q := by
  obtain ⟨F, O, env, eo, hw⟩ := h
  unfold wE at hw
  refine ⟨F, O, env, eo, wIt_mono it (fun items env1 q J H1 e1 c1 wk hl D hD => ?_) hw⟩
  obtain ⟨no, q⟩ := q
  have hpar : ∀ i ∈ own.map (·.2), ∀ p, F.par i ≠ some p := fun i hi p z => by
    obtain ⟨_, ds, h2⟩ := e1.par i p z
    exact noOwn_ok no i hi ds h2
  have nO := e1.notO hD
  have fD := e1.fresh0 hD
  generalize hQf : (fun ds env2 => ∀ v H', EnvOk K F O H' σ (backE env1 env2 own) → Chg O H H' → Res K O H H' σ v (.o ds) → AvR K O H' σ (backE env1 env2 own) v (.o ds) → Q v H') = Qf at q
  have slotD : ∀ {env2 : AEnv} i ds a, Shp env1 env2 → getE (wipeE env2 own) i = some (.o ds) → (wipe σ (own.map (·.2)))[i]? = some (some (.ref a)) → a ≠ D := fun {env2} i ds a sh h1 h2 z => by
    obtain ⟨h3, h4⟩ := get_wipe h1
    obtain ⟨ds', h5⟩ := sh.1 i ds h3
    rw [wipe_out h4] at h2
    obtain ⟨p, us, g1, g2, g3, _⟩ := e1.own i ds' h5
    rw [h2] at g1; cases g1
    subst z
    rw [hD] at g3; cases g3
  refine ⟨fun i m H' => ∃ env2 acc vsa, EnvOk K F (D :: O) H' (wipe σ (own.map (·.2))) (wipeE env2 own) ∧ Shp env1 env2 ∧ H' D = some (.lst vsa) ∧ DpAll K (Wo H' (D :: O)) vsa acc ∧ acc.length ≤ i ∧ i ≤ items.length ∧ m = items.length - i ∧ Chg O H1 H' ∧
      compW cond (fun e q => wE c e q X0) (fun e q => wE elt e q X0) tg own (items.drop i) env2 acc Qf,
    ⟨items.length - 0, env1, [], [], (e1.wipe own hpar).more hD, .refl, upd_same, .nil, Nat.le_refl _, Nat.zero_le _, rfl, chg_new hD, q⟩, ?_⟩
  rintro i m H' ⟨env2, acc, vsa, e2, sh, hDl, hacc, hal, hil, rfl, c2, q⟩
  have ext : Ext O H1 (D :: O) H' := ⟨c2, fun p hp => by
    rcases List.mem_cons.mp hp with z | z
    · subst z; exact .inr hD
    · exact .inl z⟩
  have W := wk (D :: O) H' ext e2.live i
  by_cases hi : i < items.length
  · have hx : items[i]? = some items[i] := List.getElem?_eq_getElem hi
    obtain ⟨go, yl⟩ := W.1 _ hx
    rw [drop_get hx] at q
    refine .inr ⟨go, _, fun H'' z => ⟨items.length - (i + 1), by omega, z⟩, fun x H'' hy => ?_⟩
    obtain ⟨sm, dx⟩ := yl x H'' hy
    have e3 := e2.grow sm
    have c3 : Chg O H1 H'' := c2.trans fun a o h _ => sm a o h
    have hD3 : H'' D = some (.lst vsa) := sm _ _ hDl
    have hacc3 : DpAll K (Wo H'' (D :: O)) vsa acc := dps_mono (Chg.wo fun a o h _ => sm a o h) hacc
    refine tg_ok e3 dx (tgK_shp q) (fun i hi => hpar i (hsl i hi)) ?_
    rintro σ2 env3 ⟨ws, rfl⟩ ⟨sh3, q3⟩ e4
    have hwp : wipe (setsV (wipe σ (own.map (·.2))) (tgSlots tg) ws) (own.map (·.2)) = wipe σ (own.map (·.2)) := wipe_sets hsl (wipe_wipe _ _)
    refine ⟨hwp, ?_⟩
    have shA : Shp env1 env3 := (sh.trans (shp_wipe own)).trans sh3
    generalize setsV (wipe σ (own.map (·.2))) (tgSlots tg) ws = σ2 at e4 hwp ⊢
    -- no slot owns D
    have nD : ∀ {env' : AEnv}, Shp env1 env' → EnvOk K F (D :: O) H'' σ2 env' ∨ True → ∀ i ds, getE env' i = some (.o ds) → σ2[i]? ≠ some (some (.ref D)) := fun {env'} shp _ i ds h1 h2 => by
      obtain ⟨ds', h3⟩ := shp.1 i ds h1
      have hni : i ∉ own.map (·.2) := fun z => noOwn_ok no i z ds' h3
      have h4 : (wipe σ2 (own.map (·.2)))[i]? = some (some (.ref D)) := by rw [wipe_out hni]; exact h2
      rw [hwp, wipe_out hni] at h4
      obtain ⟨p, us, g1, g2, g3, _⟩ := e1.own i ds' h3
      rw [h4] at g1; cases g1
      rw [hD] at g3; cases g3
    -- the element
    have elem : ∀ {env' : AEnv} {H3 : Hp}, Shp env1 env' → EnvOk K F (D :: O) H3 σ2 env' → Chg O H1 H3 → H3 D = some (.lst vsa) → DpAll K (Wo H3 (D :: O)) vsa acc →
        wE elt env' (fun v env3 => dataK v fun y => compW cond (fun e q => wE c e q X0) (fun e q => wE elt e q X0) tg own (items.drop (i + 1)) env3 (acc ++ [y]) Qf) X0 →
        TEof K elt σ2 H3 fun y H4 => ∃ acc', H4 D = some (.lst acc') ∧ acc'.length < sizeLine ∧ ∃ env2 acc vsa, EnvOk K F (D :: O) (upd H4 D (.lst (acc' ++ [y]))) (wipe σ (own.map (·.2))) (wipeE env2 own) ∧ Shp env1 env2 ∧ (upd H4 D (.lst (acc' ++ [y]))) D = some (.lst vsa) ∧ DpAll K (Wo (upd H4 D (.lst (acc' ++ [y]))) (D :: O)) vsa acc ∧
          acc.length ≤ i + 1 ∧ i + 1 ≤ items.length ∧ items.length - (i + 1) = items.length - (i + 1) ∧ Chg O H1 (upd H4 D (.lst (acc' ++ [y]))) ∧ compW cond (fun e q => wE c e q X0) (fun e q => wE elt e q X0) tg own (items.drop (i + 1)) env2 acc Qf := by
      intro env' H3 shp e5 c5 hD5 hacc5 q5
      refine te_then e5.rebase (wE_shp elt q5) fun r env6 v H4 q6 e6 c6 s6 a6 => ?_
      obtain ⟨sh6, q6⟩ := q6
      obtain ⟨y, q6, hy⟩ := res_data s6 q6
      have hD6 : H4 D = some (.lst vsa) := now_keep e6 hD5 (nD shp (.inr trivial))
      have e7 := e5.unbase e6 sh6
      have sh7 := shp.trans sh6
      have e8 := e7.wipe own hpar
      rw [hwp] at e8
      have smD : Same (Wo H4 (D :: O)) (Wo (upd H4 D (.lst (vsa ++ [v]))) (D :: O)) := fun a u h => by
        obtain ⟨n, h⟩ := wo_some h
        rw [wo_out n, upd_ne (fun z => n (by rw [z]; exact List.mem_cons_self))]
        exact h
      have hav : DpAll K (Wo H4 (D :: O)) vsa acc := dps_mono c6.wo hacc5
      refine ⟨vsa, hD6, by rw [dps_len hacc]; omega, env6, acc ++ [y], vsa ++ [v], e8.wr (fun i ds a h1 h2 => slotD i ds a sh7 h1 h2) fD, sh7, upd_same, dps_mono smD (dps_append hav (.cons hy .nil)), by rw [List.length_append]; simp; omega, hi, rfl, ?_, q6⟩
      intro a o h n
      have ne : a ≠ D := ne_of_none h hD
      rw [upd_ne ne]
      exact c6 a o (c5 a o h n) (by simp only [List.mem_cons, not_or]; exact ⟨ne, n⟩)
    cases cond with
    | none => exact elem shA e4 c3 hD3 hacc3 q3
    | some u =>
      refine tt_then (q := fun b env2 => (if b = true then wE elt env2 (fun v env3 => dataK v fun y => compW (some u) (fun e q => wE c e q X0) (fun e q => wE elt e q X0) tg own (items.drop (i + 1)) env3 (acc ++ [y]) Qf) X0
          else compW (some u) (fun e q => wE c e q X0) (fun e q => wE elt e q X0) tg own (items.drop (i + 1)) env2 acc Qf) ∧ Shp env3 env2) e4.rebase ?_ fun b env6 H6 q6 e6 c6 => ?_
      · exact wE_mono c (fun r e z => truthK_mono (fun b w => ⟨w, z.1⟩) z.2) (wE_shp c q3)
      · obtain ⟨q6, sh6⟩ := q6
        have hD6 : H6 D = some (.lst vsa) := now_keep e6 hD3 (nD shA (.inr trivial))
        have e7 := e4.unbase e6 sh6
        have c7 : Chg O H1 H6 := fun a o h n => c6 a o (c3 a o h n) (by simp only [List.mem_cons, not_or]; exact ⟨ne_of_none h hD, n⟩)
        have hacc7 : DpAll K (Wo H6 (D :: O)) vsa acc := dps_mono c6.wo hacc3
        have sh7 := shA.trans sh6
        cases b with
        | true =>
          rw [if_pos rfl] at q6 ⊢
          exact elem sh7 e7 c7 hD6 hacc7 q6
        | false =>
          rw [if_neg Bool.false_ne_true] at q6 ⊢
          have e8 := e7.wipe own hpar
          rw [hwp] at e8
          exact ⟨env6, acc, vsa, e8, sh7, hD6, hacc7, by omega, hi, rfl, c7, q6⟩
  · have hie : i = items.length := by omega
    subst hie
    refine .inl ⟨W.2 (Nat.le_refl _), ?_⟩
    rw [List.drop_length] at q
    have q : Qf acc env2 := q
    rw [← hQf] at q
    obtain ⟨eb, av⟩ := EnvOk.behind e1 hD e2 sh c2 no
    have cH : Chg O H H' := c1.trans c2
    have hDH : H D = none := by
      cases z : H D with
      | none => rfl
      | some o => rw [c1 _ _ z nO] at hD; cases hD
    exact q (.ref D) H' eb cH ⟨D, vsa, rfl, hDH, nO, hDl, hacc⟩ fun p z => by cases z; exact av
end
end PF

set_option maxRecDepth 100000
set_option maxHeartbeats 400000
namespace PF
open PySem PySem.Spec PyProof.Rows L2
/-! ### statements -/
def ends (K : PySem.W.Frag) (F : Fi) (O : List Addr) (H : Hp) (D : Ends) : AEnds where
  nx := fun env' => ∀ σ' H' O', EnvOk K F O' H' σ' env' → Ext O H O' H' → D.nx σ' H'
  rt := fun r env' => ∀ v σ' H' O', EnvOk K F O' H' σ' env' → Res K O' F.H0 H' σ' v r → AvR K O' H' σ' env' v r → D.rt v H'
  bk := fun env' => ∀ σ' H' O', EnvOk K F O' H' σ' env' → Ext O H O' H' → D.bk σ' H'
  ct := fun env' => ∀ σ' H' O', EnvOk K F O' H' σ' env' → Ext O H O' H' → D.ct σ' H'
/-- what is lent stands in the slots R -/
structure FR (F : Fi) (R : List Nat) : Prop where
  par : ∀ i p, F.par i = some p → i ∈ R
  lv : ∀ p ∈ F.O0, F.H0 p ≠ none
def TSof (K : PySem.W.Frag) (R : List Nat) (s : S) : TS := fun D σ H => ∃ (F : Fi) (O : List Addr) (env : AEnv), FR F R ∧ EnvOk K F O H σ env ∧ wS X0 s env (ends K F O H D)
def TSsof (K : PySem.W.Frag) (R : List Nat) (ss : Ss) : TS := fun D σ H => ∃ (F : Fi) (O : List Addr) (env : AEnv), FR F R ∧ EnvOk K F O H σ env ∧ wSs X0 ss env (ends K F O H D)
theorem ends_ext {K : PySem.W.Frag} {F : Fi} {O O' : List Addr} {H H' : Hp} {D : Ends} (x : Ext O H O' H') : (ends K F O H D).Le (ends K F O' H' D) :=
  ⟨fun _ h σ2 H2 O2 e y => h σ2 H2 O2 e (x.trans y), fun _ _ h => h, fun _ h σ2 H2 O2 e y => h σ2 H2 O2 e (x.trans y), fun _ h σ2 H2 O2 e y => h σ2 H2 O2 e (x.trans y)⟩
section
variable {X : Cx} {F : Fi} {R : List Nat} {pos : Pos}
theorem FR.no (f : FR F R) {i : Nat} (hi : i ∉ R) : ∀ p, F.par i ≠ some p := fun p z => hi (f.par i p z)
theorem set_ok {K : PySem.W.Frag} {O : List Addr} {H H1 : Hp} {σ : L2.St} {env env1 : AEnv} {i : Nat} {v : V} {r : AV} {D : Ends} (fr : FR F R) (hi : i ∉ R) (eo : EnvOk K F O H σ env) (e1 : EnvOk K F O H1 σ env1) (c1 : Chg O H H1) (s1 : Res K O H H1 σ v r) (a1 : AvR K O H1 σ env1 v r)
    (q : match r with | .b _ => False | v => (ends K F O H D).nx (setE env1 i (some v))) : D.nx (σ.set i (some v)) H1 := by
  cases r with
  | b j => exact q.elim
  | d x => exact q _ _ O (e1.setD (fr.no hi) s1) (.of c1)
  | o ds =>
    obtain ⟨p, vs, rfl, n, no, hp, hd⟩ := s1
    have av := a1 p rfl
    refine q _ _ (p :: O) (e1.setO (fr.no hi) (eo.fresh0 n) no hp hd (.inr trivial) av.dat av.own) ⟨c1, fun a ha => ?_⟩
    rcases List.mem_cons.mp ha with z | z
    · subst z; exact .inr n
    · exact .inl z
theorem asg_red {K : PySem.W.Frag} {i : Nat} {e : E} (hi : i ∉ R) {D : Ends} {σ : L2.St} {H : Hp} (h : TSof K R (.asg i e) D σ H) : tAsg (TEof K e) (gName i) D σ H := by
  obtain ⟨F, O, env, fr, eo, hw⟩ := h
  exact te_then eo hw fun r env1 v H1 q e1 c1 s1 a1 => set_ok fr hi eo e1 c1 s1 a1 (by cases r <;> exact q)
theorem asgF_red {K : PySem.W.Frag} {i : Nat} {e : E} (hi : i ∉ R) {D : Ends} {σ : L2.St} {H : Hp} (h : TSof K R (.asgF i e) D σ H) : tAsg (TEof K e) (gName i) D σ H := by
  obtain ⟨F, O, env, fr, eo, hw⟩ := h
  refine te_then eo hw fun r env1 v H1 q e1 c1 s1 a1 => ?_
  obtain ⟨x, q, hx⟩ := res_data s1 q
  exact q _ _ O (e1.setD (fr.no hi) hx) (.of c1)
theorem ts_asg {i : Nat} {x : Str} {e : Expr} {ea : E} {px : Pos} (hi' : i ∉ R) (hN : X.N.Nodup) (hi : X.N[i]? = some x) (hx : Loc X.env.scope x) (he : PE X e (TEof X.K ea)) (hs : swapsWith e (some (.Name x px)) pos.line X.env = pure false) (hf : X.fn x = true ∨ X.env.scope.names.lookup x = some .local) :
    PS X (.Assign [.Name x px] e pos) (TSof X.K R (.asg i ea)) := ps_weak (ps_set hN hi hx he hs hf) fun D σ H h => asg_red hi' h
theorem ts_asgF {i : Nat} {x : Str} {e : Expr} {ea : E} {px : Pos} (hi' : i ∉ R) (hN : X.N.Nodup) (hi : X.N[i]? = some x) (hx : Loc X.env.scope x) (he : PE X e (TEof X.K ea)) (hs : swapsWith e (some (.Name x px)) pos.line X.env = pure false) (hf : X.fn x = true ∨ X.env.scope.names.lookup x = some .local) :
    PS X (.Assign [.Name x px] e pos) (TSof X.K R (.asgF i ea)) := ps_weak (ps_set hN hi hx he hs hf) fun D σ H h => asgF_red hi' h
theorem ts_expr {e : Expr} {ea : E} (he : PE X e (TEof X.K ea)) (hs : swapsWith e none pos.line X.env = pure false) : PS X (.Expr e pos) (TSof X.K R (.expr ea)) :=
  ps_weak (ps_expr he hs) fun D σ H ⟨F, O, env, fr, eo, hw⟩ => te_then eo hw fun r env1 v H1 q e1 c1 s1 a1 => q _ _ O e1 (.of c1)
theorem ts_ret {e : Expr} {ea : E} (he : PE X e (TEof X.K ea)) : PS X (.Return (some e) pos) (TSof X.K R (.ret ea)) :=
  ps_weak (ps_ret he) fun D σ H ⟨F, O, env, fr, eo, hw⟩ => te_then eo hw fun r env1 v H1 q e1 c1 s1 a1 => by
    refine q v σ H1 O e1 ?_ a1
    cases r with
    | d x => exact s1
    | b j => exact s1
    | o ds =>
      obtain ⟨p, vs, rfl, n, no, hp, hd⟩ := s1
      exact ⟨p, vs, rfl, eo.fresh0 n, no, hp, hd⟩
theorem ts_retN : PS X (.Return none pos) (TSof X.K R .retN) := ps_weak ps_retN fun D σ H ⟨F, O, env, fr, eo, hw⟩ => hw .non σ H O eo .non trivial
theorem ts_pass : PS X (.Pass pos) (TSof X.K R .pass) := ps_weak ps_pass fun D σ H ⟨F, O, env, fr, eo, hw⟩ => hw σ H O eo .refl
theorem ts_brk : PS X (.Break pos) (TSof X.K R .brk) := ps_weak ps_break fun D σ H ⟨F, O, env, fr, eo, hw⟩ => hw σ H O eo .refl
theorem ts_cont : PS X (.Continue pos) (TSof X.K R .cont) := ps_weak ps_continue fun D σ H ⟨F, O, env, fr, eo, hw⟩ => hw σ H O eo .refl
theorem ts_raise {st : Stmt} {x : Str} : PS X st (TSof X.K R (.raise x)) := ps_weak ps_never fun D σ H ⟨F, O, env, fr, eo, hw⟩ => hw
theorem tss_nil : PSs X [] (TSsof X.K R .nil) := pss_weak pss_nil fun D σ H ⟨F, O, env, fr, eo, hw⟩ => hw σ H O eo .refl
theorem tss_cons {st : Stmt} {sts : List Stmt} {s : S} {ss : Ss} (h1 : PS X st (TSof X.K R s)) (h2 : PSs X sts (TSsof X.K R ss)) : PSs X (st :: sts) (TSsof X.K R (.cons s ss)) :=
  pss_weak (pss_cons h1 h2) fun D σ H ⟨F, O, env, fr, eo, hw⟩ => by
    unfold wSs at hw
    refine ⟨F, O, env, fr, eo, wS_mono s (D := { (ends X.K F O H D) with nx := fun env1 => wSs X0 ss env1 (ends X.K F O H D) }) ⟨fun env1 q σ' H' O' e x => ?_, fun _ _ h => h, fun _ h => h, fun _ h => h⟩ hw⟩
    exact ⟨F, O', env1, fr, e, wSs_mono ss (ends_ext x) q⟩
/-- a list that is not changed any more -/
theorem EnvOk.freeze {K : PySem.W.Frag} {O : List Addr} {H : Hp} {σ : L2.St} {env : AEnv} (fr : FR F R) {j : Nat} {ds : List PyData} (hj : j ∉ R) (e : EnvOk K F O H σ env) (h : getE env j = some (.o ds)) : ∃ O', EnvOk K F O' H σ (setE env j (some (.d (.list ds)))) ∧ Ext O H O' H := by
  obtain ⟨p, vs, h1, h2, h3, h4⟩ := e.own j ds h
  have hl := getE_len h
  have hH0 : F.H0 p = none := by
    rcases e.ownF j ds p h h1 with ⟨i, hi⟩ | z
    · obtain ⟨g1, xs, g2⟩ := e.par i p hi
      have : i = j := e.inj i j _ _ p g2 h g1 h1
      subst this
      exact (hj (fr.par i p hi)).elim
    · exact z
  have hsub : ∀ a, a ∈ O.filter (fun a => decide (a ≠ p)) → a ∈ O := fun a ha => (List.mem_filter.mp ha).1
  have hno : p ∉ O.filter (fun a => decide (a ≠ p)) := fun z => (of_decide_eq_true (List.mem_filter.mp z).2) rfl
  have hin : ∀ a, a ∈ O → a ≠ p → a ∈ O.filter (fun a => decide (a ≠ p)) := fun a ha hn => List.mem_filter.mpr ⟨ha, decide_eq_true hn⟩
  have sm : Same (Wo H O) (Wo H (O.filter (fun a => decide (a ≠ p)))) := wo_sub hsub
  have go : ∀ i xs, getE (setE env j (some (.d (.list ds)))) i = some (.o xs) → i ≠ j ∧ getE env i = some (.o xs) := fun i xs q => by
    rw [get_set] at q
    split at q
    · first | (split at q <;> cases q) | cases q
    · exact ⟨by assumption, q⟩
  refine ⟨O.filter (fun a => decide (a ≠ p)), ⟨by rw [setE_len]; exact e.len, fun i x q => ?_, fun i xs q => ?_, fun i m q => ?_, fun i m xs ys a q1 q2 r1 r2 => ?_, fun a ha => e.live a (hsub a ha), fun a ha => ?_, fun a ha => e.new a (hsub a ha), e.keep, fun i xs a q r => ?_, fun i a q => ?_⟩, ⟨.refl, fun a ha => .inl (hsub a ha)⟩⟩
  · by_cases hij : i = j
    · subst hij
      rw [get_set_same hl] at q; cases q
      exact ⟨.ref p, h1, .lst (.inl (.inl (by rw [wo_out hno]; exact h3))) (dps_mono sm h4)⟩
    · rw [get_set_ne hij] at q
      obtain ⟨v, g1, g2⟩ := e.dat i x q
      exact ⟨v, g1, dp_mono sm g2⟩
  · obtain ⟨hij, q⟩ := go i xs q
    obtain ⟨a, us, g1, g2, g3, g4⟩ := e.own i xs q
    have ne : a ≠ p := fun z => by subst z; exact hij (e.inj i j _ _ _ q h g1 h1)
    exact ⟨a, us, g1, hin a g2 ne, g3, dps_mono sm g4⟩
  · rw [get_set] at q
    split at q
    · first | (split at q <;> cases q) | cases q
    · exact e.nob i m q
  · obtain ⟨_, q1⟩ := go i xs q1
    obtain ⟨_, q2⟩ := go m ys q2
    exact e.inj i m _ _ a q1 q2 r1 r2
  · refine hin a (e.sub a ha) fun z => ?_
    subst z
    exact fr.lv _ ha hH0
  · obtain ⟨_, q⟩ := go i xs q
    exact e.ownF i xs a q r
  · obtain ⟨g1, xs, g2⟩ := e.par i a q
    have hij : i ≠ j := fun z => by subst z; exact hj (fr.par i a q)
    exact ⟨g1, xs, by rw [get_set_ne hij]; exact g2⟩
theorem tss_frz {sts : List Stmt} {j : Nat} {ss : Ss} (hj : j ∉ R) (h : PSs X sts (TSsof X.K R ss)) : PSs X sts (TSsof X.K R (.cons (.frz j) ss)) :=
  pss_weak h fun D σ H ⟨F, O, env, fr, eo, hw⟩ => by
    unfold wSs wS at hw
    split at hw
    · rename_i ds hg
      obtain ⟨O', e', x⟩ := EnvOk.freeze fr hj eo hg
      exact ⟨F, O', _, fr, e', wSs_mono ss (ends_ext x) hw⟩
    · exact hw.elim
theorem ts_ite {c : Expr} {a b : List Stmt} {ec : E} {sa sb : Ss} (hc : PT X c (TTof X.K ec)) (ha : PSs X a (TSsof X.K R sa)) (hb : PSs X b (TSsof X.K R sb)) : PS X (.If c a b pos) (TSof X.K R (.ite ec sa sb)) :=
  ps_weak (ps_if hc ha hb) fun D σ H ⟨F, O, env, fr, eo, hw⟩ => tt_then (q := fun t env1 => if t = true then wSs X0 sa env1 _ else wSs X0 sb env1 _) eo hw fun t env1 H1 q1 e1 c1 =>
    ite_mono (fun q => ⟨F, O, env1, fr, e1, wSs_mono sa (ends_ext (.of c1)) q⟩) (fun q => ⟨F, O, env1, fr, e1, wSs_mono sb (ends_ext (.of c1)) q⟩) q1
theorem for_red {K : PySem.W.Frag} {tg : Tg} {it : PF.It} {body : Ss} (hsl : ∀ i ∈ tgSlots tg, i ∉ R) {D : Ends} {σ : L2.St} {H : Hp} (h : TSof K R (.forS tg it body) D σ H) : tFor (TIof K it) (TGof K tg) (TSsof K R body) D σ H := by
  obtain ⟨F, O, env, fr, eo, hw⟩ := h
  unfold wS at hw
  refine ⟨F, O, env, eo, wIt_mono it (fun items env1 q J H1 e1 c1 wk hl => ?_) hw⟩
  refine ⟨fun i m σ' H' => ∃ env' O', EnvOk K F O' H' σ' env' ∧ Ext O H1 O' H' ∧ i ≤ items.length ∧ m = items.length - i ∧ forW (fun e D' => wSs X0 body e D') tg (ends K F O H D) (items.drop i) env',
    ⟨items.length - 0, env1, O, e1, .refl, Nat.zero_le _, rfl, q⟩, ?_⟩
  rintro i m σ' H' ⟨env', O', e', x, hil, rfl, q⟩
  have W := wk O' H' x e'.live i
  have x0 : Ext O H O' H' := Ext.trans (.of c1) x
  by_cases hi : i < items.length
  · have hx : items[i]? = some items[i] := List.getElem?_eq_getElem hi
    obtain ⟨go, yl⟩ := W.1 _ hx
    rw [drop_get hx] at q
    refine .inr ⟨go, _, fun σ2 H2 z => ⟨items.length - (i + 1), by omega, z⟩, fun v H'' hy => ?_⟩
    obtain ⟨sm, dx⟩ := yl v H'' hy
    have xs : Ext O' H' O' H'' := .of fun a o h _ => sm a o h
    unfold forW at q
    refine tg_ok (e'.grow sm) dx q (fun i hi => fr.no (hsl i hi)) ?_
    rintro σ2 env2 _ q2 e2
    refine ⟨F, O', env2, fr, e2, wSs_mono body (D := { (ends K F O H D) with nx := forW (fun e D' => wSs X0 body e D') tg (ends K F O H D) (items.drop (i + 1)), ct := forW (fun e D' => wSs X0 body e D') tg (ends K F O H D) (items.drop (i + 1)), bk := (ends K F O H D).nx }) ⟨fun env3 q3 σ3 H3 O3 e3 x3 => ?_, fun _ _ h => h, fun env3 q3 σ3 H3 O3 e3 x3 => ?_, fun env3 q3 σ3 H3 O3 e3 x3 => ?_⟩ q2⟩
    · exact ⟨env3, O3, e3, (x.trans xs).trans x3, hi, rfl, q3⟩
    · exact q3 σ3 H3 O3 e3 ((x0.trans xs).trans x3)
    · exact ⟨env3, O3, e3, (x.trans xs).trans x3, hi, rfl, q3⟩
  · have hie : i = items.length := by omega
    subst hie
    rw [List.drop_length] at q
    exact .inl ⟨W.2 (Nat.le_refl _), q σ' H' O' e' x0⟩
theorem while_red {K : PySem.W.Frag} {c : E} {body : Ss} {D : Ends} {σ : L2.St} {H : Hp} (h : TSof K R (.whl c body) D σ H) : tWhile (TTof K c) (TSsof K R body) D σ H := by
  obtain ⟨F, O, env, fr, eo, hw⟩ := h
  unfold wS whileW at hw
  obtain ⟨W, ⟨m0, w0⟩, turn⟩ := hw
  refine ⟨fun m σ' H' => ∃ env' O', EnvOk K F O' H' σ' env' ∧ Ext O H O' H' ∧ W m env', ⟨m0, env, O, eo, .refl, w0⟩, ?_⟩
  rintro m σ' H' ⟨env', O', e', x, w⟩
  refine tt_then (q := fun b env1 => if b = true then ∃ N : AEnv → Prop, (∀ env', N env' → ∃ m', m' < m ∧ W m' env') ∧ wSs X0 body env1 { (ends K F O H D) with nx := N, ct := N, bk := (ends K F O H D).nx } else (ends K F O H D).nx env1) e' (turn m env' w) fun b env1 H1 q e1 c1 => ?_
  have x1 : Ext O H O' H1 := x.trans (.of c1)
  cases b with
  | true =>
    rw [if_pos rfl] at q ⊢
    obtain ⟨N, hN, q⟩ := q
    refine ⟨fun σ2 H2 => ∃ env2 O2, EnvOk K F O2 H2 σ2 env2 ∧ Ext O H O2 H2 ∧ N env2, ?_, ?_⟩
    · rintro σ2 H2 ⟨env2, O2, e2, x2, n2⟩
      obtain ⟨m', hm, w'⟩ := hN env2 n2
      exact ⟨m', hm, env2, O2, e2, x2, w'⟩
    · refine ⟨F, O', env1, fr, e1, wSs_mono body (D := { (ends K F O H D) with nx := N, ct := N, bk := (ends K F O H D).nx }) ⟨fun env3 q3 σ3 H3 O3 e3 x3 => ?_, fun _ _ h => h, fun env3 q3 σ3 H3 O3 e3 x3 => ?_, fun env3 q3 σ3 H3 O3 e3 x3 => ?_⟩ q⟩
      · exact ⟨env3, O3, e3, x1.trans x3, q3⟩
      · exact q3 σ3 H3 O3 e3 (x1.trans x3)
      · exact ⟨env3, O3, e3, x1.trans x3, q3⟩
  | false =>
    rw [if_neg Bool.false_ne_true] at q ⊢
    exact q σ' H1 O' e1 x1
/-! ### several names at once -/
theorem par_rd {K : PySem.W.Frag} {is : List Nat} {es : Es} {D : Ends} {σ : L2.St} {H : Hp} (hsl : ∀ i ∈ is, i ∉ R) (h : TSof K R (.par is es) D σ H) : TAof K es σ H fun vs H1 => vs.length = is.length ∧ D.nx (setsV σ is vs) H1 := by
  obtain ⟨F, O, env, fr, eo, hw⟩ := h
  refine ta_then eo hw fun rs env1 vs H1 q e1 c1 s1 => ?_
  obtain ⟨xs, ⟨hl, q⟩, hd⟩ := res_datas s1 q
  refine ⟨by rw [dps_len hd]; exact hl, ?_⟩
  have key : gsOf is vs σ H1 D.nx := gs_ok e1 hd hl (fun i hi => fr.no (hsl i hi)) fun e => q _ _ O e (.of c1)
  have un : ∀ {is : List Nat} {vs : List V} {σ : L2.St}, gsOf is vs σ H1 D.nx → vs.length = is.length → D.nx (setsV σ is vs) H1 := by
    intro is
    induction is with
    | nil => rintro vs σ ⟨rfl, h⟩ _; exact h
    | cons i is ih => rintro vs σ ⟨v, r, rfl, h⟩ hl; exact ih h (by simpa using hl)
  exact un key (by rw [dps_len hd]; exact hl)
theorem par_tup {K : PySem.W.Frag} {is : List Nat} {es : Es} {D : Ends} {σ : L2.St} {H : Hp} (hsl : ∀ i ∈ is, i ∉ R) (h : TSof K R (.par is es) D σ H) : tAsg (TEof K (.tup es)) (TGof K (.tp is)) D σ H := by
  obtain ⟨F, O, env, fr, eo, hw⟩ := h
  refine ⟨F, O, env, eo, ?_⟩
  unfold wS at hw
  unfold wE
  refine wEs_mono es (fun rs env1 q => datasK_mono (fun xs q v H1 e1 c1 s1 a1 => ?_) q) hw
  exact tg_ok (tg := .tp is) (k := (ends K F O H D).nx) e1 s1 q (fun i hi => fr.no (hsl i hi)) fun σ2 env2 _ q2 e2 => q2 _ _ O e2 (.of c1)
theorem unp_red {K : PySem.W.Frag} {is : List Nat} {e : E} {D : Ends} {σ : L2.St} {H : Hp} (hsl : ∀ i ∈ is, i ∉ R) (h : TSof K R (.unp is e) D σ H) : tAsg (TEof K e) (TGof K (.tp is)) D σ H := by
  obtain ⟨F, O, env, fr, eo, hw⟩ := h
  refine te_then eo hw fun r env1 v H1 q e1 c1 s1 a1 => ?_
  split at q
  · exact tg_ok (k := (ends K F O H D).nx) e1 s1 q (fun i hi => fr.no (hsl i hi)) fun σ2 env2 _ q2 e2 => q2 _ _ O e2 (.of c1)
  · exact q.elim
/-! ### lists changed in place -/
theorem own_at {K : PySem.W.Frag} {O : List Addr} {H : Hp} {σ : L2.St} {env : AEnv} {j : Nat} {ds : List PyData} (e : EnvOk K F O H σ env) (h : getE env j = some (.o ds)) : ∃ p vs, σ[j]? = some (some (.ref p)) ∧ p ∈ O ∧ H p = some (.lst vs) ∧ DpAll K (Wo H O) vs ds := e.own j ds h
theorem put_ok {K : PySem.W.Frag} {O : List Addr} {H H1 : Hp} {σ : L2.St} {env1 : AEnv} {j : Nat} {ds ds' : List PyData} {p : Addr} {vs' : List V} {D : Ends} (e1 : EnvOk K F O H1 σ env1) (c1 : Chg O H H1) (h : getE env1 j = some (.o ds)) (hp : σ[j]? = some (some (.ref p))) (hO : p ∈ O) (hd : DpAll K (Wo H1 O) vs' ds')
    (q : (ends K F O H D).nx (setE env1 j (some (.o ds')))) : D.nx σ (upd H1 p (.lst vs')) := by
  have c2 : Chg O H1 (upd H1 p (.lst vs')) := fun a o z n => by
    rw [upd_ne (fun w => n (by rw [w]; exact hO))]
    exact z
  exact q σ _ O (e1.put h hp c2 (fun a o z ne => by rw [upd_ne ne]; exact z) upd_same (dps_mono c2.wo hd)) (.of (c1.trans c2))
theorem append_red {j : Nat} {e : E} {D : Ends} {σ : L2.St} {H : Hp} {K : PySem.W.Frag} (h : TSof K R (.append j e) D σ H) : tDrop (tBM K "list" rAppend (tVar j) (tCons (TEof K e) tNil)) D σ H := by
  obtain ⟨F, O, env, fr, eo, hw⟩ := h
  unfold wS at hw
  split at hw
  · rename_i ds0 hg
    obtain ⟨p, vs, h1, h2, h3, h4⟩ := eo.own j _ hg
    refine ⟨.ref p, h1, .inl ⟨rfl, vs, .inl (.inl h3)⟩, te_then eo hw fun r env1 v H1 q e1 c1 s1 a1 => ?_⟩
    obtain ⟨x, q, hx⟩ := res_data s1 q
    split at q
    · rename_i ds hg1
      obtain ⟨p', vs', g1, g2, g3, g4⟩ := e1.own j ds hg1
      rw [h1] at g1; cases g1
      exact ⟨p, vs', v, rfl, rfl, g3, by rw [dps_len g4]; exact q.1, put_ok e1 c1 hg1 h1 g2 (dps_append g4 (.cons hx .nil)) q.2⟩
    · exact q.elim
  · exact hw.elim
theorem insert_red {j : Nat} {i e : E} {D : Ends} {σ : L2.St} {H : Hp} {K : PySem.W.Frag} (h : TSof K R (.insert j i e) D σ H) : tDrop (tBM K "list" (fun x vs H Q => ∃ (l : Addr) (xs : List V) (i : Int) (y : V), x = .ref l ∧ vs = [.int i, y] ∧ H l = some (.lst xs) ∧ xs.length < sizeLine ∧ 0 ≤ i ∧ i < 2 ^ 63 ∧
    Q .non (upd H l (.lst (xs.take i.toNat ++ [y] ++ xs.drop i.toNat)))) (tVar j) (tCons (TEof K i) (tCons (TEof K e) tNil))) D σ H := by
  obtain ⟨F, O, env, fr, eo, hw⟩ := h
  unfold wS at hw
  split at hw
  · rename_i ds0 hg
    obtain ⟨p, vs, h1, h2, h3, h4⟩ := eo.own j _ hg
    refine ⟨.ref p, h1, .inl ⟨rfl, vs, .inl (.inl h3)⟩, te_then eo hw fun r env1 v H1 q e1 c1 s1 a1 => te_then e1 q fun r2 env2 v2 H2 q2 e2 c2 s2 a2 => ?_⟩
    obtain ⟨x, q2, hx⟩ := res_data s2 q2
    split at q2
    · rename_i n ds hg1 _
      cases (show Dp K _ v (.int _) from s1)
      obtain ⟨p', vs', g1, g2, g3, g4⟩ := e2.own j ds hg1
      rw [h1] at g1; cases g1
      obtain ⟨⟨b1, b2, b3⟩, q2⟩ := q2
      refine ⟨p, vs', n, v2, rfl, rfl, g3, by rw [dps_len g4]; exact b3, b1, b2, put_ok e2 (c1.trans c2) hg1 h1 g2 ?_ q2⟩
      rw [List.append_assoc]
      exact dps_append (dps_take _ g4) (.cons hx (dps_drop _ g4))
    · exact q2.elim
  · exact hw.elim
theorem setIx_red {j : Nat} {i e : E} {D : Ends} {σ : L2.St} {H : Hp} {K : PySem.W.Frag} (h : TSof K R (.setIx j i e) D σ H) : tAsg (TEof K e) (gSub (tVar j) (TEof K i) rSetL) D σ H := by
  obtain ⟨F, O, env, fr, eo, hw⟩ := h
  refine te_then eo hw fun r env1 v H1 q e1 c1 s1 a1 => ?_
  obtain ⟨x, q, hx⟩ := res_data s1 q
  split at q
  · rename_i ds0 hg
    obtain ⟨p, vs, h1, h2, h3, h4⟩ := e1.own j _ hg
    refine ⟨.ref p, h1, te_then e1 q fun r2 env2 v2 H2 q2 e2 c2 s2 a2 => ?_⟩
    split at q2
    · rename_i n ds hg1
      cases (show Dp K _ v2 (.int _) from s2)
      obtain ⟨p', vs', g1, g2, g3, g4⟩ := e2.own j ds hg1
      rw [h1] at g1; cases g1
      obtain ⟨⟨b1, b2⟩, q2⟩ := q2
      have hix : ixN vs'.length n = some n.toNat := by
        unfold ixN
        rw [if_pos b1, if_pos (by rw [dps_len g4]; exact b2)]
      exact ⟨p, vs', n, n.toNat, rfl, rfl, g3, hix, put_ok e2 (c1.trans c2) hg1 h1 g2 (dps_set (dp_mono c2.wo hx) _ g4) q2⟩
    · exact q2.elim
  · exact q.elim
/-! ### x op= e -/
def ipOf : BOp → TIp
  | .add => ipI fun i j => i + j
  | .sub => ipI fun i j => i - j
  | .mul => fun x y H Q => ∃ i j, x = .int i ∧ y = .int j ∧ mulOk i j ∧ Q (.int (i * j)) H
  | _ => fun _ _ _ _ => False
theorem ip_of (op : BOp) : PIp X (opOf op) (ipOf op) := by
  cases op with
  | add => exact ip_add
  | sub => exact ip_sub
  | mul =>
    intro pins s σ H x y v u Q I r1 r2 h
    obtain ⟨i, j, rfl, rfl, hm, q⟩ := h
    obtain ⟨t, rfl⟩ := r1
    obtain ⟨t', rfl⟩ := r2
    exact imul_int ⟨.int _, H, I.tok _, ⟨_, rfl⟩, q⟩ (CMulW.ok hm)
  | fdiv => exact fun _ _ _ _ _ _ _ _ _ _ _ _ h => h.elim
  | mod => exact fun _ _ _ _ _ _ _ _ _ _ _ _ h => h.elim
  | pow => exact fun _ _ _ _ _ _ _ _ _ _ _ _ h => h.elim
  | shl => exact fun _ _ _ _ _ _ _ _ _ _ _ _ h => h.elim
  | band => exact fun _ _ _ _ _ _ _ _ _ _ _ _ h => h.elim
def augOk : BOp → Bool
  | .add => true
  | .sub => true
  | .mul => true
  | _ => false
theorem aug_red {K : PySem.W.Frag} {i : Nat} {op : BOp} {e : E} {D : Ends} {σ : L2.St} {H : Hp} (hop : augOk op = true) (hi : i ∉ R) (h : TSof K R (.aug i op e) D σ H) : tAug i (TEof K e) (ipOf op) D σ H := by
  obtain ⟨F, O, env, fr, eo, hw⟩ := h
  unfold wS at hw
  split at hw
  · rename_i x hg
    obtain ⟨v0, h1, h2⟩ := eo.dat i x hg
    refine ⟨v0, h1, te_then eo hw fun r env1 v H1 q e1 c1 s1 a1 => ?_⟩
    split at q
    · rename_i y
      have hx := dp_mono c1.wo h2
      have s1 : Dp K (Wo H1 O) v y := s1
      have fin : ∀ z : Int, (ends K F O H D).nx (setE env1 i (some (.d (.int z)))) → D.nx (σ.set i (some (.int z))) H1 := fun z q => q _ _ O (e1.setD (fr.no hi) (.int z)) (.of c1)
      have itz : ∀ {op : BOp} {x y : PyData} {k : PyData → Prop}, augOk op = true → binK op x y (fun r => match r with | .d z => k z | _ => False) → ∃ m n : Int, x = .int m ∧ y = .int n := by
        intro op x y k ho q
        unfold binK at q
        split at q <;> first | exact ⟨_, _, rfl, rfl⟩ | exact q.2.elim | exact q.elim
      obtain ⟨m, n, rfl, rfl⟩ := itz (k := fun z => (ends K F O H D).nx (setE env1 i (some (.d z)))) hop q
      cases hx
      cases s1
      cases op with
      | add => exact ⟨_, _, rfl, rfl, fin _ q⟩
      | sub => exact ⟨_, _, rfl, rfl, fin _ q⟩
      | mul => exact ⟨_, _, rfl, rfl, q.1, fin _ q.2⟩
      | _ => cases hop
    · exact q.elim
  · exact hw.elim
end
end PF

set_option maxRecDepth 100000
set_option maxHeartbeats 4000000
/-! PN: lists of ranges, an item taken out, empty lists among several names -/
namespace PF
open PySem PySem.Spec PyProof.Rows L2
section
variable {X : Cx} {F : Fi} {p pos : Pos} {ea eb ec : E}
theorem star_call {f : Expr} {xs : List Expr} {p : Pos} {env : Env} : starEach [.Call f xs [] p] env = (false, eval (.Call f xs [] p) env) :: starEach [] env := rfl
theorem rg_dp {K : PySem.W.Frag} {H : Hp} {lo hi : Int} : DpAll K H (rgV lo hi) (rangeL lo hi) := by
  unfold rgV rangeL
  generalize List.range (hi - lo).toNat = l
  induction l with
  | nil => exact .nil
  | cons a l ih => exact .cons (.int _) ih
theorem te_lrg1 {a : Expr} {p2 pos2 : Pos} (hc : X.calm = true) (hl : Gl X "list") (hlm : X.mg "list" = none) (hg : Gl X "range") (hm : X.mg "range" = none) (ha : PE X a (TEof X.K ea)) (hs : starEach [a] X.env = (false, eval a X.env) :: starEach [] X.env) :
    PE X (.Call (.Name "list" p) [.Call (.Name "range" p2) [a] [] pos2] [] pos) (TEof X.K (.lrg1 ea)) :=
  pe_weak (pe_listRg hc hl hlm (prg_1 hg hm ha hs) (star_call)) fun σ H Q ⟨F, O, env, eo, hw⟩ => te_then eo hw fun r1 env1 v1 H1 q1 e1 c1 s1 a1 => by
    split at q1
    · rename_i n
      cases (show Dp X.K _ v1 (.int _) from s1)
      obtain ⟨⟨_, _, h1, h2, h3⟩, q⟩ := q1
      have h4 : sizeLine ≤ 2 ^ 24 := by decide +kernel
      refine ⟨n, rfl, ⟨by decide, by decide, by omega, by omega, by omega⟩, fun p hp => ?_⟩
      exact q _ _ (e1.grow (same_new hp)) (c1.trans (chg_new hp)) (res_new e1 hp c1 rg_dp) (avR_new e1 hp)
    · exact q1.elim
theorem te_lrg2 {a b : Expr} {p2 pos2 : Pos} (hc : X.calm = true) (hl : Gl X "list") (hlm : X.mg "list" = none) (hg : Gl X "range") (hm : X.mg "range" = none) (ha : PE X a (TEof X.K ea)) (hb : PE X b (TEof X.K eb)) (hs : starEach [a, b] X.env = (false, eval a X.env) :: starEach [b] X.env) (hs2 : starEach [b] X.env = (false, eval b X.env) :: starEach [] X.env) :
    PE X (.Call (.Name "list" p) [.Call (.Name "range" p2) [a, b] [] pos2] [] pos) (TEof X.K (.lrg2 ea eb)) :=
  pe_weak (pe_listRg hc hl hlm (prg_2 hg hm ha hb hs hs2 (by rw [hs2]; rfl)) (star_call)) fun σ H Q ⟨F, O, env, eo, hw⟩ => te_then eo hw fun r1 env1 v1 H1 q1 e1 c1 s1 a1 => te_then e1 q1 fun r2 env2 v2 H2 q2 e2 c2 s2 a2 => by
    split at q2
    · rename_i m n
      cases (show Dp X.K _ v1 (.int _) from s1)
      cases (show Dp X.K _ v2 (.int _) from s2)
      obtain ⟨⟨h1, h2, h3, h4, h5⟩, q⟩ := q2
      have h6 : sizeLine ≤ 2 ^ 24 := by decide +kernel
      refine ⟨m, n, rfl, rfl, ⟨by omega, by omega, by omega, by omega, by omega⟩, fun p hp => ?_⟩
      exact q _ _ (e2.grow (same_new hp)) ((c1.trans c2).trans (chg_new hp)) (res_new e2 hp (c1.trans c2) rg_dp) (avR_new e2 hp)
    · exact q2.elim
/-! ### ranges with a step -/
theorem rgC_ok {m n c : Int} (h : 0 < c ∧ c ≤ 1000000000 ∧ -1000000000 ≤ m ∧ m ≤ 1000000000 ∧ -1000000000 ≤ n ∧ n ≤ 1000000000) : RgC m n c (rangeCn m n c) := by
  obtain ⟨h1, h2, h3, h4, h5, h6⟩ := h
  have hs : Builtin.Range.rangeSize m n c = (rangeCn m n c : Int) := by
    unfold Builtin.Range.rangeSize rangeCn
    rw [if_pos h1]
    split
    · rename_i hmn
      have : 0 ≤ (n - m - 1) / c := Int.ediv_nonneg (by omega) (by omega)
      omega
    · rfl
  have hb : (rangeCn m n c : Int) ≤ 2000000000 := by
    unfold rangeCn
    split
    · have h7 : (n - m - 1) / c ≤ n - m - 1 := Int.ediv_le_self _ (by omega)
      omega
    · decide
  refine ⟨by omega, by omega, ?_, hs⟩
  unfold Builtin.Range.small
  rw [hs, if_pos h1]
  unfold Builtin.Range.rangeFitsLong
  simp only [Bool.and_eq_true, Bool.or_eq_true, decide_eq_true_eq]
  refine ⟨⟨⟨⟨⟨by omega, by omega⟩, by omega, by omega⟩, by omega, by omega⟩, by omega, by omega⟩, .inr ⟨by omega, by omega⟩⟩
theorem rangeC_get {lo hi c : Int} {i : Nat} {d : PyData} (h : (rangeCL lo hi c)[i]? = some d) : i < rangeCn lo hi c ∧ d = .int (lo + (i : Int) * c) := by
  unfold rangeCL at h
  rw [List.getElem?_map] at h
  cases q : (List.range (rangeCn lo hi c))[i]? with
  | none => rw [q] at h; cases h
  | some j =>
    rw [q] at h
    obtain ⟨h1, h2⟩ := List.getElem?_eq_some_iff.mp q
    rw [List.getElem_range] at h2
    subst h2
    cases h
    exact ⟨by simpa using h1, rfl⟩
theorem rangeC_len (lo hi c : Int) : (rangeCL lo hi c).length = rangeCn lo hi c := by simp [rangeCL]
theorem wk_rangeC {K : PySem.W.Frag} {O : List Addr} {H : Hp} {lo hi c : Int} : Wk K O H (Itc lo c (rangeCn lo hi c)) (rangeCL lo hi c) := by
  intro O' H' e lv i
  refine ⟨fun x hx => ?_, fun hi => by rw [rangeC_len] at hi; exact hi⟩
  obtain ⟨h1, rfl⟩ := rangeC_get hx
  refine ⟨h1, fun y H'' hy => ?_⟩
  obtain ⟨rfl, rfl⟩ := hy
  exact ⟨Same.refl _, .int _⟩
theorem ti_range3 {tg a b c : Expr} (hg : Gl X "range") (hm : X.mg "range" = none) (ha : PE X a (TEof X.K ea)) (hb : PE X b (TEof X.K eb)) (hc : PE X c (TEof X.K ec)) (hs : starEach [a, b, c] X.env = (false, eval a X.env) :: starEach [b, c] X.env) (hs2 : starEach [b, c] X.env = (false, eval b X.env) :: starEach [c] X.env) (hs3 : starEach [c] X.env = (false, eval c X.env) :: starEach [] X.env) :
    PI X tg (.Call (.Name "range" p) [a, b, c] [] pos) (TIof X.K (.range3 ea eb ec)) :=
  pi_weak (pi_range3 hg hm (pa_cons ha (pa_cons hb (pa_cons hc pa_nil hs3) hs2) hs) hs (by rw [hs2, hs3]; rfl)) fun σ H R ⟨F, O, env, eo, hw⟩ => te_then eo hw fun r1 env1 v1 H1 q1 e1 c1 s1 a1 => te_then e1 q1 fun r2 env2 v2 H2 q2 e2 c2 s2 a2 => te_then e2 q2 fun r3 env3 v3 H3 q3 e3 c3 s3 a3 => by
    split at q3
    · rename_i m n s
      cases (show Dp X.K _ v1 (.int _) from s1)
      cases (show Dp X.K _ v2 (.int _) from s2)
      cases (show Dp X.K _ v3 (.int _) from s3)
      obtain ⟨⟨h1, h2, h3, h4, h5, h6, h7⟩, q⟩ := q3
      have hl : (rangeCL m n s).length ≤ sizeLine := by rw [rangeC_len]; omega
      exact ⟨m, n, s, rangeCn m n s, rfl, rgC_ok ⟨h1, h2, h3, h4, h5, h6⟩, q _ H3 e3 ((c1.trans c2).trans c3) wk_rangeC hl⟩
    · exact q3.elim
def rgVC (i c : Int) (n : Nat) : List V := (List.range n).map fun k => V.int (i + (k : Nat) * c)
theorem rgC_dp {K : PySem.W.Frag} {H : Hp} {lo hi c : Int} : DpAll K H (rgVC lo c (rangeCn lo hi c)) (rangeCL lo hi c) := by
  unfold rgVC rangeCL
  generalize List.range (rangeCn lo hi c) = l
  induction l with
  | nil => exact .nil
  | cons a l ih => exact .cons (.int _) ih
theorem vals_rgC {a c : Int} {n : Nat} {acc : Array Value} (h : ItemsOf (fun i v => ∃ t, v = .int (a + i * c) t) acc n) : Vals (rgVC a c n) acc.toList := by
  have e : acc.toList.length = n := by rw [Array.length_toList]; exact h.1
  unfold rgVC
  rw [← e]
  refine vals_of_get acc.toList _ fun j u hj => ?_
  obtain ⟨t, rfl⟩ := h.2 j u (by rw [← hj, Array.getElem?_toList])
  exact ⟨t, rfl⟩
def tLst3 (ta : TA) : TE := fun σ H Q => ta σ H fun vs H1 => ∃ (i j c : Int) (n : Nat), vs = [.int i, .int j, .int c] ∧ RgC i j c n ∧ n < sizeLine ∧ ∀ q, H1 q = none → Q (.ref q) (upd H1 q (.lst (rgVC i c n)))
theorem pe_lst3 {a b c : Expr} {ta : TA} {p2 pos2 : Pos} (hcm : X.calm = true) (hl : Gl X "list") (hlm : X.mg "list" = none) (hg : Gl X "range") (hm : X.mg "range" = none) (ha : PA X [a, b, c] ta) (hs : starEach [a, b, c] X.env = (false, eval a X.env) :: starEach [b, c] X.env) (hpl : (backTo pos2 (starEach [b, c] X.env)).any (·.1) = false)
    (na : starEach [.Call (.Name "range" p2) [a, b, c] [] pos2] X.env = (false, eval (.Call (.Name "range" p2) [a, b, c] [] pos2) X.env) :: starEach [] X.env) :
    PE X (.Call (.Name "list" p) [.Call (.Name "range" p2) [a, b, c] [] pos2] [] pos) (tLst3 ta) := by
  refine ⟨fun pins s σ H Q I h => ?_⟩
  refine Call_ (ld_blt I hl hlm boot_list (PyProof.Rows.callWith_type1 (args_cons ?_ na) na))
  refine Call_ (ld_blt I hg hm boot_range (PyProof.Rows.callWith_type1 (thn (ha.run pos2 pins s σ H _ I h) fun us s1 ⟨vs, H1, I1, r1, q1⟩ => ?_) hs hpl))
  obtain ⟨i, j, k, n, e, ⟨c0, c1, c2, c3⟩, hn, q⟩ := q1
  subst e
  cases r1 with
  | cons r rr =>
    cases rr with
    | cons r' rr =>
      cases rr with
      | cons r'' rr =>
        cases rr
        obtain ⟨t, rfl⟩ := r
        obtain ⟨t', rfl⟩ := r'
        obtain ⟨t'', rfl⟩ := r''
        refine call_range_3 c0 ?_ (.inl (PyProof.noPylong_small c1))
        refine args_nil ?_
        have I2 : Inv X pins σ H1 { s1 with heap := s1.heap.push { cls := .type "range", data := .fields #[.int i t, .int j t', .int k t''] } } := I1.kept (t' := s1.toks) fun b o e => Heap.get?_push_of_some _ e
        have h6 : sizeLine ≤ 2 ^ 24 := by decide +kernel
        refine call_list_range (n := n) (I2.ok.hd hcm) (IsRange.new ..) c2 c3 (by omega) fun h' tk acc c' hk e' hi => ?_
        refine ⟨.ref _, upd H1 _ (.lst (rgVC i k n)), I2.laid hk (Nat.le_refl _) (show ObjOk X.prog X.w _ _ _ (.lst (rgVC i k n)) from ⟨?_, acc.toList, c', vals_rgC hi, ?_⟩), rfl, q _ (I2.hok.fresh (Nat.le_refl _))⟩
        · unfold rgVC
          rw [List.length_map, List.length_range]; omega
        · rw [Array.toArray_toList]; exact e'
theorem te_lrg3 {a b c : Expr} {p2 pos2 : Pos} (hcm : X.calm = true) (hl : Gl X "list") (hlm : X.mg "list" = none) (hg : Gl X "range") (hm : X.mg "range" = none) (ha : PE X a (TEof X.K ea)) (hb : PE X b (TEof X.K eb)) (hc : PE X c (TEof X.K ec)) (hs : starEach [a, b, c] X.env = (false, eval a X.env) :: starEach [b, c] X.env) (hs2 : starEach [b, c] X.env = (false, eval b X.env) :: starEach [c] X.env) (hs3 : starEach [c] X.env = (false, eval c X.env) :: starEach [] X.env) :
    PE X (.Call (.Name "list" p) [.Call (.Name "range" p2) [a, b, c] [] pos2] [] pos) (TEof X.K (.lrg3 ea eb ec)) :=
  pe_weak (pe_lst3 hcm hl hlm hg hm (pa_cons ha (pa_cons hb (pa_cons hc pa_nil hs3) hs2) hs) hs (by rw [hs2, hs3]; rfl) star_call) fun σ H R ⟨F, O, env, eo, hw⟩ => te_then eo hw fun r1 env1 v1 H1 q1 e1 c1 s1 a1 => te_then e1 q1 fun r2 env2 v2 H2 q2 e2 c2 s2 a2 => te_then e2 q2 fun r3 env3 v3 H3 q3 e3 c3 s3 a3 => by
    split at q3
    · rename_i m n s
      cases (show Dp X.K _ v1 (.int _) from s1)
      cases (show Dp X.K _ v2 (.int _) from s2)
      cases (show Dp X.K _ v3 (.int _) from s3)
      obtain ⟨⟨h1, h2, h3, h4, h5, h6, h7⟩, q⟩ := q3
      have cc := (c1.trans c2).trans c3
      refine ⟨m, n, s, rangeCn m n s, rfl, rgC_ok ⟨h1, h2, h3, h4, h5, h6⟩, h7, fun p hp => ?_⟩
      exact q _ _ (e3.grow (same_new hp)) (cc.trans (chg_new hp)) (res_new e3 hp cc rgC_dp) (avR_new e3 hp)
    · exact q3.elim
/-! ### an item taken out -/
theorem dps_erase {K : PySem.W.Frag} {H : Hp} : ∀ {vs : List V} {ds : List PyData} (n : Nat), DpAll K H vs ds → DpAll K H (vs.eraseIdx n) (ds.eraseIdx n)
  | _, _, _, .nil => by simpa using .nil
  | _, _, 0, .cons _ t => t
  | _, _, n + 1, .cons r t => .cons r (dps_erase n t)
theorem pop_red {K : PySem.W.Frag} {j : Nat} {i : E} {σ : L2.St} {H : Hp} {Q : VK} (h : TEof K (.pop j i) σ H Q) : tBM K "list" rPopAt (tVar j) (tCons (TEof K i) tNil) σ H Q := by
  obtain ⟨F, O, env, eo, hw⟩ := h
  unfold wE at hw
  split at hw
  · rename_i ds0 hg
    obtain ⟨p, vs, h1, h2, h3, h4⟩ := eo.own j _ hg
    refine ⟨.ref p, h1, .inl ⟨rfl, vs, .inl (.inl h3)⟩, te_then eo hw fun r env1 v H1 q e1 c1 s1 a1 => ?_⟩
    split at q
    · rename_i n ds hg1
      cases (show Dp K _ v (.int _) from s1)
      obtain ⟨p', vs', g1, g2, g3, g4⟩ := e1.own j ds hg1
      rw [h1] at g1; cases g1
      obtain ⟨⟨b1, b2⟩, q⟩ := q
      split at q
      · rename_i x hx
        obtain ⟨y, hy, hd⟩ := dps_get g4 hx
        have hlt : n.toNat < vs'.length := (List.getElem?_eq_some_iff.mp hy).1
        have c2 : Chg O H1 (upd H1 p (.lst (vs'.eraseIdx n.toNat))) := fun a o z m => by
          rw [upd_ne (fun w => m (by rw [w]; exact g2))]
          exact z
        have hix : seqIndex? n vs'.length = some n.toNat := by
          have h5 : ¬ n < 0 := by omega
          have h6 : (0 : Int) ≤ n ∧ n < vs'.length := by omega
          simp [seqIndex?, h5, h6]
        refine ⟨p, vs', n, n.toNat, y, rfl, rfl, g3, by omega, b2, hix, hy, ?_⟩
        exact q y _ (e1.put hg1 h1 c2 (fun a o z ne => by rw [upd_ne ne]; exact z) upd_same (dps_mono c2.wo (dps_erase _ g4))) (c1.trans c2) (dp_mono c2.wo hd) trivial
      · exact q.elim
    · exact q.elim
  · exact hw.elim
/-! ### several names at once, the last ones get empty lists -/
def TNils : Nat → TA
  | 0 => tNil
  | n + 1 => tCons (tLst tNil) (TNils n)
def TNof (K : PySem.W.Frag) : Es → Nat → TA
  | .nil, n => TNils n
  | .cons e es, n => tCons (TEof K e) (TNof K es n)
inductive Frs : Nat → Hp → List V → Hp → Prop
  | nil {H : Hp} : Frs 0 H [] H
  | cons {n : Nat} {H H' : Hp} {p : Addr} {vs : List V} (h : H p = none) (t : Frs n (upd H p (.lst [])) vs H') : Frs (n + 1) H (.ref p :: vs) H'
theorem tnils {σ : L2.St} : ∀ {n : Nat} {H : Hp} {Q : List V → Hp → Prop}, (∀ vs H', Frs n H vs H' → Q vs H') → TNils n σ H Q
  | 0, H, Q, h => h [] H .nil
  | n + 1, H, Q, h => ⟨Nat.zero_le _, fun p hp => tnils (n := n) fun vs H' f => h _ _ (.cons hp f)⟩
theorem tn_then {K : PySem.W.Frag} {σ : L2.St} {O : List Addr} {n : Nat} : ∀ {es : Es} {H : Hp} {env : AEnv} {q : List AV → AEnv → Prop} {Q : List V → Hp → Prop}, EnvOk K F O H σ env → wEs es env q X0 →
    (∀ rs env1 vs H1, q rs env1 → EnvOk K F O H1 σ env1 → Chg O H H1 → ResAll K O H H1 σ vs rs → ∀ ws H2, Frs n H1 ws H2 → Q (vs ++ ws) H2) → TNof K es n σ H Q
  | .nil, H, env, q, Q, eo, hw, k => tnils (n := n) fun ws H2 f => k [] env [] H hw eo .refl trivial ws H2 f
  | .cons e es, H, env, q, Q, eo, hw, k => te_then eo hw fun r1 env1 v1 H1 q1 e1 c1 s1 a1 => tn_then (es := es) e1 q1 fun rs env2 vs H2 q2 e2 c2 s2 ws H3 f =>
      k (r1 :: rs) env2 (v1 :: vs) H2 q2 e2 (c1.trans c2) ⟨s1.chg c2, s2.back c1⟩ ws H3 f
theorem setsV_app : ∀ {is js : List Nat} {vs ws : List V} {σ : L2.St}, vs.length = is.length → setsV σ (is ++ js) (vs ++ ws) = setsV (setsV σ is vs) js ws
  | [], js, [], ws, σ, _ => rfl
  | [], js, _ :: _, ws, σ, h => by simp at h
  | _ :: _, js, [], ws, σ, h => by simp at h
  | i :: is, js, v :: vs, ws, σ, h => by
    show setsV (σ.set i (some v)) (is ++ js) (vs ++ ws) = setsV (setsV (σ.set i (some v)) is vs) js ws
    exact setsV_app (σ := σ.set i (some v)) (by simpa using h)
theorem frs_ok {K : PySem.W.Frag} : ∀ {js : List Nat} {O : List Addr} {H H' : Hp} {σ : L2.St} {env : AEnv} {ws : List V}, EnvOk K F O H σ env → Frs js.length H ws H' → (∀ i ∈ js, ∀ p, F.par i ≠ some p) → ∃ O', EnvOk K F O' H' (setsV σ js ws) (setNils js env) ∧ Ext O H O' H'
  | [], O, H, H', σ, env, ws, e, f, hp => by
    cases f
    exact ⟨O, e, .refl⟩
  | j :: js, O, H, H', σ, env, ws, e, f, hp => by
    cases f with
    | cons h t =>
      rename_i p vs
      have no := e.notO h
      have av := av_new (o := .lst []) e h
      have e1 := (e.grow (same_new (o := .lst []) h)).setO (hp j List.mem_cons_self) (e.fresh0 h) no upd_same (.nil : DpAll K _ [] []) (.inr trivial) av.dat av.own
      obtain ⟨O', e2, x⟩ := frs_ok (js := js) e1 t fun i hi => hp i (List.mem_cons_of_mem _ hi)
      refine ⟨O', e2, Ext.trans ⟨chg_new h, fun a ha => ?_⟩ x⟩
      rcases List.mem_cons.mp ha with z | z
      · subst z; exact .inr h
      · exact .inl z
theorem frs_len : ∀ {n : Nat} {H H' : Hp} {vs : List V}, Frs n H vs H' → vs.length = n
  | _, _, _, _, .nil => rfl
  | _, _, _, _, .cons _ t => by rw [List.length_cons, frs_len t]
theorem parN_rd {K : PySem.W.Frag} {R : List Nat} {is js : List Nat} {es : Es} {D : Ends} {σ : L2.St} {H : Hp} (hsl : ∀ i ∈ is ++ js, i ∉ R) (h : TSof K R (.parN is es js) D σ H) : TNof K es js.length σ H fun vs H1 => vs.length = (is ++ js).length ∧ D.nx (setsV σ (is ++ js) vs) H1 := by
  obtain ⟨F, O, env, fr, eo, hw⟩ := h
  refine tn_then eo hw fun rs env1 vs H1 q e1 c1 s1 ws H2 f => ?_
  obtain ⟨xs, ⟨hl, q⟩, hd⟩ := res_datas s1 q
  have hv : vs.length = is.length := by rw [dps_len hd]; exact hl
  refine ⟨by rw [List.length_append, List.length_append, hv, frs_len f], ?_⟩
  rw [setsV_app hv]
  have e2 : EnvOk K F O H1 (setsV σ is vs) (setMany is xs env1) := by
    have gen : ∀ {is : List Nat} {vs : List V} {xs : List PyData} {σ : L2.St} {env : AEnv}, EnvOk K F O H1 σ env → DpAll K (Wo H1 O) vs xs → xs.length = is.length → (∀ i ∈ is, ∀ p, F.par i ≠ some p) → EnvOk K F O H1 (setsV σ is vs) (setMany is xs env) := by
      intro is
      induction is with
      | nil =>
        intro vs xs σ env e d hl _
        cases d with
        | nil => exact e
        | cons _ _ => simp at hl
      | cons i is ih =>
        intro vs xs σ env e d hl hp
        cases d with
        | nil => simp at hl
        | cons h t => exact ih (e.setD (hp i List.mem_cons_self) h) t (by simpa using hl) fun j hj => hp j (List.mem_cons_of_mem _ hj)
    exact gen e1 hd hl fun i hi => fr.no (hsl i (List.mem_append_left _ hi))
  obtain ⟨O', e3, x⟩ := frs_ok (js := js) e2 f fun i hi => fr.no (hsl i (List.mem_append_right _ hi))
  exact q _ _ O' e3 (Ext.trans (.of c1) x)
end
end PF

set_option maxRecDepth 100000
set_option maxHeartbeats 1000000
namespace PF
open PySem PySem.Spec PyProof.Rows L2
/-! ### the text is what it is said to be -/
def isVis (sc : Scope) (x : Str) : Bool := match sc.names.lookup x with
  | some .local => true
  | some .cell => true
  | some .free => true
  | _ => false
def plainNm (x : Str) : Bool := !(x == ("__debug__" : Str)) && !(x == ("__classdict__" : Str))
def nameIs (Z : Sc) (i : Nat) (x : Str) : Bool := decide (Z.N[i]? = some x) && isVis Z.sc x && plainNm x
def glIs (Z : Sc) (x : Str) : Bool := decide (Z.sc.names.lookup x = some .globalImplicit) && plainNm x
def storeIs (Z : Sc) (i : Nat) (x : Str) : Bool := decide (Z.N[i]? = some x) && (decide (Z.sc.names.lookup x = some .local) || (decide (Z.sc.names.lookup x = some .cell) && Z.fn x))
def noStar : Expr → Bool
  | .Starred _ _ => false
  | _ => true
def noSlice : Expr → Bool
  | .Slice _ _ _ _ => false
  | _ => true
def noComp : Expr → Bool
  | .ListComp _ _ _ _ => false
  | .SetComp _ _ _ _ => false
  | .DictComp _ _ _ _ _ => false
  | _ => true
def noSet : Expr → Bool
  | .Set _ _ _ => false
  | _ => true
def plainTest : Expr → Bool
  | .UnaryOp .Not _ _ => false
  | .BoolOp _ _ _ => false
  | .IfExp _ _ _ _ => false
  | .Compare _ _ _ _ => false
  | _ => true
def bnames : List Str := ["len", "abs", "max", "min", "int", "sum", "any", "all", "list", "tuple", "sorted", "repr", "bool", "isinstance", "range", "enumerate", "zip", "str"]
theorem star_no {e : Expr} {es : List Expr} {env : Env} (h : noStar e = true) : starEach (e :: es) env = (false, eval e env) :: starEach es env := by
  cases e <;> first | rfl | cases h
def tyStr : Ty → Str
  | .int => "int" | .bool => "bool" | .str => "str" | .list => "list" | .tuple => "tuple"
def chkTgs (Z : Sc) : List Nat → List Expr → Bool
  | [], [] => true
  | i :: is, .Name x _ :: es => storeIs Z i x && chkTgs Z is es
  | _, _ => false
def chkTg (Z : Sc) : Tg → Expr → Bool
  | .nm i, .Name x _ => storeIs Z i x
  | .tp is, .Tuple es _ _ => chkTgs Z is es
  | _, _ => false
def arity : BI → Nat
  | .max2 => 2
  | .min2 => 2
  | _ => 1
def Sc.blk (Z : Sc) (scope : Scope) : Sc := { Z with sc := relS scope Z.sc, fn := fun x => scope.names.lookup x == some .cell }
def inSlots (tg : Tg) (own : List (Str × Nat)) : Bool := (tgSlots tg).all fun i => (own.map (·.2)).contains i
mutual
def chkE (Z : Sc) : E → Expr → Bool
  | .var i, e => match e with | .Name x _ => nameIs Z i x | _ => false
  | .int i, e => match e with | .Constant (.int j) _ _ => decide (i = j) | _ => false
  | .bool b, e => match e with | .Constant (.bool c) _ _ => decide (b = c) | _ => false
  | .none, e => match e with | .Constant .none _ _ => true | _ => false
  | .str s, e => match e with | .Constant (.str t) _ _ => decide (s = t) | _ => false
  | .glob x _, e => match e with | .Name y _ => decide (x = y) && glIs Z x | _ => false
  | .bin op a b, e => match e with | .BinOp l o r _ => decide (opOf op = o) && chkE Z a l && chkE Z b r | _ => false
  | .neg a, e => match e with | .UnaryOp .USub x _ => chkE Z a x | _ => false
  | .rep a n, e => match e with | .BinOp l .Mult r _ => chkE Z a l && chkE Z n r | _ => false
  | .not a, e => match e with | .UnaryOp .Not x _ => chkE Z a x | _ => false
  | .and a b, e => match e with
    | .BoolOp .And (l :: l2 :: rest) pos => chkE Z a l && (match rest with | [] => chkE Z b l2 | r :: rs => chkE Z b (.BoolOp .And (l2 :: r :: rs) pos))
    | _ => false
  | .or a b, e => match e with
    | .BoolOp .Or (l :: l2 :: rest) pos => chkE Z a l && (match rest with | [] => chkE Z b l2 | r :: rs => chkE Z b (.BoolOp .Or (l2 :: r :: rs) pos))
    | _ => false
  | .cmp op a b, e => match e with | .Compare l [o] [r] _ => decide (copOf op = o) && !behindInMarks o r && chkE Z a l && chkE Z b r | _ => false
  | .chain o1 o2 a b c, e => match e with | .Compare l [p1, p2] [r, r2] _ => decide (copOf o1 = p1) && decide (copOf o2 = p2) && !behindInMarks p2 r2 && chkE Z a l && chkE Z b r && chkE Z c r2 | _ => false
  | .ife c a b, e => match e with | .IfExp t x y _ => chkE Z c t && okT c && chkE Z a x && chkE Z b y | _ => false
  | .tup es, e => match e with | .Tuple xs _ _ => chkEs Z es xs && decide (xs.length ≤ 1000) | _ => false
  | .lst es, e => match e with | .List xs _ => chkEs Z es xs && decide (xs.length ≤ 1000) | _ => false
  | .ix a i, e => match e with | .Subscript x y _ => noSlice y && chkE Z a x && chkE Z i y | _ => false
  | .slL a lo, e => match e with | .Subscript x (.Slice (some l) none none _) _ => chkE Z a x && chkE Z lo l | _ => false
  | .slU a hi, e => match e with | .Subscript x (.Slice none (some l) none _) _ => chkE Z a x && chkE Z hi l | _ => false
  | .slLU a lo hi, e => match e with | .Subscript x (.Slice (some l) (some u) none _) _ => chkE Z a x && chkE Z lo l && chkE Z hi u | _ => false
  | .slRev a, e => match e with | .Subscript x (.Slice none none (some (.UnaryOp .USub (.Constant (.int 1) _ _) _)) _) _ => chkE Z a x | _ => false
  | .call x _ es, e => match e with | .Call (.Name y _) xs [] _ => decide (x = y) && glIs Z x && chkEs Z es xs | _ => false
  | .callK x _ _ ks es, e => match e with | .Call (.Name y _) [] kws _ => decide (x = y) && glIs Z x && chkK Z ks es kws | _ => false
  | .callO x _ a, e => match e with | .Call (.Name y _) [z] [] _ => decide (x = y) && glIs Z x && noStar z && chkE Z a z | _ => false
  | .bi f es, e => match e with | .Call (.Name y _) (a :: as) [] _ => decide (biName f = y) && decide (f ≠ .bool) && decide ((a :: as).length = arity f) && glIs Z y && chkEs Z es (a :: as) | _ => false
  | .inst a ts, e => match e, ts with | .Call (.Name y _) [x, .Name t _] [] _, [ty] => decide (y = "isinstance") && glIs Z y && decide (t = tyStr ty) && glIs Z t && noStar x && chkE Z a x | _, _ => false
  | .lrg1 a, e => match e with | .Call (.Name l _) [.Call (.Name y _) [x] [] _] [] _ => decide (l = "list") && glIs Z l && decide (y = "range") && glIs Z y && noStar x && chkE Z a x | _ => false
  | .lrg2 a b, e => match e with | .Call (.Name l _) [.Call (.Name y _) [x, x2] [] _] [] _ => decide (l = "list") && glIs Z l && decide (y = "range") && glIs Z y && noStar x && noStar x2 && chkE Z a x && chkE Z b x2 | _ => false
  | .lrg3 a b c, e => match e with | .Call (.Name l _) [.Call (.Name y _) [x, x2, x3] [] _] [] _ => decide (l = "list") && glIs Z l && decide (y = "range") && glIs Z y && noStar x && noStar x2 && noStar x3 && chkE Z a x && chkE Z b x2 && chkE Z c x3 | _ => false
  | .pop j i, e => match e with | .Call (.Attribute (.Name x _) m ap) [y] [] cp => decide (m = "pop") && nameIs Z j x && noStar y && (ap.endLine == cp.line) && chkE Z i y | _ => false
  | .comp elt cond c tg it own, e => match e with
    | .ListComp x [⟨t, i, ifs, 0⟩] scope _ => blkC Z.N Z.sc scope own && chkIt Z it tg t i && chkTg (Z.blk scope) tg t && inSlots tg own && noSet i &&
        (match cond, ifs with | none, [] => true | some _, [y] => chkE (Z.blk scope) c y && okT c | _, _ => false) && chkE (Z.blk scope) elt x
    | _ => false
def chkEs (Z : Sc) : Es → List Expr → Bool
  | .nil, es => match es with | [] => true | _ => false
  | .cons e es, xs => match xs with | x :: xs => noStar x && chkE Z e x && chkEs Z es xs | _ => false
def chkK (Z : Sc) (ks : List Str) : Es → List Keyword → Bool
  | .nil, kws => match kws, ks with | [], [] => true | _, _ => false
  | .cons e es, kws => match kws, ks with | ⟨some n, x, _⟩ :: kws, k :: ks => decide (n = k) && chkE Z e x && chkK Z ks es kws | _, _ => false
def chkIt (Z : Sc) : PF.It → Tg → Expr → Expr → Bool
  | .seq e, _, _, i => chkE Z e i
  | .range1 a, _, _, i => match i with | .Call (.Name y _) [x] [] _ => decide (y = "range") && glIs Z y && noStar x && chkE Z a x | _ => false
  | .range2 a b, _, _, i => match i with | .Call (.Name y _) [x, x2] [] _ => decide (y = "range") && glIs Z y && noStar x && noStar x2 && chkE Z a x && chkE Z b x2 | _ => false
  | .range3 a b c, _, _, i => match i with | .Call (.Name y _) [x, x2, x3] [] _ => decide (y = "range") && glIs Z y && noStar x && noStar x2 && noStar x3 && chkE Z a x && chkE Z b x2 && chkE Z c x3 | _ => false
  | .enum e, tg, t, i => match i, tg with | .Call (.Name y _) [x] [] _, .tp _ => decide (y = "enumerate") && glIs Z y && noStar x && chkE Z e x | _, _ => false
  | .zip a b, tg, t, i => match i, tg with | .Call (.Name y _) [x, x2] [] _, .tp _ => decide (y = "zip") && glIs Z y && noStar x && noStar x2 && chkE Z a x && chkE Z b x2 | _, _ => false
/-- a test may be taken apart -/
def okT : E → Bool
  | .not a => okT a
  | .and a b => okT a && okT b
  | .or a b => okT a && okT b
  | .ife _ _ _ => false
  | _ => true
end
end PF

set_option maxRecDepth 100000
set_option maxHeartbeats 1000000
namespace PF
open PySem PySem.Spec PyProof.Rows L2
/-- what is called, what is named -/
structure Lk where
  C : Str → ASp → Prop
  CK : Str → ASp → List Str → List Str → Prop
  G : Str → PyData → Prop
mutual
def okE (L : Lk) : E → Prop
  | .var _ | .int _ | .bool _ | .none | .str _ => True
  | .glob x v => L.G x v
  | .bin _ a b => okE L a ∧ okE L b
  | .neg a => okE L a
  | .rep a b => okE L a ∧ okE L b
  | .not a => okE L a
  | .and a b => okE L a ∧ okE L b
  | .or a b => okE L a ∧ okE L b
  | .cmp _ a b => okE L a ∧ okE L b
  | .chain _ _ a b c => okE L a ∧ okE L b ∧ okE L c
  | .ife c a b => okE L c ∧ okE L a ∧ okE L b
  | .tup es => okEs L es
  | .lst es => okEs L es
  | .ix a b => okE L a ∧ okE L b
  | .slL a b => okE L a ∧ okE L b
  | .slU a b => okE L a ∧ okE L b
  | .slLU a b c => okE L a ∧ okE L b ∧ okE L c
  | .slRev a => okE L a
  | .call x sp es => L.C x sp ∧ okEs L es
  | .callK x sp ps ks es => L.CK x sp ps ks ∧ okEs L es
  | .callO x sp a => L.C x sp ∧ okE L a
  | .bi _ es => okEs L es
  | .inst a _ => okE L a
  | .lrg1 a => okE L a
  | .lrg2 a b => okE L a ∧ okE L b
  | .lrg3 a b c => okE L a ∧ okE L b ∧ okE L c
  | .pop _ i => okE L i
  | .comp elt _ c _ it _ => okE L elt ∧ okE L c ∧ okIt L it
def okEs (L : Lk) : Es → Prop
  | .nil => True
  | .cons e es => okE L e ∧ okEs L es
def okIt (L : Lk) : PF.It → Prop
  | .seq e => okE L e
  | .range1 a => okE L a
  | .range2 a b => okE L a ∧ okE L b
  | .range3 a b c => okE L a ∧ okE L b ∧ okE L c
  | .enum e => okE L e
  | .zip a b => okE L a ∧ okE L b
end
structure Whr (P : Program) (w : World) (K : PySem.W.Frag) (mg : Str → Option Value) (base : Heap) (k : Nat) (Z : Sc) (X : Cx) : Prop where
  g : Good Z k X
  prog : X.prog = P
  w : X.w = w
  K : X.K = K
  mg : X.mg = mg
  base : X.base = base
  bn : ∀ x ∈ bnames, X.mg x = none
def lkOf (P : Program) (w : World) (K : PySem.W.Frag) (mg : Str → Option Value) (base : Heap) (k : Nat) : Lk := ⟨fun x sp => CallOk P w K mg base k x sp, fun x sp ps ks => CallKOk P w K mg base k x sp ps ks, fun x d => GlobOk K mg x d⟩
section
variable {P : Program} {w : World} {K : PySem.W.Frag} {mg : Str → Option Value} {base : Heap} {k : Nat} {Z : Sc} {X : Cx}
theorem Whr.u (c : Whr P w K mg base k Z X) : X.A.units + 70 < cLine := by have := c.g.room.un; omega
theorem Whr.gl (c : Whr P w K mg base k Z X) {x : Str} (h : glIs Z x = true) : Gl X x ∧ (x == ("__debug__" : Str)) = false := by
  unfold glIs plainNm at h
  simp only [Bool.and_eq_true, decide_eq_true_eq, Bool.not_eq_true'] at h
  refine ⟨?_, h.2.1⟩
  show X.env.scope.names.lookup x = _
  rw [c.g.sc]
  exact h.1
theorem Whr.no (c : Whr P w K mg base k Z X) {x : Str} (h : x ∈ bnames) : X.mg x = none := c.bn x h
theorem Whr.var (c : Whr P w K mg base k Z X) {i : Nat} {x : Str} (h : nameIs Z i x = true) : X.N[i]? = some x ∧ Vis X.env.scope x ∧ (x == ("__debug__" : Str)) = false ∧ (x == ("__classdict__" : Str)) = false := by
  unfold nameIs plainNm at h
  simp only [Bool.and_eq_true, decide_eq_true_eq, Bool.not_eq_true'] at h
  refine ⟨by rw [c.g.hN]; exact h.1.1, ?_, h.2.1, h.2.2⟩
  rw [c.g.sc]
  have h2 := h.1.2
  unfold isVis at h2
  split at h2
  · exact .inl (by assumption)
  · exact .inr (.inl (by assumption))
  · exact .inr (.inr (by assumption))
  · cases h2
theorem Whr.store (c : Whr P w K mg base k Z X) {i : Nat} {x : Str} (h : storeIs Z i x = true) : X.N[i]? = some x ∧ Loc X.env.scope x ∧ (X.fn x = true ∨ X.env.scope.names.lookup x = some .local) := by
  unfold storeIs at h
  simp only [Bool.and_eq_true, Bool.or_eq_true, decide_eq_true_eq] at h
  refine ⟨by rw [c.g.hN]; exact h.1, ?_, ?_⟩
  · rw [c.g.sc]
    rcases h.2 with q | q
    · exact .inl q
    · exact .inr q.1
  · rw [c.g.sc]
    rcases h.2 with q | q
    · exact .inr q
    · exact .inl (c.g.fn x q.2)
theorem Whr.nd (c : Whr P w K mg base k Z X) : X.N.Nodup := by rw [c.g.hN]; exact c.g.nd
/-- in a comprehension's block -/
theorem Whr.blk (c : Whr P w K mg base k Z X) {scope : Scope} (hs : scope.kind = .function) (s : Shared) (H : Hp) (C : Addr) (cl : List (Str × Addr)) (fp : List Addr) : Whr P w K mg base k (Z.blk scope) (X.blk s H scope (compEnvC scope cl C X.env) fp) := by
  refine ⟨⟨c.g.hN, c.g.nd, ?_, hs, fun x h => h, c.g.calm, c.g.room, c.g.guards, rfl⟩, c.prog, c.w, c.K, c.mg, c.base, c.bn⟩
  show relS scope X.env.scope = relS scope Z.sc
  rw [c.g.sc]
theorem pg_tgs (c : Whr P w K mg base k Z X) : ∀ {is : List Nat} {es : List Expr}, chkTgs Z is es = true → PGs X es (gsOf is) ∧ (assignEach es X.env).length = is.length ∧ (assignEach es X.env).findIdx? (·.1) = none
  | [], [], _ => ⟨pgs_nil, rfl, rfl⟩
  | i :: is, .Name x p :: es, h => by
    unfold chkTgs at h
    simp only [Bool.and_eq_true] at h
    obtain ⟨h1, h2⟩ := h
    obtain ⟨a, b, d⟩ := c.store h1
    obtain ⟨q1, q2, q3⟩ := pg_tgs c h2
    refine ⟨pgs_cons (pg_name c.nd a b d) q1 rfl, ?_, ?_⟩
    · show (assignEach es X.env).length + 1 = _
      rw [q2]
      rfl
    · show List.findIdx? (·.1) ((false, assign (.Name x p) X.env) :: assignEach es X.env) = none
      rw [List.findIdx?_cons, q3]
      rfl
theorem pg_tg (c : Whr P w K mg base k Z X) {tg : Tg} {t : Expr} (h : chkTg Z tg t = true) : PG X t (TGof X.K tg) := by
  cases tg with
  | nm i =>
    cases t <;> first
      | (cases h; done)
      | (obtain ⟨a, b, d⟩ := c.store h; exact pg_name c.nd a b d)
  | tp is =>
    cases t <;> first
      | (cases h; done)
      | (obtain ⟨q1, q2, q3⟩ := pg_tgs c h; exact pg_tup c.g.calm q1 q2 q3)
theorem fold_no {e : Expr} (h : noSet e = true) (env : Env) : ∀ x, foldedSetIterable e env x = pure x := by
  intro x
  cases e <;> first | rfl | cases h
theorem ix_plain {e : Expr} (h : noSlice e = true) : PlainIx e := by
  intro o i
  cases e <;> first | rfl | cases h
theorem marks {op : CmpOp} {e : Expr} (h : (!behindInMarks op e) = true) : behindInMarks op e = false := by simpa using h
theorem any_no {pos : Pos} {env : Env} : ∀ {es : Es} {xs : List Expr}, chkEs Z es xs = true → (backTo pos (starEach xs env)).any (·.1) = false
  | .nil, [], _ => rfl
  | .nil, _ :: _, h => by cases h
  | .cons e es, [], h => by cases h
  | .cons e es, x :: xs, h => by
    unfold chkEs at h
    simp only [Bool.and_eq_true] at h
    have ih := any_no (pos := pos) (env := env) h.2
    rw [star_no h.1.1]
    unfold backTo at ih ⊢
    rw [List.map_cons, List.any_cons, ih]
    rfl
theorem len_es : ∀ {es : Es} {xs : List Expr}, chkEs Z es xs = true → lenEs es = xs.length
  | .nil, [], _ => rfl
  | .nil, _ :: _, h => by cases h
  | .cons e es, [], h => by cases h
  | .cons e es, x :: xs, h => by
    unfold chkEs at h
    simp only [Bool.and_eq_true] at h
    show lenEs es + 1 = xs.length + 1
    rw [len_es h.2]
theorem kw_facts {pos : Pos} {env : Env} : ∀ {ks : List Str} {es : Es} {kws : List Keyword}, chkK Z ks es kws = true → lenEs es = ks.length ∧ (backToKw pos (keywordEach kws env)).all (·.1.isSome) = true ∧ (backToKw pos (keywordEach kws env)).filterMap (·.1) = ks ∧ (backToKw pos (keywordEach kws env)).any (·.1.isNone) = false
  | [], .nil, [], _ => ⟨rfl, rfl, rfl, rfl⟩
  | [], .nil, _ :: _, h => by cases h
  | _ :: _, .nil, [], h => by cases h
  | _ :: _, .nil, _ :: _, h => by cases h
  | ks, .cons e es, [], h => by unfold chkK at h; cases h
  | [], .cons e es, ⟨n, x, p⟩ :: kws, h => by
    unfold chkK at h
    cases n <;> cases h
  | q :: ks, .cons e es, ⟨n, x, p⟩ :: kws, h => by
    cases n with
    | none => unfold chkK at h; cases h
    | some n =>
      unfold chkK at h
      simp only [Bool.and_eq_true, decide_eq_true_eq] at h
      obtain ⟨⟨rfl, _⟩, h⟩ := h
      obtain ⟨a1, a2, a3, a4⟩ := kw_facts (pos := pos) (env := env) h
      refine ⟨by show lenEs es + 1 = ks.length + 1; rw [a1], ?_, ?_, ?_⟩
      · show ((some n).isSome && (backToKw pos (keywordEach kws env)).all (·.1.isSome)) = true
        rw [a2]; rfl
      · show List.filterMap (·.1) ((some n, _) :: backToKw pos (keywordEach kws env)) = n :: ks
        rw [List.filterMap_cons, a3]
      · show ((some n).isNone || (backToKw pos (keywordEach kws env)).any (·.1.isNone)) = false
        rw [a4]; rfl
theorem pw_of_pt {op : BoolOp} {vs : List Expr} {pos : Pos} {t : TT} (h : PT X (.BoolOp op vs pos) t) : PW X (.BoolOp op vs pos) t := ⟨fun wh pins s σ H Q I q => by
  have := h.run pins s σ H Q I q
  have e : isTrue (.BoolOp op vs pos) X.env wh = isTrue (.BoolOp op vs pos) X.env (eval (.BoolOp op vs pos) X.env) := rfl
  rw [e]
  exact this⟩
theorem plain_is {e : Expr} {env : Env} (h : plainTest e = true) : ∀ whole, isTrue e env whole = (do let v ← whole; standAt e.pos; holding [v] (truthy v)) := by
  intro wh
  cases e with
  | UnaryOp op x p => cases op <;> first | rfl | cases h
  | BoolOp op vs p => cases h
  | IfExp a b c p => cases h
  | Compare a b c p => cases h
  | _ => rfl
end
end PF

set_option maxRecDepth 100000
set_option maxHeartbeats 1000000
namespace PF
open PySem PySem.Spec PyProof.Rows L2
section
variable {P : Program} {w : World} {K : PySem.W.Frag} {mg : Str → Option Value} {base : Heap} {k : Nat}
theorem Whr.call {Z : Sc} {X : Cx} (c : Whr P w K mg base k Z X) {x : Str} {sp : ASp} (h : CallOk P w K mg base k x sp) : CallOk X.prog X.w X.K X.mg X.base k x sp := by
  rw [c.prog, c.w, c.K, c.mg, c.base]; exact h
theorem Whr.callK {Z : Sc} {X : Cx} (c : Whr P w K mg base k Z X) {x : Str} {sp : ASp} {ps ks : List Str} (h : CallKOk P w K mg base k x sp ps ks) : CallKOk X.prog X.w X.K X.mg X.base k x sp ps ks := by
  rw [c.prog, c.w, c.K, c.mg, c.base]; exact h
theorem Whr.glob {Z : Sc} {X : Cx} (c : Whr P w K mg base k Z X) {x : Str} {d : PyData} (h : GlobOk K mg x d) : GlobOk X.K X.mg x d := by
  rw [c.K, c.mg]; exact h
theorem bn_bi (f : BI) : biName f ∈ bnames := by cases f <;> decide +kernel
theorem bn_ty (t : Ty) : tyStr t ∈ bnames := by cases t <;> decide +kernel
theorem boot_ty (t : Ty) : bootBuiltins (tyStr t) = some (.type (tyName t)) := by cases t <;> decide +kernel
theorem ty_ne (t : Ty) : tyStr t ≠ ("__name__" : Str) := by cases t <;> decide +kernel
theorem args_ne {f : BI} {as : List Expr} (h : as.length = arity f) : as ≠ [] := by
  intro z
  subst z
  cases f <;> cases h
mutual
theorem sE : ∀ (e : E) {Z : Sc} {X : Cx} {ast : Expr}, Whr P w K mg base k Z X → chkE Z e ast = true → okE (lkOf P w K mg base k) e → PE X ast (TEof X.K e)
  | .var i, Z, X, ast, c, h, o => by
    unfold chkE at h
    split at h
    · obtain ⟨a, b, d, f⟩ := c.var h
      exact te_var a b d f
    · cases h
  | .int i, Z, X, ast, c, h, o => by
    unfold chkE at h
    split at h
    · rw [of_decide_eq_true h]; exact te_int
    · cases h
  | .bool i, Z, X, ast, c, h, o => by
    unfold chkE at h
    split at h
    · rw [of_decide_eq_true h]; exact te_bool
    · cases h
  | .none, Z, X, ast, c, h, o => by
    unfold chkE at h
    split at h
    · exact te_none
    · cases h
  | .str i, Z, X, ast, c, h, o => by
    unfold chkE at h
    split at h
    · rw [of_decide_eq_true h]; exact te_str
    · cases h
  | .glob x d, Z, X, ast, c, h, o => by
    unfold chkE at h
    split at h
    · simp only [Bool.and_eq_true, decide_eq_true_eq] at h
      obtain ⟨rfl, h⟩ := h
      obtain ⟨a, b⟩ := c.gl h
      exact te_glob (c.glob o) a b
    · cases h
  | .bin op a b, Z, X, ast, c, h, o => by
    unfold chkE at h
    split at h
    · simp only [Bool.and_eq_true, decide_eq_true_eq] at h
      obtain ⟨⟨rfl, h1⟩, h2⟩ := h
      exact te_bin op (sE a c h1 o.1) (sE b c h2 o.2)
    · cases h
  | .neg a, Z, X, ast, c, h, o => by
    unfold chkE at h
    split at h
    · exact te_neg (sE a c h o)
    · cases h
  | .rep a b, Z, X, ast, c, h, o => by
    unfold chkE at h
    split at h
    · simp only [Bool.and_eq_true] at h
      exact te_rep (sE a c h.1 o.1) (sE b c h.2 o.2)
    · cases h
  | .not a, Z, X, ast, c, h, o => by
    unfold chkE at h
    split at h
    · exact te_not (sE a c h o)
    · cases h
  | .and a b, Z, X, ast, c, h, o => by
    unfold chkE at h
    split at h
    · simp only [Bool.and_eq_true] at h
      obtain ⟨h1, h2⟩ := h
      split at h2
      · exact te_and (sE a c h1 o.1) (pe_one (sE b c h2 o.2))
      · exact te_and (sE a c h1 o.1) (sE b c h2 o.2)
    · cases h
  | .or a b, Z, X, ast, c, h, o => by
    unfold chkE at h
    split at h
    · simp only [Bool.and_eq_true] at h
      obtain ⟨h1, h2⟩ := h
      split at h2
      · exact te_or (sE a c h1 o.1) (pe_one (sE b c h2 o.2))
      · exact te_or (sE a c h1 o.1) (sE b c h2 o.2)
    · cases h
  | .cmp op a b, Z, X, ast, c, h, o => by
    unfold chkE at h
    split at h
    · simp only [Bool.and_eq_true, decide_eq_true_eq] at h
      obtain ⟨⟨⟨rfl, hm⟩, h1⟩, h2⟩ := h
      exact te_cmp op (by have := c.u; omega) (sE a c h1 o.1) (sE b c h2 o.2) (marks hm)
    · cases h
  | .chain o1 o2 a b d, Z, X, ast, c, h, o => by
    unfold chkE at h
    split at h
    · simp only [Bool.and_eq_true, decide_eq_true_eq] at h
      obtain ⟨⟨⟨⟨⟨rfl, rfl⟩, hm⟩, h1⟩, h2⟩, h3⟩ := h
      exact te_chain o1 o2 (by have := c.u; omega) (sE a c h1 o.1) (sE b c h2 o.2.1) (sE d c h3 o.2.2) (marks hm)
    · cases h
  | .ife d a b, Z, X, ast, c, h, o => by
    unfold chkE at h
    split at h
    · simp only [Bool.and_eq_true] at h
      obtain ⟨⟨⟨h1, ht⟩, h2⟩, h3⟩ := h
      exact te_ife (sT d c h1 o.1 ht) (sE a c h2 o.2.1) (sE b c h3 o.2.2)
    · cases h
  | .tup es, Z, X, ast, c, h, o => by
    unfold chkE at h
    split at h
    · simp only [Bool.and_eq_true, decide_eq_true_eq] at h
      exact te_tup (sEs es c h.1 o) (ta_len (by rw [len_es h.1]; exact Nat.le_trans h.2 (by decide)))
    · cases h
  | .lst es, Z, X, ast, c, h, o => by
    unfold chkE at h
    split at h
    · simp only [Bool.and_eq_true, decide_eq_true_eq] at h
      exact te_lst (sEs es c h.1 o) (ta_len (by rw [len_es h.1]; exact Nat.le_trans h.2 (by decide)))
    · cases h
  | .ix a b, Z, X, ast, c, h, o => by
    unfold chkE at h
    split at h
    · simp only [Bool.and_eq_true] at h
      obtain ⟨⟨hs, h1⟩, h2⟩ := h
      exact te_ix (sE a c h1 o.1) (sE b c h2 o.2) (ix_plain hs)
    · cases h
  | .slL a b, Z, X, ast, c, h, o => by
    unfold chkE at h
    split at h
    · simp only [Bool.and_eq_true] at h
      exact te_slL (sE a c h.1 o.1) (sE b c h.2 o.2)
    · cases h
  | .slU a b, Z, X, ast, c, h, o => by
    unfold chkE at h
    split at h
    · simp only [Bool.and_eq_true] at h
      exact te_slU (sE a c h.1 o.1) (sE b c h.2 o.2)
    · cases h
  | .slLU a b d, Z, X, ast, c, h, o => by
    unfold chkE at h
    split at h
    · simp only [Bool.and_eq_true] at h
      exact te_slLU (sE a c h.1.1 o.1) (sE b c h.1.2 o.2.1) (sE d c h.2 o.2.2)
    · cases h
  | .slRev a, Z, X, ast, c, h, o => by
    unfold chkE at h
    split at h
    · exact te_slRev (sE a c h o)
    · cases h
  | .call x sp es, Z, X, ast, c, h, o => by
    unfold chkE at h
    split at h
    · rename_i y p xs pos
      simp only [Bool.and_eq_true, decide_eq_true_eq] at h
      obtain ⟨⟨rfl, hg⟩, h⟩ := h
      obtain ⟨a, b⟩ := c.gl hg
      have pa := sEs es c h o.2
      cases es with
      | nil =>
        cases xs with
        | nil => exact te_call0 (c.call o.1) c.g.room c.g.guards a b
        | cons _ _ => cases h
      | cons e es =>
        cases xs with
        | nil => cases h
        | cons x' xs =>
          have h0 := h
          unfold chkEs at h
          simp only [Bool.and_eq_true] at h
          exact te_call (c.call o.1) c.g.room c.g.guards a b pa (star_no h.1.1) (any_no h.2)
    · cases h
  | .callO x sp a, Z, X, ast, c, h, o => by
    unfold chkE at h
    split at h
    · rename_i y p z pos
      simp only [Bool.and_eq_true, decide_eq_true_eq] at h
      obtain ⟨⟨⟨rfl, hg⟩, hs⟩, h⟩ := h
      obtain ⟨h1, h2⟩ := c.gl hg
      exact te_callO (c.call o.1) c.g.room c.g.guards h1 h2 (sE a c h o.2) (star_no hs)
    · cases h
  | .callK x sp ps ks es, Z, X, ast, c, h, o => by
    unfold chkE at h
    split at h
    · simp only [Bool.and_eq_true, decide_eq_true_eq] at h
      obtain ⟨⟨rfl, hg⟩, h⟩ := h
      obtain ⟨a, b⟩ := c.gl hg
      obtain ⟨a1, a2, a3, a4⟩ := kw_facts (env := X.env) h
      refine te_callK (c.callK o.1) c.g.room c.g.guards a b (sK es c h o.2) a1 a2 a3 ?_
      rw [a4]
      rfl
    · cases h
  | .bi f es, Z, X, ast, c, h, o => by
    unfold chkE at h
    split at h
    · simp only [Bool.and_eq_true, decide_eq_true_eq] at h
      obtain ⟨⟨⟨⟨rfl, hf⟩, ha⟩, hg⟩, h⟩ := h
      obtain ⟨a, b⟩ := c.gl hg
      have pa := sEs es c h o
      cases es with
      | nil => cases h
      | cons e es =>
        unfold chkEs at h
        simp only [Bool.and_eq_true] at h
        exact te_bi f hf c.g.calm c.g.guards c.u a (c.no (bn_bi f)) pa (star_no h.1.1) (any_no h.2)
    · cases h
  | .inst a ts, Z, X, ast, c, h, o => by
    unfold chkE at h
    split at h
    · rename_i ty
      simp only [Bool.and_eq_true, decide_eq_true_eq] at h
      obtain ⟨⟨⟨⟨⟨rfl, hg⟩, rfl⟩, hg2⟩, hs⟩, h⟩ := h
      obtain ⟨g1, g2⟩ := c.gl hg
      obtain ⟨g3, g4⟩ := c.gl hg2
      exact te_inst g1 (c.no (by decide +kernel)) (sE a c h o) (te_tyname g3 (c.no (bn_ty ty)) (boot_ty ty) (ty_ne ty) g4) (star_no hs) rfl rfl
    · cases h
  | .lrg1 a, Z, X, ast, c, h, o => by
    unfold chkE at h
    split at h
    · simp only [Bool.and_eq_true, decide_eq_true_eq] at h
      obtain ⟨⟨⟨⟨⟨rfl, hl⟩, rfl⟩, hg⟩, hs⟩, h⟩ := h
      exact te_lrg1 c.g.calm (c.gl hl).1 (c.no (by decide +kernel)) (c.gl hg).1 (c.no (by decide +kernel)) (sE a c h o) (star_no hs)
    · cases h
  | .lrg2 a b, Z, X, ast, c, h, o => by
    unfold chkE at h
    split at h
    · simp only [Bool.and_eq_true, decide_eq_true_eq] at h
      obtain ⟨⟨⟨⟨⟨⟨⟨rfl, hl⟩, rfl⟩, hg⟩, hs⟩, hs2⟩, h1⟩, h2⟩ := h
      exact te_lrg2 c.g.calm (c.gl hl).1 (c.no (by decide +kernel)) (c.gl hg).1 (c.no (by decide +kernel)) (sE a c h1 o.1) (sE b c h2 o.2) (star_no hs) (star_no hs2)
    · cases h
  | .lrg3 a b d, Z, X, ast, c, h, o => by
    unfold chkE at h
    split at h
    · simp only [Bool.and_eq_true, decide_eq_true_eq] at h
      obtain ⟨⟨⟨⟨⟨⟨⟨⟨⟨rfl, hl⟩, rfl⟩, hg⟩, hs⟩, hs2⟩, hs3⟩, h1⟩, h2⟩, h3⟩ := h
      exact te_lrg3 c.g.calm (c.gl hl).1 (c.no (by decide +kernel)) (c.gl hg).1 (c.no (by decide +kernel)) (sE a c h1 o.1) (sE b c h2 o.2.1) (sE d c h3 o.2.2) (star_no hs) (star_no hs2) (star_no hs3)
    · cases h
  | .pop j i, Z, X, ast, c, h, o => by
    unfold chkE at h
    split at h
    · simp only [Bool.and_eq_true, decide_eq_true_eq] at h
      obtain ⟨⟨⟨⟨rfl, h1⟩, hs⟩, hl⟩, h2⟩ := h
      obtain ⟨a, b, d, f⟩ := c.var h1
      refine pe_weak (pe_bm PySem.F.plainAttrs_list PySem.F.slot_list_pop PySem.F.type_list_pop mt_popAt (pe_var a b d f) (pa_cons (sE i c h2 o) pa_nil (star_no hs)) rfl ?_ hl (star_no hs) rfl) fun σ H Q h => pop_red h
      rw [star_no hs]
      rfl
    · cases h
  | .comp elt cond d tg it own, Z, X, ast, c, h, o => by
    unfold chkE at h
    split at h
    · rename_i x t i ifs scope pos
      simp only [Bool.and_eq_true] at h
      obtain ⟨⟨⟨⟨⟨⟨hb, hi⟩, ht⟩, hsl⟩, hns⟩, hc⟩, he⟩ := h
      have ok : BlkOk X.N X.env.scope scope own := by rw [c.g.hN, c.g.sc]; exact blkOk_by hb
      have sl : ∀ i ∈ tgSlots tg, i ∈ own.map (·.2) := fun i hi => by
        unfold inSlots at hsl
        have := List.all_eq_true.mp hsl i hi
        simpa using this
      have pi : PI X t i (TIof X.K it) := sIt it c hi (fun is htg => by
        subst htg
        cases t <;> first | (cases ht; done) | exact ⟨_, _, _, rfl⟩) o.2.2
      have key : PE X (.ListComp x [⟨t, i, ifs, 0⟩] scope pos) (tLc (TIof X.K it) (TGof X.K tg) (ttOf X.K cond d) (TEof X.K elt) (own.map (·.2))) := by
        refine pe_lc c.g.calm c.nd pi ok (fun s H C cl fp => pg_tg (c.blk ok.kind s H C cl fp) ht) (fun s H C cl fp => ?_) (fun s H C cl fp => sE elt (c.blk ok.kind s H C cl fp) he o.1) (fold_no hns X.env)
        split at hc
        · exact pts_nil
        · simp only [Bool.and_eq_true] at hc
          exact pts_one (sT d (c.blk ok.kind s H C cl fp) hc.1 o.2.1 hc.2)
        · cases hc
      exact pe_weak key fun σ H Q h => lc_red sl h
    · cases h
theorem sEs : ∀ (es : Es) {Z : Sc} {X : Cx} {xs : List Expr}, Whr P w K mg base k Z X → chkEs Z es xs = true → okEs (lkOf P w K mg base k) es → PA X xs (TAof X.K es)
  | .nil, Z, X, xs, c, h, o => by
    unfold chkEs at h
    split at h
    · exact ta_nil
    · cases h
  | .cons e es, Z, X, xs, c, h, o => by
    unfold chkEs at h
    split at h
    · simp only [Bool.and_eq_true] at h
      exact ta_cons (sE e c h.1.2 o.1) (sEs es c h.2 o.2) (star_no h.1.1)
    · cases h
theorem sK : ∀ (es : Es) {Z : Sc} {X : Cx} {ks : List Str} {kws : List Keyword}, Whr P w K mg base k Z X → chkK Z ks es kws = true → okEs (lkOf P w K mg base k) es → PK X kws (TAof X.K es)
  | .nil, Z, X, ks, kws, c, h, o => by
    unfold chkK at h
    split at h
    · exact tk_nil
    · cases h
  | .cons e es, Z, X, ks, kws, c, h, o => by
    unfold chkK at h
    split at h
    · simp only [Bool.and_eq_true] at h
      exact tk_cons (sE e c h.1.2 o.1) (sK es c h.2 o.2)
    · cases h
theorem sIt : ∀ (it : PF.It) {Z : Sc} {X : Cx} {tg : Tg} {t i : Expr}, Whr P w K mg base k Z X → chkIt Z it tg t i = true → (∀ is, tg = .tp is → ∃ a b p, t = .Tuple a b p) → okIt (lkOf P w K mg base k) it → PI X t i (TIof X.K it)
  | .seq e, Z, X, tg, t, i, c, h, ht, o => by
    unfold chkIt at h
    exact ti_seq (sE e c h o)
  | .range1 a, Z, X, tg, t, i, c, h, ht, o => by
    unfold chkIt at h
    split at h
    · simp only [Bool.and_eq_true, decide_eq_true_eq] at h
      obtain ⟨⟨⟨rfl, hg⟩, hs⟩, h⟩ := h
      exact ti_range1 (c.gl hg).1 (c.no (by decide +kernel)) (sE a c h o) (star_no hs)
    · cases h
  | .range2 a b, Z, X, tg, t, i, c, h, ht, o => by
    unfold chkIt at h
    split at h
    · simp only [Bool.and_eq_true, decide_eq_true_eq] at h
      obtain ⟨⟨⟨⟨⟨rfl, hg⟩, hs⟩, hs2⟩, h1⟩, h2⟩ := h
      exact ti_range2 (c.gl hg).1 (c.no (by decide +kernel)) (sE a c h1 o.1) (sE b c h2 o.2) (by rw [star_no hs, star_no hs2]; rfl) (star_no hs2)
    · cases h
  | .range3 a b d, Z, X, tg, t, i, c, h, ht, o => by
    unfold chkIt at h
    split at h
    · simp only [Bool.and_eq_true, decide_eq_true_eq] at h
      obtain ⟨⟨⟨⟨⟨⟨⟨rfl, hg⟩, hs⟩, hs2⟩, hs3⟩, h1⟩, h2⟩, h3⟩ := h
      exact ti_range3 (c.gl hg).1 (c.no (by decide +kernel)) (sE a c h1 o.1) (sE b c h2 o.2.1) (sE d c h3 o.2.2) (star_no hs) (star_no hs2) (star_no hs3)
    · cases h
  | .enum e, Z, X, tg, t, i, c, h, ht, o => by
    unfold chkIt at h
    split at h
    · rename_i is
      simp only [Bool.and_eq_true, decide_eq_true_eq] at h
      obtain ⟨⟨⟨rfl, hg⟩, hs⟩, h⟩ := h
      obtain ⟨a, b, p, rfl⟩ := ht is rfl
      exact ti_enum (c.gl hg).1 (c.no (by decide +kernel)) (sE e c h o) (star_no hs)
    · cases h
  | .zip a b, Z, X, tg, t, i, c, h, ht, o => by
    unfold chkIt at h
    split at h
    · rename_i is
      simp only [Bool.and_eq_true, decide_eq_true_eq] at h
      obtain ⟨⟨⟨⟨⟨rfl, hg⟩, hs⟩, hs2⟩, h1⟩, h2⟩ := h
      obtain ⟨a', b', p, rfl⟩ := ht is rfl
      exact ti_zip (c.gl hg).1 (c.no (by decide +kernel)) (sE a c h1 o.1) (sE b c h2 o.2) (star_no hs) (star_no hs2) (by rw [star_no hs2]; rfl)
    · cases h
theorem sT : ∀ (e : E) {Z : Sc} {X : Cx} {ast : Expr}, Whr P w K mg base k Z X → chkE Z e ast = true → okE (lkOf P w K mg base k) e → okT e = true → PT X ast (TTof X.K e)
  | .not a, Z, X, ast, c, h, o, t => by
    unfold chkE at h
    split at h
    · exact tt_not (sT a c h o t)
    · cases h
  | .and a b, Z, X, ast, c, h, o, t => by
    unfold okT at t
    simp only [Bool.and_eq_true] at t
    unfold chkE at h
    split at h
    · simp only [Bool.and_eq_true] at h
      obtain ⟨h1, h2⟩ := h
      split at h2
      · exact (tw_and (sT a c h1 o.1 t.1) (pw_and1 (sT b c h2 o.2 t.2))).pt
      · exact (tw_and (sT a c h1 o.1 t.1) (pw_of_pt (sT b c h2 o.2 t.2))).pt
    · cases h
  | .or a b, Z, X, ast, c, h, o, t => by
    unfold okT at t
    simp only [Bool.and_eq_true] at t
    unfold chkE at h
    split at h
    · simp only [Bool.and_eq_true] at h
      obtain ⟨h1, h2⟩ := h
      split at h2
      · exact (tw_or (sT a c h1 o.1 t.1) (pw_or1 (sT b c h2 o.2 t.2))).pt
      · exact (tw_or (sT a c h1 o.1 t.1) (pw_of_pt (sT b c h2 o.2 t.2))).pt
    · cases h
  | .cmp op a b, Z, X, ast, c, h, o, t => by
    unfold chkE at h
    split at h
    · simp only [Bool.and_eq_true, decide_eq_true_eq] at h
      obtain ⟨⟨⟨rfl, hm⟩, h1⟩, h2⟩ := h
      exact tt_cmp op (by have := c.u; omega) (sE a c h1 o.1) (sE b c h2 o.2) (marks hm)
    · cases h
  | .chain o1 o2 a b d, Z, X, ast, c, h, o, t => by
    unfold chkE at h
    split at h
    · simp only [Bool.and_eq_true, decide_eq_true_eq] at h
      obtain ⟨⟨⟨⟨⟨rfl, rfl⟩, hm⟩, h1⟩, h2⟩, h3⟩ := h
      exact tt_chain o1 o2 (by have := c.u; omega) (sE a c h1 o.1) (sE b c h2 o.2.1) (sE d c h3 o.2.2) (marks hm)
    · cases h
  | .ife _ _ _, Z, X, ast, c, h, o, t => by cases t
  | .var i, Z, X, ast, c, h, o, t => tt_any (sE (.var i) c h o) (plain_is (by unfold chkE at h; split at h <;> first | rfl | cases h))
  | .int i, Z, X, ast, c, h, o, t => tt_any (sE (.int i) c h o) (plain_is (by unfold chkE at h; split at h <;> first | rfl | cases h))
  | .bool i, Z, X, ast, c, h, o, t => tt_any (sE (.bool i) c h o) (plain_is (by unfold chkE at h; split at h <;> first | rfl | cases h))
  | .none, Z, X, ast, c, h, o, t => tt_any (sE .none c h o) (plain_is (by unfold chkE at h; split at h <;> first | rfl | cases h))
  | .str i, Z, X, ast, c, h, o, t => tt_any (sE (.str i) c h o) (plain_is (by unfold chkE at h; split at h <;> first | rfl | cases h))
  | .glob x d, Z, X, ast, c, h, o, t => tt_any (sE (.glob x d) c h o) (plain_is (by unfold chkE at h; split at h <;> first | rfl | cases h))
  | .bin op a b, Z, X, ast, c, h, o, t => tt_any (sE (.bin op a b) c h o) (plain_is (by unfold chkE at h; split at h <;> first | rfl | cases h))
  | .neg a, Z, X, ast, c, h, o, t => tt_any (sE (.neg a) c h o) (plain_is (by unfold chkE at h; split at h <;> first | rfl | cases h))
  | .rep a b, Z, X, ast, c, h, o, t => tt_any (sE (.rep a b) c h o) (plain_is (by unfold chkE at h; split at h <;> first | rfl | cases h))
  | .tup es, Z, X, ast, c, h, o, t => tt_any (sE (.tup es) c h o) (plain_is (by unfold chkE at h; split at h <;> first | rfl | cases h))
  | .lst es, Z, X, ast, c, h, o, t => tt_any (sE (.lst es) c h o) (plain_is (by unfold chkE at h; split at h <;> first | rfl | cases h))
  | .ix a b, Z, X, ast, c, h, o, t => tt_any (sE (.ix a b) c h o) (plain_is (by unfold chkE at h; split at h <;> first | rfl | cases h))
  | .slL a b, Z, X, ast, c, h, o, t => tt_any (sE (.slL a b) c h o) (plain_is (by unfold chkE at h; split at h <;> first | rfl | cases h))
  | .slU a b, Z, X, ast, c, h, o, t => tt_any (sE (.slU a b) c h o) (plain_is (by unfold chkE at h; split at h <;> first | rfl | cases h))
  | .slLU a b d, Z, X, ast, c, h, o, t => tt_any (sE (.slLU a b d) c h o) (plain_is (by unfold chkE at h; split at h <;> first | rfl | cases h))
  | .slRev a, Z, X, ast, c, h, o, t => tt_any (sE (.slRev a) c h o) (plain_is (by unfold chkE at h; split at h <;> first | rfl | cases h))
  | .call x sp es, Z, X, ast, c, h, o, t => tt_any (sE (.call x sp es) c h o) (plain_is (by unfold chkE at h; split at h <;> first | rfl | cases h))
  | .callO x sp a, Z, X, ast, c, h, o, t => tt_any (sE (.callO x sp a) c h o) (plain_is (by unfold chkE at h; split at h <;> first | rfl | cases h))
  | .callK x sp ps ks es, Z, X, ast, c, h, o, t => tt_any (sE (.callK x sp ps ks es) c h o) (plain_is (by unfold chkE at h; split at h <;> first | rfl | cases h))
  | .bi f es, Z, X, ast, c, h, o, t => tt_any (sE (.bi f es) c h o) (plain_is (by unfold chkE at h; split at h <;> first | rfl | cases h))
  | .inst a ts, Z, X, ast, c, h, o, t => tt_any (sE (.inst a ts) c h o) (plain_is (by unfold chkE at h; split at h <;> first | rfl | cases h))
  | .lrg1 a, Z, X, ast, c, h, o, t => tt_any (sE (.lrg1 a) c h o) (plain_is (by unfold chkE at h; split at h <;> first | rfl | cases h))
  | .lrg2 a b, Z, X, ast, c, h, o, t => tt_any (sE (.lrg2 a b) c h o) (plain_is (by unfold chkE at h; split at h <;> first | rfl | cases h))
  | .lrg3 a b d, Z, X, ast, c, h, o, t => tt_any (sE (.lrg3 a b d) c h o) (plain_is (by unfold chkE at h; split at h <;> first | rfl | cases h))
  | .pop j i, Z, X, ast, c, h, o, t => tt_any (sE (.pop j i) c h o) (plain_is (by unfold chkE at h; split at h <;> first | rfl | cases h))
  | .comp elt cond d tg it own, Z, X, ast, c, h, o, t => tt_any (sE (.comp elt cond d tg it own) c h o) (plain_is (by unfold chkE at h; split at h <;> first | rfl | cases h))
end
end
end PF

set_option maxRecDepth 100000
set_option maxHeartbeats 1000000
namespace PF
open PySem PySem.Spec PyProof.Rows L2
/-! ### statements against the text -/
def isStar : Expr → Bool
  | .Starred .. => true
  | _ => false
def swapFn (sc : Scope) (line : Nat) : Expr → Option Str
  | .Name id pos => if sc.names.lookup id == some .local && pos.line == line then some id else none
  | _ => none
def swapNames (sc : Scope) (line : Nat) (ts : List Expr) : List Str := ts.filterMap (swapFn sc line)
theorem any_cg {α : Type} {l : List α} {f : α → Bool} (g : α → Bool) (h : ∀ x, f x = g x) : l.any f = l.any g := by rw [show f = g from funext h]
theorem fm_cg {α β : Type} {l : List α} {f : α → Option β} (g : α → Option β) (h : ∀ x, f x = g x) : l.filterMap f = l.filterMap g := by rw [show f = g from funext h]
/-- how several names are stored at once: none: it is not settled -/
def swapF (sc : Scope) (ts vs : List Expr) : Option (Option (List Str)) :=
  if (!(ts.length == 2 || ts.length == 3) || vs.length != ts.length) = true then some none
  else if vs.any isStar = true then some none
  else if ((swapNames sc ((ts.head?.map fun (e : Expr) => e.pos.line).getD 0) ts).length != ts.length || (swapNames sc ((ts.head?.map fun (e : Expr) => e.pos.line).getD 0) ts).eraseDups.length != (swapNames sc ((ts.head?.map fun (e : Expr) => e.pos.line).getD 0) ts).length) = true then some none
  else if vs.all (foldedForSure 8) = true then some none
  else if vs.all (constantsAlone 8) = true then none
  else some (some (swapNames sc ((ts.head?.map fun (e : Expr) => e.pos.line).getD 0) ts))
theorem swap_is {sc : Scope} {env : Env} {ts vs : List Expr} {r : Option (List Str)} {k k2 : Nat} {p p2 : Pos} (hs : env.scope = sc) (hk : sc.kind = .function) (h : swapF sc ts vs = some r) : swappedStores [.Tuple ts k p] (.Tuple vs k2 p2) env = pure r := by
  have hb : env.blockKind = .function := by unfold Env.blockKind; rw [hs, hk]; rfl
  have hkd : ∀ x, env.kindOf x = sc.names.lookup x := fun x => by unfold Env.kindOf; rw [hs]
  unfold swapF at h
  unfold swappedStores
  simp only [hb]
  rw [any_cg isStar (by intro x; cases x <;> rfl), fm_cg (swapFn sc ((ts.head?.map fun (e : Expr) => e.pos.line).getD 0)) (by intro x; cases x <;> first | rfl | (show (if _ then _ else _) = _; rw [hkd]; rfl))]
  have e1 : (ScopeKind.function != ScopeKind.function) = false := rfl
  rw [e1, Bool.or_false]
  unfold swapNames at h
  split at h
  · rename_i c1
    rw [if_pos c1]
    cases h
    rfl
  · rename_i c1
    rw [if_neg c1]
    split at h
    · rename_i c2
      rw [if_pos c2]
      cases h
      rfl
    · rename_i c2
      rw [if_neg c2]
      split at h
      · rename_i c3
        rw [if_pos c3]
        cases h
        rfl
      · rename_i c3
        rw [if_neg c3]
        split at h
        · rename_i c4
          rw [if_pos c4]
          cases h
          rfl
        · rename_i c4
          rw [if_neg c4]
          split at h
          · cases h
          · rename_i c5
            rw [if_neg c5]
            cases h
            rfl
theorem swaps_no {e : Expr} {t : Option Expr} {l : Nat} {env : Env} (h : noComp e = true) : swapsWith e t l env = pure false := by
  cases e <;> first | rfl | cases h
theorem swaps_tup {e : Expr} {es : List Expr} {k : Nat} {p : Pos} {l : Nat} {env : Env} : swapsWith e (some (.Tuple es k p)) l env = pure false := by
  cases e <;> rfl
theorem sole_tup {e : Expr} {es : List Expr} {k : Nat} {p : Pos} {l : Nat} {env : Env} : swapsWithSole [.Tuple es k p] e l env = pure false := by
  show swapsWith e (some (.Tuple es k p)) l env = _
  exact swaps_tup
theorem swaps_sub {e a b : Expr} {p : Pos} {l : Nat} {env : Env} : swapsWith e (some (.Subscript a b p)) l env = pure false := by
  cases e <;> rfl
theorem sole_sub {e a b : Expr} {p : Pos} {l : Nat} {env : Env} : swapsWithSole [.Subscript a b p] e l env = pure false := by
  show swapsWith e (some (.Subscript a b p)) l env = _
  exact swaps_sub
/-- a comprehension stored at a name -/
def swC (sc : Scope) (e : Expr) (t : Str) (pt : Pos) : Bool := match e with
  | .ListComp _ _ s p => decide (sc.names.lookup t = some .local) && (pt.line == p.line) && !(s.names.any fun (n, k) => n == t && (k == .local || k == .cell))
  | _ => false
theorem swc_is {sc : Scope} {elt : Expr} {gs : List Comprehension} {s : Scope} {p pt : Pos} {t : Str} {l : Nat} {env : Env} (hs : env.scope = sc) (hk : sc.kind = .function) : swapsWith (.ListComp elt gs s p) (some (.Name t pt)) l env = pure (swC sc (.ListComp elt gs s p) t pt) := by
  have hb : env.blockKind = .function := by unfold Env.blockKind; rw [hs, hk]; rfl
  have hkd : env.kindOf t = sc.names.lookup t := by unfold Env.kindOf; rw [hs]
  unfold swapsWith swC
  simp only [hb, hkd, Expr.pos]
  have e1 : (sc.names.lookup t == some NameKind.local) = decide (sc.names.lookup t = some .local) := by
    by_cases h : sc.names.lookup t = some .local
    · rw [h]; rfl
    · rw [decide_eq_false h]; exact beq_eq_false_iff_ne.mpr h
  rw [e1]
  rfl
def free (Z : Sc) (i : Nat) : Bool := !Z.R.contains i
def isPairL (Z : Sc) (xs : List Str) : List Nat → List Expr → Bool
  | [], [] => true
  | i :: is, .Name x _ :: es => decide (Z.N[i]? = some x) && decide (Z.sc.names.lookup x = some .local) && isPairL Z xs is es
  | _, _ => false
def namesOf : List Expr → List Str
  | .Name x _ :: es => x :: namesOf es
  | _ => []
/-- so many empty lists behind -/
def nilN : Nat → Es
  | 0 => .nil
  | n + 1 => .cons (.lst .nil) (nilN n)
def appN : Es → Nat → Es
  | .nil, n => nilN n
  | .cons e es, n => .cons e (appN es n)
mutual
def chkS (Z : Sc) : S → Stmt → Bool
  | .asg i e, st => match st with | .Assign [.Name x px] v _ => storeIs Z i x && free Z i && chkE Z e v && (noComp v || swC Z.sc v x px || !swC Z.sc v x px) && noBadComp v | _ => false
  | .asgF i e, st => match st with | .Assign [.Name x px] v _ => storeIs Z i x && free Z i && chkE Z e v && noBadComp v | _ => false
  | .par is es, st => match st with
    | .Assign [.Tuple ts _ _] (.Tuple vs _ _) _ => is.all (free Z) && chkEs Z es vs && decide (vs.length ≤ 1000) && chkTgs Z is ts && decide (is.Nodup) && (match swapF Z.sc ts vs with
      | some none => true
      | some (some ns) => decide (ns = namesOf ts) && isPairL Z ns is ts && (decide (is.length = 2) || decide (is.length = 3))
      | none => false)
    | _ => false
  | .parN is es js, st => match st with
    | .Assign [.Tuple ts _ _] (.Tuple vs _ _) _ => (is ++ js).all (free Z) && chkEs Z (appN es js.length) vs && chkTgs Z (is ++ js) ts && decide ((is ++ js).Nodup) && (match swapF Z.sc ts vs with
      | some (some ns) => decide (ns = namesOf ts) && isPairL Z ns (is ++ js) ts && (decide ((is ++ js).length = 2) || decide ((is ++ js).length = 3))
      | _ => false)
    | _ => false
  | .unp is e, st => match st with | .Assign [.Tuple ts _ _] v _ => is.all (free Z) && chkE Z e v && chkTgs Z is ts && noTup v | _ => false
  | .setIx j i e, st => match st with | .Assign [.Subscript (.Name x _) y _] v _ => nameIs Z j x && noSlice y && chkE Z i y && chkE Z e v | _ => false
  | .aug i op e, st => match st with | .AugAssign (.Name x _) o v _ => storeIs Z i x && free Z i && decide (opOf op = o) && augOk op && chkE Z e v | _ => false
  | .append j e, st => match st with | .Expr (.Call (.Attribute (.Name x _) m ap) [v] [] cp) _ => decide (m = "append") && nameIs Z j x && noStar v && (ap.endLine == cp.line) && chkE Z e v | _ => false
  | .insert j i e, st => match st with | .Expr (.Call (.Attribute (.Name x _) m ap) [y, v] [] cp) _ => decide (m = "insert") && nameIs Z j x && noStar y && noStar v && (ap.endLine == cp.line) && chkE Z i y && chkE Z e v | _ => false
  | .expr e, st => match st with | .Expr v _ => noComp v && chkE Z e v | _ => false
  | .ret e, st => match st with | .Return (some v) _ => chkE Z e v | _ => false
  | .retN, st => match st with | .Return none _ => true | _ => false
  | .ite c a b, st => match st with | .If t x y _ => chkE Z c t && okT c && chkSs Z a x && chkSs Z b y | _ => false
  | .forS tg it body, st => match st with | .For t i b [] _ => chkIt Z it tg t i && chkTg Z tg t && (tgSlots tg).all (free Z) && noSet i && chkSs Z body b | _ => false
  | .whl c body, st => match st with | .While t b [] _ => chkE Z c t && okT c && chkSs Z body b | _ => false
  | .pass, st => match st with | .Pass _ => true | _ => false
  | .brk, st => match st with | .Break _ => true | _ => false
  | .cont, st => match st with | .Continue _ => true | _ => false
  | .raise _, st => true
  | .frz _, _ => false
def chkSs (Z : Sc) : Ss → List Stmt → Bool
  | .nil, sts => match sts with | [] => true | _ => false
  | .cons s ss, sts => match s with
    | .frz j => free Z j && chkSs Z ss sts
    | s => match sts with | st :: sts => chkS Z s st && chkSs Z ss sts | _ => false
/-- of comprehensions only list comprehensions -/
def noBadComp : Expr → Bool
  | .SetComp _ _ _ _ => false
  | .DictComp _ _ _ _ _ => false
  | _ => true
def noTup : Expr → Bool
  | .Tuple _ _ _ => false
  | _ => true
end
mutual
def okS (L : Lk) : S → Prop
  | .asg _ e => okE L e
  | .asgF _ e => okE L e
  | .par _ es => okEs L es
  | .parN _ es _ => okEs L es
  | .unp _ e => okE L e
  | .setIx _ i e => okE L i ∧ okE L e
  | .aug _ _ e => okE L e
  | .append _ e => okE L e
  | .insert _ i e => okE L i ∧ okE L e
  | .expr e => okE L e
  | .ret e => okE L e
  | .retN => True
  | .ite c a b => okE L c ∧ okSs L a ∧ okSs L b
  | .forS _ it b => okIt L it ∧ okSs L b
  | .whl c b => okE L c ∧ okSs L b
  | .pass | .brk | .cont | .raise _ | .frz _ => True
def okSs (L : Lk) : Ss → Prop
  | .nil => True
  | .cons s ss => okS L s ∧ okSs L ss
end
end PF

set_option maxRecDepth 100000
set_option maxHeartbeats 1000000
namespace PF
open PySem PySem.Spec PyProof.Rows L2
section
variable {P : Program} {w : World} {K : PySem.W.Frag} {mg : Str → Option Value} {base : Heap} {k : Nat}
theorem free_no {Z : Sc} {i : Nat} (h : free Z i = true) : i ∉ Z.R := by
  unfold free at h
  simpa using h
/-- name = value, whatever the value -/
theorem sAsg {Z : Sc} {X : Cx} {i : Nat} {x : Str} {v : Expr} {e : E} {px pos : Pos} (c : Whr P w K mg base k Z X) (hst : storeIs Z i x = true) (hE : chkE Z e v = true) (o : okE (lkOf P w K mg base k) e) (hnb : noBadComp v = true) : PS X (.Assign [.Name x px] v pos) (tAsg (TEof X.K e) (gName i)) := by
  obtain ⟨s1, s2, s3⟩ := c.store hst
  by_cases hc : noComp v = true
  · exact ps_set c.nd s1 s2 (sE e c hE o) (swaps_no hc) s3
  · cases v with
    | ListComp x' gs scope p =>
      have hw := swc_is (elt := x') (gs := gs) (s := scope) (p := p) (pt := px) (t := x) (l := pos.line) c.g.sc c.g.kind
      cases hsw : swC Z.sc (.ListComp x' gs scope p) x px with
      | false =>
        rw [hsw] at hw
        exact ps_set c.nd s1 s2 (sE e c hE o) hw s3
      | true =>
        rw [hsw] at hw
        have hloc : X.env.scope.names.lookup x = some .local := by
          rw [c.g.sc]
          unfold swC at hsw
          simp only [Bool.and_eq_true, decide_eq_true_eq] at hsw
          exact hsw.1.1
        cases e with
        | comp elt cond d tg it own =>
          unfold chkE at hE
          split at hE
          · rename_i x'' t i' ifs scope' pos' heq
            cases heq
            simp only [Bool.and_eq_true] at hE
            obtain ⟨⟨⟨⟨⟨⟨hb, hi⟩, ht⟩, hsl⟩, hns⟩, hcd⟩, he⟩ := hE
            have ok : BlkOk X.N X.env.scope scope own := by rw [c.g.hN, c.g.sc]; exact blkOk_by hb
            have sl : ∀ i ∈ tgSlots tg, i ∈ own.map (·.2) := fun i hi => by
              unfold inSlots at hsl
              have := List.all_eq_true.mp hsl i hi
              simpa using this
            have pi : PI X t i' (TIof X.K it) := sIt it c hi (fun is htg => by
              subst htg
              cases t <;> first | (cases ht; done) | exact ⟨_, _, _, rfl⟩) o.2.2
            refine ps_weak (ps_setLc (i := i) (own := own) (g := TGof X.K tg) (tt := ttOf X.K cond d) (te := TEof X.K elt) c.g.calm c.nd s1 hloc hw pi ok (fun s H C cl fp => pg_tg (c.blk ok.kind s H C cl fp) ht) (fun s H C cl fp => ?_) (fun s H C cl fp => sE elt (c.blk ok.kind s H C cl fp) he o.1) (fold_no hns X.env)) fun D σ H h => lc_red sl h
            split at hcd
            · exact pts_nil
            · simp only [Bool.and_eq_true] at hcd
              exact pts_one (sT d (c.blk ok.kind s H C cl fp) hcd.1 o.2.1 hcd.2)
            · cases hcd
          · cases hE
        | _ => unfold chkE at hE; first | (cases hE; done) | (split at hE <;> first | (cases hE; done) | (rename_i heq; cases heq; done))
    | SetComp _ _ _ _ => cases hnb
    | DictComp _ _ _ _ _ => cases hnb
    | _ => exact absurd rfl hc
theorem all_free {Z : Sc} {is : List Nat} (h : is.all (free Z) = true) : ∀ i ∈ is, i ∉ Z.R := fun i hi => free_no (List.all_eq_true.mp h i hi)
theorem pairL_cons {Z : Sc} {ns : List Str} {i : Nat} {is : List Nat} {ts : List Expr} (h : isPairL Z ns (i :: is) ts = true) : ∃ x p es, ts = .Name x p :: es ∧ Z.N[i]? = some x ∧ Z.sc.names.lookup x = some .local ∧ isPairL Z ns is es = true := by
  cases ts with
  | nil => cases h
  | cons t es =>
    cases t with
    | Name x p =>
      have h : (decide (Z.N[i]? = some x) && decide (Z.sc.names.lookup x = some .local) && isPairL Z ns is es) = true := h
      simp only [Bool.and_eq_true, decide_eq_true_eq] at h
      exact ⟨x, p, es, rfl, h.1.1, h.1.2, h.2⟩
    | _ => cases h
theorem pairL_nil {Z : Sc} {ns : List Str} {ts : List Expr} (h : isPairL Z ns [] ts = true) : ts = [] := by
  cases ts with
  | nil => rfl
  | cons t es => cases h
def noListE : Expr → Bool
  | .List _ _ => false
  | _ => true
theorem sPar {Z : Sc} {X : Cx} {is : List Nat} {es : Es} {ts vs : List Expr} {kt kv : Nat} {pt pv pos : Pos} (c : Whr P w K mg base k Z X) (h : chkS Z (.par is es) (.Assign [.Tuple ts kt pt] (.Tuple vs kv pv) pos) = true) (o : okEs (lkOf P w K mg base k) es) :
    PS X (.Assign [.Tuple ts kt pt] (.Tuple vs kv pv) pos) (TSof X.K Z.R (.par is es)) := by
  unfold chkS at h
  simp only [Bool.and_eq_true, decide_eq_true_eq] at h
  obtain ⟨⟨⟨⟨⟨hf, hv⟩, hl⟩, ht⟩, hnd⟩, h⟩ := h
  have pa := sEs es c hv o
  have fr := all_free hf
  split at h
  · rename_i hsw
    have pt' : PE X (.Tuple vs kv pv) (TEof X.K (.tup es)) := te_tup pa (ta_len (by rw [len_es hv]; exact Nat.le_trans hl (by decide)))
    obtain ⟨q1, q2, q3⟩ := pg_tgs c ht
    exact ps_weak (ps_asg pt' (pg_tup c.g.calm q1 q2 q3) sole_tup (swap_is c.g.sc c.g.kind hsw) rfl) fun D σ H h => par_tup fr h
  · rename_i ns hsw
    simp only [Bool.and_eq_true, Bool.or_eq_true, decide_eq_true_eq] at h
    obtain ⟨⟨hns, hp⟩, hlen⟩ := h
    have hw := swap_is (k := kt) (p := pt) (k2 := kv) (p2 := pv) c.g.sc c.g.kind hsw
    have hvl : vs.length = ts.length := by
      unfold swapF at hsw
      split at hsw
      · cases hsw
      · rename_i z
        simp only [Bool.or_eq_true, Bool.not_eq_true', not_or, bne_iff_ne, ne_eq, Decidable.not_not] at z
        exact z.2
    rcases hlen with hlen | hlen
    · match is, hlen with
      | [i, j], _ =>
        obtain ⟨x, px, es1, rfl, n1, l1, hp⟩ := pairL_cons hp
        obtain ⟨y, py, es2, rfl, n2, l2, hp⟩ := pairL_cons hp
        cases pairL_nil hp
        subst hns
        match vs, hvl, pa, hw with
        | [a, b], _, pa, hw =>
          have hij : i ≠ j := by
            intro z
            subst z
            simp at hnd
          refine ps_weak (ps_par c.g.calm c.nd (by rw [c.g.hN]; exact n1) (by rw [c.g.hN]; exact n2) hij (by rw [c.g.sc]; exact l1) (by rw [c.g.sc]; exact l2) pa hw rfl) fun D σ H h => ?_
          obtain ⟨F, O, env, eo, q⟩ := par_rd fr h
          refine ⟨F, O, env, eo, wEs_mono es (fun rs e1 q vs H' e c s => ?_) q⟩
          obtain ⟨hl2, q⟩ := q vs H' e c s
          match vs, hl2, q with
          | [v, w], _, q => exact ⟨v, w, rfl, q⟩
    · match is, hlen with
      | [i, j, l], _ =>
        obtain ⟨x, px, es1, rfl, n1, l1, hp⟩ := pairL_cons hp
        obtain ⟨y, py, es2, rfl, n2, l2, hp⟩ := pairL_cons hp
        obtain ⟨z, pz, es3, rfl, n3, l3, hp⟩ := pairL_cons hp
        cases pairL_nil hp
        subst hns
        match vs, hvl, pa, hw with
        | [a, b, d], _, pa, hw =>
          have hij : i ≠ j ∧ i ≠ l ∧ j ≠ l := by
            simp only [List.nodup_cons, List.mem_cons, List.not_mem_nil, or_false, not_or, List.nodup_nil, and_true, not_false_eq_true] at hnd
            exact ⟨hnd.1.1, hnd.1.2, hnd.2⟩
          refine ps_weak (ps_par3 c.g.calm c.nd (by rw [c.g.hN]; exact n1) (by rw [c.g.hN]; exact n2) (by rw [c.g.hN]; exact n3) hij.1 hij.2.1 hij.2.2 (by rw [c.g.sc]; exact l1) (by rw [c.g.sc]; exact l2) (by rw [c.g.sc]; exact l3) pa hw rfl) fun D σ H h => ?_
          obtain ⟨F, O, env, eo, q⟩ := par_rd fr h
          refine ⟨F, O, env, eo, wEs_mono es (fun rs e1 q vs H' e c s => ?_) q⟩
          obtain ⟨hl2, q⟩ := q vs H' e c s
          match vs, hl2, q with
          | [v, w, u], _, q => exact ⟨v, w, u, rfl, q⟩
  · cases h
theorem sEsN : ∀ (es : Es) (n : Nat) {Z : Sc} {X : Cx} {xs : List Expr}, Whr P w K mg base k Z X → chkEs Z (appN es n) xs = true → okEs (lkOf P w K mg base k) es → PA X xs (TNof X.K es n)
  | .nil, 0, Z, X, xs, c, h, o => by
    unfold appN nilN chkEs at h
    split at h
    · exact pa_nil
    · cases h
  | .nil, n + 1, Z, X, xs, c, h, o => by
    unfold appN nilN chkEs at h
    split at h
    · simp only [Bool.and_eq_true] at h
      obtain ⟨⟨hs, h1⟩, h2⟩ := h
      unfold chkE at h1
      split at h1
      · simp only [Bool.and_eq_true] at h1
        have h3 := h1.1
        unfold chkEs at h3
        split at h3
        · exact pa_cons (pe_lst pa_nil) (sEsN .nil n c h2 o) (star_no hs)
        · cases h3
      · cases h1
    · cases h
  | .cons e es, n, Z, X, xs, c, h, o => by
    unfold appN chkEs at h
    split at h
    · simp only [Bool.and_eq_true] at h
      exact pa_cons (sE e c h.1.2 o.1) (sEsN es n c h.2 o.2) (star_no h.1.1)
    · cases h
theorem tnof_mono {K : PySem.W.Frag} {σ : L2.St} : ∀ {es : Es} {n : Nat} {H : Hp} {Q Q' : List V → Hp → Prop}, (∀ vs H, Q vs H → Q' vs H) → TNof K es n σ H Q → TNof K es n σ H Q'
  | .nil, 0, H, Q, Q', h, q => h _ _ q
  | .nil, n + 1, H, Q, Q', h, q => ⟨q.1, fun p hp => tnof_mono (K := K) (es := .nil) (n := n) (fun _ _ z => h _ _ z) (q.2 p hp)⟩
  | .cons e es, n, H, Q, Q', h, q => by
    obtain ⟨F, O, env, eo, hw⟩ := q
    exact ⟨F, O, env, eo, wE_mono e (fun r e1 z v H' a b c d => tnof_mono (K := K) (es := es) (n := n) (fun _ _ z => h _ _ z) (z v H' a b c d)) hw⟩
theorem sParN {Z : Sc} {X : Cx} {is js : List Nat} {es : Es} {ts vs : List Expr} {kt kv : Nat} {pt pv pos : Pos} (c : Whr P w K mg base k Z X) (h : chkS Z (.parN is es js) (.Assign [.Tuple ts kt pt] (.Tuple vs kv pv) pos) = true) (o : okEs (lkOf P w K mg base k) es) :
    PS X (.Assign [.Tuple ts kt pt] (.Tuple vs kv pv) pos) (TSof X.K Z.R (.parN is es js)) := by
  unfold chkS at h
  simp only [Bool.and_eq_true, decide_eq_true_eq] at h
  obtain ⟨⟨⟨⟨hf, hv⟩, ht⟩, hnd⟩, h⟩ := h
  have pa := sEsN es js.length c hv o
  have fr := all_free hf
  split at h
  · rename_i ns hsw
    simp only [Bool.and_eq_true, Bool.or_eq_true, decide_eq_true_eq] at h
    obtain ⟨⟨hns, hp⟩, hlen⟩ := h
    have hw := swap_is (k := kt) (p := pt) (k2 := kv) (p2 := pv) c.g.sc c.g.kind hsw
    have hvl : vs.length = ts.length := by
      unfold swapF at hsw
      split at hsw
      · cases hsw
      · rename_i z
        simp only [Bool.or_eq_true, Bool.not_eq_true', not_or, bne_iff_ne, ne_eq, Decidable.not_not] at z
        exact z.2
    have rd : ∀ {D : Ends} {σ : L2.St} {H : Hp}, TSof X.K Z.R (.parN is es js) D σ H → _ := fun h => parN_rd fr h
    generalize is ++ js = ij at *
    rcases hlen with hlen | hlen
    · match ij, hlen with
      | [i, j], _ =>
        obtain ⟨x, px, es1, rfl, n1, l1, hp⟩ := pairL_cons hp
        obtain ⟨y, py, es2, rfl, n2, l2, hp⟩ := pairL_cons hp
        cases pairL_nil hp
        subst hns
        match vs, hvl, pa, hw with
        | [a, b], _, pa, hw =>
          have hij : i ≠ j := by
            intro z
            subst z
            simp at hnd
          refine ps_weak (ps_par c.g.calm c.nd (by rw [c.g.hN]; exact n1) (by rw [c.g.hN]; exact n2) hij (by rw [c.g.sc]; exact l1) (by rw [c.g.sc]; exact l2) pa hw rfl) fun D σ H h => ?_
          refine tnof_mono (fun vs H' q => ?_) (rd h)
          obtain ⟨hl2, q⟩ := q
          match vs, hl2, q with
          | [v, w], _, q => exact ⟨v, w, rfl, q⟩
    · match ij, hlen with
      | [i, j, l], _ =>
        obtain ⟨x, px, es1, rfl, n1, l1, hp⟩ := pairL_cons hp
        obtain ⟨y, py, es2, rfl, n2, l2, hp⟩ := pairL_cons hp
        obtain ⟨z, pz, es3, rfl, n3, l3, hp⟩ := pairL_cons hp
        cases pairL_nil hp
        subst hns
        match vs, hvl, pa, hw with
        | [a, b, d], _, pa, hw =>
          have hij : i ≠ j ∧ i ≠ l ∧ j ≠ l := by
            simp only [List.nodup_cons, List.mem_cons, List.not_mem_nil, or_false, not_or, List.nodup_nil, and_true, not_false_eq_true] at hnd
            exact ⟨hnd.1.1, hnd.1.2, hnd.2⟩
          refine ps_weak (ps_par3 c.g.calm c.nd (by rw [c.g.hN]; exact n1) (by rw [c.g.hN]; exact n2) (by rw [c.g.hN]; exact n3) hij.1 hij.2.1 hij.2.2 (by rw [c.g.sc]; exact l1) (by rw [c.g.sc]; exact l2) (by rw [c.g.sc]; exact l3) pa hw rfl) fun D σ H h => ?_
          refine tnof_mono (fun vs H' q => ?_) (rd h)
          obtain ⟨hl2, q⟩ := q
          match vs, hl2, q with
          | [v, w, u], _, q => exact ⟨v, w, u, rfl, q⟩
  · cases h
theorem swap_none {ts : List Expr} {kt : Nat} {pt : Pos} {v : Expr} {env : Env} (h : noTup v = true) : swappedStores [.Tuple ts kt pt] v env = pure none := by
  cases v <;> first | rfl | cases h
theorem swap_none1 {t v : Expr} {env : Env} (h : noTup t = true) (h2 : noListE t = true) : swappedStores [t] v env = pure none := by
  cases t <;> first | (cases v <;> rfl; done) | (cases h; done) | (cases h2; done)
mutual
theorem sS : ∀ (s : S) {Z : Sc} {X : Cx} {st : Stmt}, Whr P w K mg base k Z X → chkS Z s st = true → okS (lkOf P w K mg base k) s → PS X st (TSof X.K Z.R s)
  | .asg i e, Z, X, st, c, h, o => by
    unfold chkS at h
    split at h
    · simp only [Bool.and_eq_true] at h
      obtain ⟨⟨⟨⟨h1, h2⟩, h3⟩, _⟩, h5⟩ := h
      exact ps_weak (sAsg c h1 h3 o h5) fun D σ H h => asg_red (free_no h2) h
    · cases h
  | .asgF i e, Z, X, st, c, h, o => by
    unfold chkS at h
    split at h
    · simp only [Bool.and_eq_true] at h
      obtain ⟨⟨⟨h1, h2⟩, h3⟩, h5⟩ := h
      exact ps_weak (sAsg c h1 h3 o h5) fun D σ H h => asgF_red (free_no h2) h
    · cases h
  | .par is es, Z, X, st, c, h, o => by
    have h0 := h
    unfold chkS at h
    split at h
    · exact sPar c h0 o
    · cases h
  | .parN is es js, Z, X, st, c, h, o => by
    have h0 := h
    unfold chkS at h
    split at h
    · exact sParN c h0 o
    · cases h
  | .unp is e, Z, X, st, c, h, o => by
    unfold chkS at h
    split at h
    · simp only [Bool.and_eq_true] at h
      obtain ⟨⟨⟨hf, h1⟩, ht⟩, hn⟩ := h
      obtain ⟨q1, q2, q3⟩ := pg_tgs c ht
      exact ps_weak (ps_asg (sE e c h1 o) (pg_tup c.g.calm q1 q2 q3) sole_tup (swap_none hn) rfl) fun D σ H h => unp_red (all_free hf) h
    · cases h
  | .setIx j i e, Z, X, st, c, h, o => by
    unfold chkS at h
    split at h
    · simp only [Bool.and_eq_true] at h
      obtain ⟨⟨⟨h1, hsl⟩, h2⟩, h3⟩ := h
      obtain ⟨a, b, d, f⟩ := c.var h1
      refine ps_weak (ps_asg (sE e c h3 o.2) (pg_sub (pe_var a b d f) (sE i c h2 o.1) set_list ?_) sole_sub (swap_none1 rfl rfl) rfl) fun D σ H h => setIx_red h
      rename_i y _ _ _
      intro u
      cases y <;> first | rfl | cases hsl
    · cases h
  | .aug i op e, Z, X, st, c, h, o => by
    unfold chkS at h
    split at h
    · simp only [Bool.and_eq_true, decide_eq_true_eq] at h
      obtain ⟨⟨⟨⟨h1, hf⟩, rfl⟩, ho⟩, h2⟩ := h
      obtain ⟨s1, s2, s3⟩ := c.store h1
      exact ps_weak (ps_aug c.nd s1 s2 (sE e c h2 o) (ip_of op) s3) fun D σ H h => aug_red ho (free_no hf) h
    · cases h
  | .append j e, Z, X, st, c, h, o => by
    unfold chkS at h
    split at h
    · simp only [Bool.and_eq_true, decide_eq_true_eq] at h
      obtain ⟨⟨⟨⟨rfl, h1⟩, hs⟩, hl⟩, h2⟩ := h
      obtain ⟨a, b, d, f⟩ := c.var h1
      refine ps_weak (ps_expr (pe_bm PySem.F.plainAttrs_list PySem.F.slot_list_append PySem.F.type_list_append mt_append (pe_var a b d f) (pa_cons (sE e c h2 o) pa_nil (star_no hs)) rfl ?_ hl (star_no hs) rfl) rfl) fun D σ H h => append_red h
      rw [star_no hs]
      rfl
    · cases h
  | .insert j i e, Z, X, st, c, h, o => by
    unfold chkS at h
    split at h
    · simp only [Bool.and_eq_true, decide_eq_true_eq] at h
      obtain ⟨⟨⟨⟨⟨⟨rfl, h1⟩, hs⟩, hs2⟩, hl⟩, h2⟩, h3⟩ := h
      obtain ⟨a, b, d, f⟩ := c.var h1
      refine ps_weak (ps_expr (pe_bm PySem.F.plainAttrs_list PySem.F.slot_list_insert PySem.F.type_list_insert mt_insert (pe_var a b d f) (pa_cons (sE i c h2 o.1) (pa_cons (sE e c h3 o.2) pa_nil (star_no hs2)) (star_no hs)) rfl ?_ hl (star_no hs) ?_) rfl) fun D σ H h => insert_red h
      · rw [star_no hs, star_no hs2]; rfl
      · rw [star_no hs2]; rfl
    · cases h
  | .expr e, Z, X, st, c, h, o => by
    unfold chkS at h
    split at h
    · simp only [Bool.and_eq_true] at h
      exact ts_expr (sE e c h.2 o) (swaps_no h.1)
    · cases h
  | .ret e, Z, X, st, c, h, o => by
    unfold chkS at h
    split at h
    · exact ts_ret (sE e c h o)
    · cases h
  | .retN, Z, X, st, c, h, o => by
    unfold chkS at h
    split at h
    · exact ts_retN
    · cases h
  | .ite d a b, Z, X, st, c, h, o => by
    unfold chkS at h
    split at h
    · simp only [Bool.and_eq_true] at h
      obtain ⟨⟨⟨h1, ht⟩, h2⟩, h3⟩ := h
      exact ts_ite (sT d c h1 o.1 ht) (sSs a c h2 o.2.1) (sSs b c h3 o.2.2)
    · cases h
  | .forS tg it body, Z, X, st, c, h, o => by
    unfold chkS at h
    split at h
    · rename_i t i b pos
      simp only [Bool.and_eq_true] at h
      obtain ⟨⟨⟨⟨h1, ht⟩, hf⟩, hns⟩, h2⟩ := h
      have pi : PI X t i (TIof X.K it) := sIt it c h1 (fun is htg => by
        subst htg
        cases t <;> first | (cases ht; done) | exact ⟨_, _, _, rfl⟩) o.1
      exact ps_weak (ps_for (by rw [c.g.xe]; exact PassesOwn.never) c.g.calm pi (pg_tg c ht) (sSs body c h2 o.2) (fold_no hns X.env)) fun D σ H h => for_red (all_free hf) h
    · cases h
  | .whl d body, Z, X, st, c, h, o => by
    unfold chkS at h
    split at h
    · simp only [Bool.and_eq_true] at h
      obtain ⟨⟨h1, ht⟩, h2⟩ := h
      exact ps_weak (ps_while (by rw [c.g.xe]; exact PassesOwn.never) (sT d c h1 o.1 ht) (sSs body c h2 o.2)) fun D σ H h => while_red h
    · cases h
  | .pass, Z, X, st, c, h, o => by
    unfold chkS at h
    split at h
    · exact ts_pass
    · cases h
  | .brk, Z, X, st, c, h, o => by
    unfold chkS at h
    split at h
    · exact ts_brk
    · cases h
  | .cont, Z, X, st, c, h, o => by
    unfold chkS at h
    split at h
    · exact ts_cont
    · cases h
  | .raise x, Z, X, st, c, h, o => ts_raise
  | .frz j, Z, X, st, c, h, o => by unfold chkS at h; cases h
theorem sSs : ∀ (ss : Ss) {Z : Sc} {X : Cx} {sts : List Stmt}, Whr P w K mg base k Z X → chkSs Z ss sts = true → okSs (lkOf P w K mg base k) ss → PSs X sts (TSsof X.K Z.R ss)
  | .nil, Z, X, sts, c, h, o => by
    unfold chkSs at h
    split at h
    · exact tss_nil
    · cases h
  | .cons s ss, Z, X, sts, c, h, o => by
    unfold chkSs at h
    split at h
    · simp only [Bool.and_eq_true] at h
      exact tss_frz (free_no h.1) (sSs ss c h.2 o.2)
    · split at h
      · simp only [Bool.and_eq_true] at h
        exact tss_cons (sS s c h.1 o.1) (sSs ss c h.2 o.2)
      · cases h
end
end
end PF

set_option maxRecDepth 100000
set_option maxHeartbeats 1000000
namespace PF
open PySem PySem.Spec PyProof.Rows L2
/-! ### a def by its body -/
def initE (n : Nat) (as : List AV) : AEnv := as.map some ++ List.replicate (n - as.length) none
def finals : List AV → AEnv → Nat → List AV
  | [], _, _ => []
  | .o ds :: r, env, i => (match getE env i with | some (.o ds') => .o ds' | _ => .o ds) :: finals r env (i + 1)
  | .d x :: r, env, i => .d x :: finals r env (i + 1)
  | .b j :: r, env, i => .b j :: finals r env (i + 1)
def retK (R : List Nat) (r : AV) (env : AEnv) (k : AV → Prop) : Prop :=
  match r with
  | .d x => k (.d x)
  | .o ds => k (.o ds)
  | .b j => j ∉ R ∧ (match getE env j with | some (.o ds) => k (.o ds) | _ => False)
structure Body (np n : Nat) (R : List Nat) (b : Ss) (sp : ASp) : Prop where
  len : ∀ as Q X, sp.run as Q X → as.length = np
  lent : ∀ as Q X, sp.run as Q X → ∀ (i : Nat) ds, as[i]? = some (.o ds) → i ∈ R
  run : ∀ as Q, sp.run as Q (fun _ => False) → wSs X0 b (initE n as) { nx := fun env => Q (.d .none) (finals as env 0), rt := fun r env => retK R r env fun r' => Q r' (finals as env 0) }
theorem get_init {n : Nat} {as : List AV} {i : Nat} : getE (initE n as) i = as[i]? := by
  unfold initE
  have rep : ∀ m i, getE (List.replicate m none) i = none := by
    intro m
    induction m with
    | zero => intro i; rfl
    | succ m ih => intro i; cases i with | zero => rfl | succ i => exact ih i
  induction as generalizing i n with
  | nil => simp [rep]
  | cons a as ih =>
    cases i with
    | zero => rfl
    | succ i =>
      show getE (as.map some ++ List.replicate (n - (as.length + 1)) none) i = _
      have := ih (n := n - 1) (i := i)
      rw [show n - 1 - as.length = n - (as.length + 1) by omega] at this
      rw [this]
      simp
theorem fin_len : ∀ {as : List AV} {env : AEnv} {i : Nat}, (finals as env i).length = as.length
  | [], _, _ => rfl
  | .d _ :: r, env, i => by show (finals r env (i + 1)).length + 1 = _; rw [fin_len]; rfl
  | .o _ :: r, env, i => by show (finals r env (i + 1)).length + 1 = _; rw [fin_len]; rfl
  | .b _ :: r, env, i => by show (finals r env (i + 1)).length + 1 = _; rw [fin_len]; rfl
theorem fin_get : ∀ {as : List AV} {env : AEnv} {m i : Nat} {a : AV}, (finals as env m)[i]? = some a → (∃ ds, as[i]? = some (.o ds) ∧ ((∃ ds', getE env (m + i) = some (.o ds') ∧ a = .o ds') ∨ ((∀ ds', getE env (m + i) ≠ some (.o ds')) ∧ a = .o ds))) ∨ (as[i]? = some a ∧ ∀ ds, a ≠ .o ds)
  | [], _, _, _, _, h => by simp [finals] at h
  | x :: r, env, m, 0, a, h => by
    cases x with
    | d y => simp [finals] at h; subst h; exact .inr ⟨rfl, fun ds z => by cases z⟩
    | b y => simp [finals] at h; subst h; exact .inr ⟨rfl, fun ds z => by cases z⟩
    | o y =>
      simp only [finals, List.getElem?_cons_zero, Option.some.injEq] at h
      refine .inl ⟨y, rfl, ?_⟩
      rw [Nat.add_zero]
      split at h
      · rename_i ds' hg
        exact .inl ⟨ds', hg, h.symm⟩
      · rename_i hg
        exact .inr ⟨hg, h.symm⟩
  | x :: r, env, m, i + 1, a, h => by
    have h' : (finals r env (m + 1))[i]? = some a := by cases x <;> simpa [finals] using h
    rcases fin_get h' with ⟨ds, h1, h2⟩ | ⟨h1, h2⟩
    · refine .inl ⟨ds, by simpa using h1, ?_⟩
      rw [show m + (i + 1) = m + 1 + i by omega]
      exact h2
    · exact .inr ⟨by simpa using h1, h2⟩
section
variable {P : Program} {w : World} {K : PySem.W.Frag} {mg : Str → Option Value} {base : Heap}
/-- the entry of a def -/
def entry (as : List AV) (vs : List V) (O : List Addr) (H : Hp) : Fi := ⟨O, H, fun i => match as[i]?, vs[i]? with | some (.o _), some (.ref p) => some p | _, _ => none⟩
theorem entry_par {as : List AV} {vs : List V} {O : List Addr} {H : Hp} {i : Nat} {p : Addr} : (entry as vs O H).par i = some p ↔ (∃ ds, as[i]? = some (.o ds)) ∧ vs[i]? = some (.ref p) := by
  show (match as[i]?, vs[i]? with | some (.o _), some (.ref p) => some p | _, _ => none) = some p ↔ _
  constructor
  · intro h
    split at h
    · rename_i ds q h1 h2
      cases h
      exact ⟨⟨ds, h1⟩, h2⟩
    · cases h
  · rintro ⟨⟨ds, h1⟩, h2⟩
    rw [h1, h2]
theorem start_get {N : List Str} {vs : List V} {i : Nat} {v : V} (h : vs[i]? = some v) : (L2.start N vs)[i]? = some (some v) := by
  unfold L2.start
  obtain ⟨hl, _⟩ := List.getElem?_eq_some_iff.mp h
  rw [List.getElem?_append_left (by simpa using hl), List.getElem?_map, h]
  rfl
theorem entry_ok {as : List AV} {vs : List V} {O : List Addr} {H : Hp} {N : List Str} (a : ArgsOk K O H vs as) (hn : vs.length ≤ N.length) : EnvOk K (entry as vs O H) O H (L2.start N vs) (initE N.length as) where
  len := by
    unfold L2.start initE
    rw [List.length_append, List.length_append, List.length_map, List.length_map, List.length_replicate, List.length_replicate, a.len]
  dat := fun i x h => by
    rw [get_init] at h
    obtain ⟨v, h1, h2⟩ := a.dat i x h
    exact ⟨v, start_get h1, h2⟩
  own := fun i ds h => by
    rw [get_init] at h
    obtain ⟨p, us, h1, h2, h3, h4⟩ := a.own i ds h
    exact ⟨p, us, start_get h1, h2, h3, h4⟩
  nob := fun i j h => by
    rw [get_init] at h
    exact a.nob i j h
  inj := fun i j ds ds' p h1 h2 _ _ => by
    rw [get_init] at h1 h2
    exact a.one i j ds ds' h1 h2
  live := a.live
  sub := fun _ h => h
  new := fun _ h => .inl h
  keep := fun _ _ h _ => h
  ownF := fun i ds p h1 h2 => by
    rw [get_init] at h1
    obtain ⟨q, us, g1, _⟩ := a.own i ds h1
    rw [start_get g1] at h2
    cases h2
    exact .inl ⟨i, entry_par.mpr ⟨⟨ds, h1⟩, g1⟩⟩
  par := fun i p h => by
    obtain ⟨⟨ds, h1⟩, h2⟩ := entry_par.mp h
    exact ⟨start_get h2, ds, by rw [get_init]; exact h1⟩
/-- the body's wish, read -/
theorem body_red {np : Nat} {N : List Str} {R : List Nat} {b : Ss} {sp : ASp} (B : Body np N.length R b sp) (hn : np ≤ N.length) {vs : List V} {H : Hp} {Q : VK} (h : liftSp K sp vs H Q E0) : TSsof K R b { nx := fun _ H' => Q .non H', rt := Q } (L2.start N vs) H := by
  obtain ⟨as, O, ao, hr⟩ := h
  have hl := B.len _ _ _ hr
  have en := entry_ok (N := N) ao (by rw [ao.len, hl]; exact hn)
  have fr : FR (entry as vs O H) R := ⟨fun i p z => by
    obtain ⟨⟨ds, h1⟩, _⟩ := entry_par.mp z
    exact B.lent _ _ _ hr i ds h1, ao.live⟩
  -- what stands at the end
  have fin : ∀ {σ' : L2.St} {H' : Hp} {O' : List Addr} {env' : AEnv}, EnvOk K (entry as vs O H) O' H' σ' env' → Shape as (finals as env' 0) ∧ ArgsOk K O H' vs (finals as env' 0) ∧ (∀ a o, H a = some o → (∀ (i : Nat) ds, as[i]? = some (.o ds) → vs[i]? ≠ some (.ref a)) → H' a = some o) ∧
      ∀ (i : Nat) ds, (finals as env' 0)[i]? = some (.o ds) → ∃ p us, vs[i]? = some (.ref p) ∧ p ∈ O ∧ H' p = some (.lst us) ∧ DpAll K (Wo H' O') us ds := by
    intro σ' H' O' env' e
    have sO : ∀ p, p ∈ O → p ∈ O' := fun p hp => e.sub p hp
    have keepD : ∀ a o, H a = some o → (∀ (i : Nat) ds, as[i]? = some (.o ds) → vs[i]? ≠ some (.ref a)) → H' a = some o := fun a o h1 h2 => e.keep a o h1 fun ⟨i, hi⟩ => by
      obtain ⟨⟨ds, g1⟩, g2⟩ := entry_par.mp hi
      exact h2 i ds g1 g2
    have lentO : ∀ (i : Nat) ds a, as[i]? = some (.o ds) → vs[i]? = some (.ref a) → a ∈ O := fun i ds a h1 h2 => by
      obtain ⟨p, us, g1, g2, _⟩ := ao.own i ds h1
      rw [h2] at g1; cases g1
      exact g2
    have sm : Same (Wo H O) (Wo H' O) := fun a o z => by
      obtain ⟨n, z⟩ := wo_some z
      rw [wo_out n]
      exact keepD a o z fun i ds h1 h2 => n (lentO i ds a h1 h2)
    have ow : ∀ (i : Nat) ds, (finals as env' 0)[i]? = some (.o ds) → ∃ p us, vs[i]? = some (.ref p) ∧ p ∈ O ∧ H' p = some (.lst us) ∧ DpAll K (Wo H' O') us ds := fun i ds h => by
      rcases fin_get h with ⟨ds0, h1, h2⟩ | ⟨h1, h2⟩
      · obtain ⟨p, us0, g1, g2, g3, g4⟩ := ao.own i ds0 h1
        have hp := entry_par (O := O) (H := H) |>.mpr ⟨⟨ds0, h1⟩, g1⟩
        obtain ⟨k1, ds1, k2⟩ := e.par i p hp
        rw [Nat.zero_add] at h2
        rcases h2 with ⟨ds', h3, h4⟩ | ⟨h3, h4⟩
        · cases h4
          rw [k2] at h3; cases h3
          obtain ⟨p', us, m1, m2, m3, m4⟩ := e.own i _ k2
          rw [k1] at m1; cases m1
          exact ⟨p, us, g1, g2, m3, m4⟩
        · exact (h3 ds1 k2).elim
      · exact (h2 ds rfl).elim
    refine ⟨⟨fin_len, fun i ds h => ?_⟩, ⟨by rw [fin_len]; exact ao.len, fun i x h => ?_, fun i ds h => ?_, fun i j h => ?_, fun i j ds ds' h1 h2 => ?_, fun p hp => e.live p (sO p hp)⟩, keepD, ow⟩
    · have hlt : i < (finals as env' 0).length := by rw [fin_len]; exact (List.getElem?_eq_some_iff.mp h).1
      have hg : (finals as env' 0)[i]? = some (finals as env' 0)[i] := List.getElem?_eq_getElem hlt
      rcases fin_get hg with ⟨ds0, h1, h2⟩ | ⟨h1, h2⟩
      · rcases h2 with ⟨ds', _, h4⟩ | ⟨_, h4⟩
        · exact ⟨ds', by rw [hg, h4]⟩
        · exact ⟨ds0, by rw [hg, h4]⟩
      · rw [h] at h1
        exact (h2 ds (Option.some.inj h1).symm).elim
    · rcases fin_get h with ⟨ds0, h1, h2⟩ | ⟨h1, h2⟩
      · rcases h2 with ⟨ds', _, h4⟩ | ⟨_, h4⟩ <;> cases h4
      · obtain ⟨v, g1, g2⟩ := ao.dat i x h1
        exact ⟨v, g1, dp_mono sm g2⟩
    · obtain ⟨p, us, g1, g2, g3, g4⟩ := ow i ds h
      exact ⟨p, us, g1, g2, g3, dps_mono (wo_sub sO) g4⟩
    · rcases fin_get h with ⟨ds0, h1, h2⟩ | ⟨h1, h2⟩
      · rcases h2 with ⟨ds', _, h4⟩ | ⟨_, h4⟩ <;> cases h4
      · exact ao.nob i j h1
    · rcases fin_get h1 with ⟨x, g1, _⟩ | ⟨_, g1⟩
      · rcases fin_get h2 with ⟨y, k1, _⟩ | ⟨_, k1⟩
        · exact ao.one i j _ _ g1 k1
        · exact (k1 ds' rfl).elim
      · exact (g1 ds rfl).elim
  have hb := B.run as _ hr
  refine ⟨entry as vs O H, O, initE N.length as, fr, en, wSs_mono b ⟨fun env' q σ' H' O' e x => ?_, fun r env' q v σ' H' O' e s a => ?_, fun _ q => False.elim q, fun _ q => False.elim q⟩ hb⟩
  · obtain ⟨f1, f2, f3, f4⟩ := fin e
    exact q .non H' f1 f2 f3 .non trivial
  · obtain ⟨f1, f2, f3, f4⟩ := fin e
    have sO : ∀ p, p ∈ O → p ∈ O' := fun p hp => e.sub p hp
    cases r with
    | d x => exact q v H' f1 f2 f3 (dp_mono (wo_sub sO) s) trivial
    | o ds =>
      obtain ⟨p, us, rfl, n, no, hp, hd⟩ := s
      refine q _ H' f1 f2 f3 ⟨p, us, rfl, n, fun z => no (sO p z), hp, dps_mono (wo_sub (fun z hz => ?_)) hd⟩ fun p' hp' i xs hi => ?_
      · rcases List.mem_cons.mp hz with g | g
        · rw [g]; exact List.mem_cons_self
        · exact List.mem_cons_of_mem _ (sO z g)
      · cases hp'
        obtain ⟨a1, us1, g1, g2, g3, _⟩ := f4 i xs hi
        rcases fin_get hi with ⟨ds0, h1, h2⟩ | ⟨h1, h2⟩
        · have hpar := entry_par (O := O) (H := H) |>.mpr ⟨⟨ds0, h1⟩, g1⟩
          obtain ⟨k1, ds1, k2⟩ := e.par i a1 hpar
          rw [Nat.zero_add] at h2
          rcases h2 with ⟨ds', h3, h4⟩ | ⟨h3, h4⟩
          · cases h4
            obtain ⟨a2, us2, m1, m2, m3, m4⟩ := (a p rfl).own i xs h3
            rw [k1] at m1; cases m1
            refine ⟨a1, us2, g1, m3, dps_mono (wo_sub (fun z hz => ?_)) m4⟩
            rcases List.mem_cons.mp hz with g | g
            · rw [g]; exact List.mem_cons_self
            · exact List.mem_cons_of_mem _ (sO z g)
          · exact (h3 ds1 k2).elim
        · exact (h2 xs rfl).elim
    | b j =>
      obtain ⟨hjR, q⟩ := q
      split at q
      · rename_i ds hg
        obtain ⟨p, rfl, hs⟩ := s
        obtain ⟨p', us, g1, g2, g3, g4⟩ := e.own j ds hg
        rw [hs] at g1; cases g1
        have hH0 : H p = none := by
          rcases e.ownF j ds p hg hs with ⟨i, hi⟩ | z
          · obtain ⟨k1, ds1, k2⟩ := e.par i p hi
            have : i = j := e.inj i j _ _ p k2 hg k1 hs
            subst this
            exact (hjR (fr.par i p hi)).elim
          · exact z
        have npO : p ∉ O := fun z => ao.live p z hH0
        have sub2 : ∀ z, z ∈ p :: O → z ∈ O' := fun z hz => by
          rcases List.mem_cons.mp hz with h | h
          · rw [h]; exact g2
          · exact sO z h
        refine q _ H' f1 f2 f3 ⟨p, us, rfl, hH0, npO, g3, dps_mono (wo_sub sub2) g4⟩ fun p' hp' i xs hi => ?_
        cases hp'
        obtain ⟨a1, us1, m1, m2, m3, m4⟩ := f4 i xs hi
        exact ⟨a1, us1, m1, m3, dps_mono (wo_sub sub2) m4⟩
      · exact q.elim
/-- THE RULE for a def -/
theorem fn_g {k : Nat} {x qual : Str} {st : Stmt} {f : Addr} {fd : FuncData} {N ps : List Str} {R : List Nat} {b : Ss} {sp : ASp} (Fn : Fun K x qual st f fd) (S : FnScope N ps (defScope st)) (B : Body ps.length N.length R b sp)
    (hchk : chkSs ⟨N, defScope st, fun _ => true, R⟩ b (defBody st) = true) (hok : okSs (lkOf P w K mg base k) b) (hbn : ∀ x ∈ bnames, mg x = none) : FnG P w K mg base (k + 1) f fd ps (liftSp K sp) := by
  have hpl : ps.length ≤ N.length := by
    have := congrArg List.length S.pre
    rw [List.length_take] at this
    omega
  have hlen : ∀ vs H Q E, liftSp K sp vs H Q E → vs.length = ps.length := fun vs H Q E ⟨as, O, ao, hr⟩ => by rw [ao.len]; exact B.len _ _ _ hr
  obtain ⟨oc, od, kV, doc, pm, an, cdv, ct, osl, rfl, lk, hcd⟩ := Fn.ex
  refine ⟨hlen, fun A outer s H args us vs Q hr hg e0 hb rv hsp => ?_⟩
  have old : ∀ c o, base.get? c = some o → s.heap.get? c = some o := fun c o z => (e0.bs c o z).1
  have KX : K.In s.heap := e0.mod.kin.keeps old
  refine codeAny_call_function hr.depth (KX _ _ lk) rfl S.co S.gen rfl (PySem.W.codeRec_of KX hcd) (hb _ _ _ _ ?_)
  refine wpAny_newFunctionEnv_cells S.kind (fun y hy => ?_) fun env he s1 ic => ?_
  · obtain ⟨n, v⟩ := y
    have hm : n ∈ ps := (List.of_mem_zip hy).1
    rcases S.par n hm with q | q
    · exact .inl q
    · exact .inr ⟨q, PySem.W.cellsFrom_some _ _ _ (.inl q)⟩
  · subst he
    refine ⟨(e0.mod.nolimit.keeps old).keeps ic.toInCall.keep, codeAny_func ?_⟩
    have I := inv_start (CX := CX0) (E := E0) (cd := cdv) S hr.hd e0 (hlen _ _ _ _ hsp) rv ic
    have I' := I.wish (fun _ _ => False)
    have c : Whr P w K mg base k ⟨N, defScope st, fun _ => true, R⟩ (cxOf CX0 P w K mg base N qual (defScope st) f cdv A outer s H E0).nox :=
      ⟨⟨rfl, S.nd, rfl, S.kind, fun _ _ => rfl, rfl, hr.deeper _, hg, rfl⟩, rfl, rfl, rfl, rfl, rfl, hbn⟩
    have go := (sSs b c hchk hok).run [] s1 (L2.start N vs) H { nx := fun _ H' => Q .non H', rt := Q } I' (body_red B hpl hsp)
    refine wpAny_mono go (fun fl s' hs => ?_) fun _ _ z => z.elim
    have done : ∀ {σ' : L2.St} {H' : Hp} {v : V} {u : Value}, Inv (cxOf CX0 P w K mg base N qual (defScope st) f cdv A outer s H E0).nox [] σ' H' s' → RelV v u → Q v H' → CE outer P w H s Q u s' := fun {σ' H' v u} J r q => ⟨v, H', J.os, J.bare, J.base, J.hok, r, q⟩
    cases fl with
    | ret u =>
      obtain ⟨v, σ', H', J, r, q⟩ := hs
      exact done J r q
    | next =>
      obtain ⟨σ', H', J, q⟩ := hs
      exact done (v := V.non) (u := Value.none) J rfl q
    | brk =>
      obtain ⟨_, _, _, q⟩ := hs
      exact False.elim q
    | cont =>
      obtain ⟨_, _, _, q⟩ := hs
      exact False.elim q
end
end PF

set_option maxRecDepth 100000
set_option maxHeartbeats 1000000
namespace PF
open PySem PySem.Spec PyProof.Rows L2
/-! ### the law's end -/
abbrev FP (K : PySem.W.Frag) (x : Str) (st : Stmt) (f : Addr) (fd : FuncData) : Prop := FunD K x x (defArgs st) (defBody st) (defScope st) [] [] f fd
theorem fun_of {K : PySem.W.Frag} {x : Str} {st : Stmt} {f : Addr} {fd : FuncData} (F : FP K x st f fd) : Fun K x x st f fd := by
  refine ⟨?_, F.kp⟩
  obtain ⟨oc, od, dV, kV, doc, pm, an, cdv, ct, osl, e, l, c, hD, _⟩ := F.ex
  rcases hD with ⟨_, z⟩ | ⟨z, _⟩
  · subst z
    exact ⟨oc, od, kV, doc, pm, an, cdv, ct, osl, e, l, c⟩
  · exact absurd rfl z
/-- the law: a bare list of whole numbers comes in, True goes out -/
def lawSp (n : Nat) : ASp where
  run := fun as Q _ => ∃ ns : List Int, as = [.d (.list (ns.map .int))] ∧ ns.length ≤ n ∧ (∀ z ∈ ns, Builtin.Int.intBits z ≤ 1048576) ∧ Q (.d (.bool true)) as
  mono := fun vs Q Q' X X' h1 _ ⟨ns, e, hl, hz, q⟩ => ⟨ns, e, hl, hz, h1 _ _ q⟩
theorem dp_ints {K : PySem.W.Frag} {H : Hp} : ∀ ns : List Int, DpAll K H (ns.map V.int) (ns.map PyData.int)
  | [] => .nil
  | n :: r => .cons (.int n) (dp_ints r)
theorem wo_nil {H : Hp} : Wo H [] = H := by
  funext a
  simp [Wo]
theorem law_end {P : Program} {w : World} {K : PySem.W.Frag} {mg mb : Str → Option Value} {k n : Nat} {f a : Addr} {fd : FuncData} {x : Str} {t : Shared} {us : List Value} {ns : List Int}
    (KX : K.In t.heap) (hns : t.heap.Ns mainGlobals mg) (nb : t.heap.Ns builtinsNs mb) (bb : ∀ x : Str, x ≠ "__name__" → mb x = bootBuiltins x) (lim : t.heap.NoLimit) (g0 : t.gens = #[])
    (la : t.heap.get? a = some { cls := .type "list", data := .seq us.toArray }) (hi : IntsAre us ns) (hl : ns.length ≤ n) (hn : n ≤ sizeLine) (hz : ∀ z ∈ ns, Builtin.Int.intBits z ≤ 1048576) (room : Room k callerA)
    (F : ∀ base : Heap, K.In base → base.Ns mainGlobals mg → FnG P w K mg base k f fd [x] (liftSp K (lawSp n))) (hbind : ∀ (s : Shared) (u : Value), BindsTo s fd ⟨[u], []⟩ [(x, u)]) :
    codeAny (model P w) callerA (.call (.ref f) ⟨[.ref a], []⟩) (fun r s' => r = .ok (.ret (.bool true)) ∧ OldK t.heap s'.heap ∧ s'.os = t.os ∧ AllBare s'.gens) t := by
  have rel := vals_ints hi
  have len2 := hi.length
  have len3 : ns.length ≤ sizeLine := Nat.le_trans hl hn
  have main : ∀ H : Hp, Only H → SqL K H a (ns.map V.int) → HOk P w H t.heap → (∀ c, H c ≠ none → c = a) → (H a ≠ none → K.lookup a = none) →
      codeAny (model P w) callerA (.call (.ref f) ⟨[.ref a], []⟩) (fun r s' => r = .ok (.ret (.bool true)) ∧ OldK t.heap s'.heap ∧ s'.os = t.os ∧ AllBare s'.gens) t := by
    intro H only sq hok just out
    have un : ∀ {c : Addr} {o : Obj}, t.heap.get? c = some o → H c = none → (hidT t.heap H).get? c = some o := fun e n => hidT_get e n
    have nod : ∀ {c : Addr} {o : Obj} {es : Array DictEntry} {ep : Nat}, t.heap.get? c = some o → o.data = .dict es ep → H c = none := fun {c o es ep} e d => by
      rcases hq : H c with _ | u
      · rfl
      · have ec : c = a := just c (fun z => by rw [hq] at z; cases z)
        rw [ec, la] at e
        cases e
        have d2 : Data.seq us.toArray _ = Data.dict es ep := d
        cases d2
    have nsH : ∀ {c : Addr} {m : Str → Option Value}, t.heap.Ns c m → (hidT t.heap H).Ns c m := fun {c m} ⟨o, es, ep, e, d, r⟩ => ⟨o, es, ep, un e (nod e d), d, r⟩
    have kH : K.In (hidT t.heap H) := fun c o e => un (KX c o e) (by
      rcases hq : H c with _ | u
      · rfl
      · have ec : c = a := just c (fun z => by rw [hq] at z; cases z)
        rw [ec] at e hq
        rw [out (fun z => by rw [hq] at z; cases z)] at e
        cases e)
    have md : Mod K mg (hidT t.heap H) := ⟨kH, nsH hns, ⟨mb, nsH nb, bb⟩, let ⟨mc, h1, h2⟩ := lim; ⟨mc, nsH h1, h2⟩⟩
    have en : Env0 P w K mg (hidT t.heap H) callerA [] t H := ⟨rfl, md, fun c o e => of_hidT e, Nat.le_of_eq (hidT_size _ _), trivial, fun c hc => absurd (show c ∈ ([] : List Addr) from hc) (by simp), hok, .of_eq g0⟩
    have spn : liftSp K (lawSp n) [.ref a] H (fun v _ => v = .bl true) E0 := by
      refine ⟨[.d (.list (ns.map .int))], [], ⟨rfl, fun i y h => ?_, fun i ds h => ?_, fun i j h => ?_, fun i j ds ds' h => ?_, fun p hp => ?_⟩, ns, rfl, hl, hz, fun v H' _ _ _ r _ => ?_⟩
      · match i, h with
        | 0, h =>
          cases h
          exact ⟨_, rfl, by rw [wo_nil]; exact .lst sq (dp_ints ns)⟩
        | i + 1, h => simp at h
      · match i, h with
        | 0, h => cases h
        | i + 1, h => simp at h
      · match i, h with
        | 0, h => cases h
        | i + 1, h => simp at h
      · match i, h with
        | 0, h => cases h
        | i + 1, h => simp at h
      · cases hp
      · have r2 : Dp K (Wo H' []) v (.bool true) := r
        cases r2
        rfl
    refine codeAny_mono ((F _ kH (nsH hns)).run callerA [] t H ⟨[.ref a], []⟩ [.ref a] [.ref a] _ room rfl en (hbind t (.ref a)) (.cons rfl .nil) spn) fun r s' h => ?_
    match r, h with
    | .ok (.ret u), h =>
      obtain ⟨v, H', os, bare, und, hok', rv, q⟩ := h
      have q' : v = .bl true := q
      subst q'
      have eu : u = Value.bool true := rv
      subst eu
      refine ⟨rfl, OldK.of_keep fun c o e => ?_, os, bare⟩
      rcases hq : H c with _ | ho
      · exact und.keep c o e hq (by intro z; exact absurd (show c ∈ ([] : List Addr) from z) (by simp)) (by simp)
      · rcases only c with z | ⟨ob, xs, z⟩
        · rw [hq] at z; cases z
        · obtain ⟨e1, _⟩ := hok c _ z
          obtain ⟨e2, _⟩ := hok' c _ (und.frzs c ob _ z)
          rw [e] at e1; cases e1
          exact e2
  rcases hk : K.lookup a with _ | o
  · refine main (fun c => if c = a then some (.frz { cls := .type "list", data := .seq us.toArray } (.lst (ns.map V.int))) else none) (fun c => ?_) (.inl (.inr ⟨{ cls := .type "list", data := .seq us.toArray }, if_pos rfl⟩)) (fun c u z => ?_) (fun c z => ?_) fun _ => hk
    · by_cases hc : c = a
      · exact .inr ⟨_, _, if_pos hc⟩
      · exact .inl (if_neg hc)
    · by_cases hc : c = a
      · have z2 := (if_pos hc).symm.trans z
        cases z2
        rw [hc]
        exact ⟨la, by rw [List.length_map]; exact len3, us, _, rel, la⟩
      · have z2 := (if_neg hc).symm.trans z
        cases z2
    · by_cases hc : c = a
      · exact hc
      · exact absurd (if_neg hc) z
  · have e := KX a o hk
    rw [la] at e
    cases e
    exact main (fun _ => none) (fun _ => .inl rfl) (.inr ⟨_, us.toArray, _, hk, rfl, rfl, rfl, by rw [List.size_toArray, len2]; exact len3, by simpa using rel⟩) (fun c u z => by cases (show (none : Option HO) = some u from z)) (fun c z => absurd rfl z) fun z => absurd rfl z
theorem walk_g {l : PySem.W.OpenLaw} {n k : Nat} {q : Program} {loose : List Str} {XP : (Str → Option Value) → Heap → Prop} {YP : World → Heap → Prop} {d : DefRec} {x : Str}
    (hn : l.most = some n) (hn2 : n ≤ sizeLine) (hdf : d.params.defaults = []) (room : Room k callerA)
    (F : ∀ (w : World) (mg : Str → Option Value) (f : Addr) (h : Heap), YP w h → h.Ns mainGlobals mg → mg d.name = some (.ref f) →
      ∃ (K : PySem.W.Frag) (fd : FuncData), K.In h ∧ (∀ (s : Shared) (u : Value), BindsTo s fd ⟨[u], []⟩ [(x, u)]) ∧
        ∀ base : Heap, K.In base → base.Ns mainGlobals mg → FnG l.prog w K mg base k f fd [x] (liftSp K (lawSp n))) :
    PySem.W.WalkO q loose XP YP l.row.toRowW d [] (fun f vs => PySem.call f vs) := by
  refine Att.attach_callB hn hdf fun w t0 t mg mb f o pm cd doc a us ns G Y ho hd hcd hmg la hi hl hz g0 => ?_
  obtain ⟨K, fd, KX, hb, hF⟩ := F w mg f _ Y G.T.g hmg
  exact law_end KX G.T.g G.T.b G.T.builtins G.T.nolimit g0 la hi hl hn2 hz room hF hb
/-! ### what the head tells -/
theorem glob_int {K : PySem.W.Frag} {h : Heap} {mg : Str → Option Value} {x : Str} {i : Int} (X : K.In h) (G : h.Ns mainGlobals mg) (c : (He.Fa.int x i).ok K = true) : GlobOk K mg x (.int i) := by
  obtain ⟨t, e⟩ := He.int_ok X G c
  exact ⟨.int i, _, e, ⟨t, rfl⟩, fun H => .int i⟩
/-- plain tables of whole numbers -/
def DvI (ns : List Int) : List He.Dv := ns.map He.Dv.int
theorem glob_tup {K : PySem.W.Frag} {h : Heap} {mg : Str → Option Value} {x : Str} {ns : List Int} (X : K.In h) (G : h.Ns mainGlobals mg) (c : (He.Fa.glo x).ok K = true) (t : He.tupB K x (DvI ns) = true) : GlobOk K mg x (.tuple (ns.map .int)) := by
  refine ⟨.ref (He.ga K x), _, He.glo_ok X G c, rfl, fun H => .tup (He.tupB_ok t H) ?_⟩
  have : (DvI ns).map (He.Dv.v K) = ns.map V.int := by
    unfold DvI
    rw [List.map_map]
    rfl
  rw [this]
  exact dp_ints ns
/-- the head's facts, with one more look at the part of the heap -/
def hookP (n : Nat) (ex : PySem.W.Frag → Bool) (fa : List He.Fa) (fn : List He.DefD) : PySem.W.Hook where
  α := Bool × He.AlD
  obs := fun s => let K := He.frG s.heap.get? (He.asD s.heap.get? n); (ex K, He.obsD fa fn K)
  val := fun _ => (true, He.valD fn)
  says := fun _ h => ∃ K : PySem.W.Frag, K.In h ∧ ex K = true ∧ He.SaysD fa fn K
  of := fun _ _ e => ⟨_, He.frG_in, congrArg Prod.fst e, congrArg Prod.snd e⟩
  keeps := fun _ _ _ ⟨K, i, c⟩ k => ⟨K, PySem.W.Frag.In.keeps i k, c⟩
def obP (n : Nat) (ex : PySem.W.Frag → Bool) (fa : List He.Fa) (fn : List He.DefD) (s : PySem.W.SharedT) : Bool × He.AlD := let K := He.frG (HandSHeadRun.getT s) (He.asD (HandSHeadRun.getT s) n); (ex K, He.obsD fa fn K)
theorem obP_eq {n : Nat} {ex : PySem.W.Frag → Bool} {fa : List He.Fa} {fn : List He.DefD} (s : PySem.W.SharedT) : obP n ex fa fn s = (hookP n ex fa fn).obs s.abs := by
  have e : HandSHeadRun.getT s = s.abs.heap.get? := funext (HandSHeadRun.getT_eq s)
  show (let K := He.frG (HandSHeadRun.getT s) (He.asD (HandSHeadRun.getT s) n); (ex K, He.obsD fa fn K)) = _
  rw [e]
  rfl
/-- a def of the head, under its name -/
theorem call_of {P : Program} {w : World} {K : PySem.W.Frag} {mg : Str → Option Value} {base : Heap} {k : Nat} {x : Str} {st : Stmt} {f : Addr} {fd : FuncData} {ps : List Str} {sp : ASp} (F : FP K x st f fd) (g : mg x = some (.ref f)) (G : FnG P w K mg base k f fd ps (liftSp K sp))
    (hb : ∀ (kV doc pm : Value) (an : Option Addr) (cdv ct : Value) (us : List Value), us.length = ps.length → bindArgs (PySem.W.fnOf x x (defArgs st) (defBody st) (defScope st) .none kV doc pm an cdv ct) ⟨us, []⟩ = pure (ps.zip us)) : CallOk P w K mg base k x sp :=
  ⟨f, fd, ps, G, g, F.kp, F.bindsN hb⟩
theorem callK_of {P : Program} {w : World} {K : PySem.W.Frag} {mg : Str → Option Value} {base : Heap} {k : Nat} {x : Str} {st : Stmt} {f : Addr} {fd : FuncData} {ps ks : List Str} {sp : ASp} (F : FP K x st f fd) (g : mg x = some (.ref f)) (G : FnG P w K mg base k f fd ps (liftSp K sp))
    (hb : ∀ (kV doc pm : Value) (an : Option Addr) (cdv ct : Value) (ws : List Value), ws.length = ks.length → ∃ us, ps.mapM (fun p => (ks.zip ws).lookup p) = some us ∧ bindArgs (PySem.W.fnOf x x (defArgs st) (defBody st) (defScope st) .none kV doc pm an cdv ct) ⟨[], ks.zip ws⟩ = pure (ps.zip us)) : CallKOk P w K mg base k x sp ps ks := by
  refine ⟨f, fd, G, g, F.kp, fun s ws _ hl => ?_⟩
  obtain ⟨oc, od, dV, kV, doc, pm, an, cdv, ct, osl, e, l, c, hD, _⟩ := F.ex
  rcases hD with ⟨_, z⟩ | ⟨z, _⟩
  · subst z
    obtain ⟨us, h1, h2⟩ := hb kV doc pm an cdv ct ws hl
    exact ⟨us, h1, by rw [e]; exact .of_eq h2⟩
  · exact absurd rfl z
theorem CallOk.mono {P : Program} {w : World} {K : PySem.W.Frag} {mg : Str → Option Value} {base : Heap} {j k : Nat} {x : Str} {sp : ASp} (h : CallOk P w K mg base j x sp) (l : j ≤ k) : CallOk P w K mg base k x sp := by
  obtain ⟨f, fd, ps, G, r⟩ := h
  exact ⟨f, fd, ps, G.mono l, r⟩
theorem CallKOk.mono {P : Program} {w : World} {K : PySem.W.Frag} {mg : Str → Option Value} {base : Heap} {j k : Nat} {x : Str} {sp : ASp} {ps ks : List Str} (h : CallKOk P w K mg base j x sp ps ks) (l : j ≤ k) : CallKOk P w K mg base k x sp ps ks := by
  obtain ⟨f, fd, G, r⟩ := h
  exact ⟨f, fd, G.mono l, r⟩
end PF

set_option maxRecDepth 100000
set_option maxHeartbeats 1000000
namespace PF
open PySem
/-! ### promises as wishes -/
def lendD : List AV → Option (List PyData)
  | [] => some []
  | .d x :: r => (lendD r).map (x :: ·)
  | .o ds :: r => (lendD r).map (.list ds :: ·)
  | .b _ :: _ => none
abbrev WF := List PyData → (AV → Prop) → Prop
def WF.Mono (f : WF) : Prop := ∀ xs k k', (∀ r, k r → k' r) → f xs k → f xs k'
/-- data in -/
def spW (f : WF) (m : f.Mono) : ASp where
  run := fun as Q _ => ∃ xs : List PyData, as = xs.map AV.d ∧ f xs fun r => Q r as
  mono := fun vs Q Q' X X' h _ ⟨xs, e, q⟩ => ⟨xs, e, m _ _ _ (fun r q => h _ _ q) q⟩
theorem lend_d : ∀ {vs : List AV} {xs : List PyData} {env : AEnv} {k : List AV → Prop}, lendD vs = some xs → (lendK env vs k ↔ k (xs.map AV.d))
  | [], xs, env, k, h => by cases h; exact Iff.rfl
  | .d x :: r, xs, env, k, h => by
    unfold lendD at h
    obtain ⟨ys, h1, rfl⟩ := Option.map_eq_some_iff.mp h
    exact lend_d (vs := r) (k := fun as => k (.d x :: as)) h1
  | .o ds :: r, xs, env, k, h => by
    unfold lendD at h
    obtain ⟨ys, h1, rfl⟩ := Option.map_eq_some_iff.mp h
    exact lend_d (vs := r) (k := fun as => k (.d (.list ds) :: as)) h1
  | .b j :: r, xs, env, k, h => by cases h
theorem lend_lent : ∀ {vs : List AV} {xs : List PyData}, lendD vs = some xs → lent vs = []
  | [], _, _ => rfl
  | .d x :: r, xs, h => by
    unfold lendD at h
    obtain ⟨ys, h1, rfl⟩ := Option.map_eq_some_iff.mp h
    exact lend_lent (vs := r) h1
  | .o ds :: r, xs, h => by
    unfold lendD at h
    obtain ⟨ys, h1, rfl⟩ := Option.map_eq_some_iff.mp h
    exact lend_lent (vs := r) h1
  | .b j :: r, xs, h => by cases h
theorem lend_back : ∀ {vs : List AV} {xs : List PyData} {env : AEnv} {as : List AV}, lendD vs = some xs → backL env vs as = env
  | [], _, env, as, _ => by cases as <;> rfl
  | .d x :: r, xs, env, [], h => rfl
  | .o x :: r, xs, env, [], h => rfl
  | .d x :: r, xs, env, a :: as, h => by
    unfold lendD at h
    obtain ⟨ys, h1, rfl⟩ := Option.map_eq_some_iff.mp h
    exact lend_back (vs := r) h1
  | .o ds :: r, xs, env, a :: as, h => by
    unfold lendD at h
    obtain ⟨ys, h1, rfl⟩ := Option.map_eq_some_iff.mp h
    exact lend_back (vs := r) h1
  | .b j :: r, xs, env, as, h => by cases h
theorem map_d_inj : ∀ {xs ys : List PyData}, xs.map AV.d = ys.map AV.d → xs = ys
  | [], [], _ => rfl
  | [], _ :: _, h => by cases h
  | _ :: _, [], h => by cases h
  | x :: xs, y :: ys, h => by
    simp only [List.map_cons, List.cons.injEq, AV.d.injEq] at h
    rw [h.1, map_d_inj h.2]
theorem call_W {f : WF} {m : f.Mono} {vs : List AV} {xs : List PyData} {env : AEnv} {Q : AV → AEnv → Prop} {X : XQ} (h : lendD vs = some xs) : callK (spW f m) vs env Q X ↔ f xs fun r => Q r env := by
  unfold callK
  rw [lend_d h, lend_lent h]
  constructor
  · rintro ⟨_, ys, e, q⟩
    rw [map_d_inj e]
    exact m _ _ _ (fun r (q : Q r (backL env vs (xs.map AV.d))) => by rw [lend_back h] at q; exact q) q
  · intro q
    exact ⟨Nat.zero_le _, xs, rfl, m _ _ _ (fun r q => by show Q r (backL env vs (xs.map AV.d)); rw [lend_back h]; exact q) q⟩
abbrev LF := List PyData → List PyData → (AV → List PyData → Prop) → Prop
def LF.Mono (f : LF) : Prop := ∀ l xs k k', (∀ r l, k r l → k' r l) → f l xs k → f l xs k'
/-- one list is lent, then data -/
def spL (f : LF) (m : f.Mono) : ASp where
  run := fun as Q _ => ∃ (l : List PyData) (xs : List PyData), as = .o l :: xs.map AV.d ∧ f l xs fun r l' => Q r (.o l' :: xs.map AV.d)
  mono := fun vs Q Q' X X' h _ ⟨l, xs, e, q⟩ => ⟨l, xs, e, m _ _ _ _ (fun r l' q => h _ _ q) q⟩
theorem call_L {f : LF} {m : f.Mono} {vs : List AV} {l xs : List PyData} {j : Nat} {env : AEnv} {Q : AV → AEnv → Prop} {X : XQ} (hj : getE env j = some (.o l)) (h : lendD vs = some xs) : callK (spL f m) (.b j :: vs) env Q X ↔ f l xs fun r l' => Q r (setE env j (some (.o l'))) := by
  unfold callK lendK
  rw [hj]
  simp only [lend_d h, lent, lend_lent h]
  constructor
  · rintro ⟨_, l2, ys, e, q⟩
    simp only [List.cons.injEq, AV.o.injEq] at e
    rw [e.1, map_d_inj e.2]
    exact m _ _ _ _ (fun r l' (q : Q r (backL (setE env j (some (.o l'))) vs (ys.map AV.d))) => by rw [lend_back h] at q; exact q) q
  · intro q
    exact ⟨by simp, l, xs, rfl, m _ _ _ _ (fun r l' q => by show Q r (backL (setE env j (some (.o l'))) vs (xs.map AV.d)); rw [lend_back h]; exact q) q⟩
theorem fin_d : ∀ {xs : List PyData} {env : AEnv} {i : Nat}, finals (xs.map AV.d) env i = xs.map AV.d
  | [], _, _ => rfl
  | x :: r, env, i => by show AV.d x :: finals (r.map AV.d) env (i + 1) = _; rw [fin_d]; rfl
theorem retK_mono {R : List Nat} {r : AV} {env : AEnv} {k k' : AV → Prop} (h : ∀ r, k r → k' r) (q : retK R r env k) : retK R r env k' := by
  unfold retK at q ⊢
  split at q
  · exact h _ q
  · exact h _ q
  · refine ⟨q.1, ?_⟩
    have q2 := q.2
    split at q2
    · exact h _ q2
    · exact q2.elim
theorem body_W {np n : Nat} {R : List Nat} {b : Ss} {f : WF} {m : f.Mono} (hl : ∀ xs k, f xs k → xs.length = np) (h : ∀ xs (k : AV → Prop), f xs k → wSs X0 b (initE n (xs.map AV.d)) { nx := fun _ => k (.d .none), rt := fun r env => retK R r env k }) : Body np n R b (spW f m) where
  len := fun as Q X ⟨xs, e, q⟩ => by rw [e, List.length_map]; exact hl _ _ q
  lent := fun as Q X ⟨xs, e, q⟩ i ds z => by
    rw [e, List.getElem?_map] at z
    cases hx : xs[i]? with
    | none => rw [hx] at z; cases z
    | some y => rw [hx] at z; cases z
  run := fun as Q ⟨xs, e, q⟩ => by
    subst e
    refine wSs_mono b ?_ (h xs (fun r => Q r (xs.map AV.d)) q)
    refine ⟨fun env z => ?_, fun r env z => ?_, fun _ z => z, fun _ z => z⟩
    · show Q (.d .none) (finals (xs.map AV.d) env 0)
      rw [fin_d]; exact z
    · exact retK_mono (k := fun r => Q r (xs.map AV.d)) (fun r z => by show Q r (finals (xs.map AV.d) env 0); rw [fin_d]; exact z) z
def endL (env : AEnv) (p : List PyData → Prop) : Prop := match getE env 0 with
  | some (.o l) => p l
  | _ => False
theorem body_L {np n : Nat} {b : Ss} {f : LF} {m : f.Mono} (hl : ∀ l xs k, f l xs k → xs.length + 1 = np) (h : ∀ l xs (k : AV → List PyData → Prop), f l xs k → wSs X0 b (initE n (.o l :: xs.map AV.d)) { nx := fun env => endL env fun l' => k (.d .none) l', rt := fun r env => retK [0] r env fun r' => endL env fun l' => k r' l' }) : Body np n [0] b (spL f m) where
  len := fun as Q X ⟨l, xs, e, q⟩ => by rw [e, List.length_cons, List.length_map]; exact hl _ _ _ q
  lent := fun as Q X ⟨l, xs, e, q⟩ i ds z => by
    rw [e] at z
    cases i with
    | zero => exact List.mem_cons_self
    | succ i =>
      rw [List.getElem?_cons_succ, List.getElem?_map] at z
      cases hx : xs[i]? with
      | none => rw [hx] at z; cases z
      | some y => rw [hx] at z; cases z
  run := fun as Q ⟨l, xs, e, q⟩ => by
    subst e
    have fin : ∀ {env : AEnv} {p : List PyData → Prop}, endL env p → ∃ l', p l' ∧ finals (.o l :: xs.map AV.d) env 0 = .o l' :: xs.map AV.d := fun {env p} z => by
      unfold endL at z
      split at z
      · rename_i l' hg
        refine ⟨l', z, ?_⟩
        show (match getE env 0 with | some (.o ds') => AV.o ds' | _ => AV.o l) :: finals (xs.map AV.d) env 1 = _
        rw [hg, fin_d]
      · exact z.elim
    refine wSs_mono b ?_ (h l xs (fun r l' => Q r (.o l' :: xs.map AV.d)) q)
    refine ⟨fun env z => ?_, fun r env z => ?_, fun _ z => z, fun _ z => z⟩
    · obtain ⟨l', z, e⟩ := fin z
      show Q (.d .none) (finals (.o l :: xs.map AV.d) env 0)
      rw [e]; exact z
    · refine retK_mono (k := fun r' => endL env fun l' => Q r' (.o l' :: xs.map AV.d)) (k' := fun r' => Q r' (finals (.o l :: xs.map AV.d) env 0)) (fun r z => ?_) z
      obtain ⟨l', z, e⟩ := fin z
      show Q r (finals (.o l :: xs.map AV.d) env 0)
      rw [e]; exact z
/-! ### loops -/
/-- a walk by an invariant over what is left -/
theorem for_inv {body : AEnv → AEnds → Prop} {tg : Tg} {D : AEnds} (I : List PyData → AEnv → Prop) (m : ∀ env D D', AEnds.Le D D' → body env D → body env D') (h0 : ∀ env, I [] env → D.nx env)
    (hs : ∀ x xs env, I (x :: xs) env → tgK tg x env fun env1 => body env1 { D with nx := I xs, ct := I xs, bk := D.nx }) : ∀ {items : List PyData} {env : AEnv}, I items env → forW body tg D items env
  | [], env, h => h0 env h
  | x :: xs, env, h => by
    refine tgK_mono (fun env1 q => ?_) (hs x xs env h)
    refine m _ { D with nx := I xs, ct := I xs, bk := D.nx } _ ?_ q
    exact ⟨fun e z => for_inv I m h0 hs z, fun _ _ z => z, fun _ z => z, fun e z => for_inv I m h0 hs z⟩
theorem body_mono {b : Ss} (env : AEnv) (D D' : AEnds) (l : AEnds.Le D D') (h : wSs X0 b env D) : wSs X0 b env D' := wSs_mono b l h
end PF

set_option maxRecDepth 100000
set_option maxHeartbeats 1000000
/-! PK: the calculus by constructors: nothing is unfolded ahead of its values. Printed by mkpk.py. -/
namespace PF
namespace V
open PySem
theorem rd_d {env : AEnv}{k : PyData → Prop}{x : PyData} : rdK env (.d x) k = k x := rfl
theorem rd_o {env : AEnv}{k : PyData → Prop}{ds : List PyData} : rdK env (.o ds) k = k (.list ds) := rfl
theorem rd_b {env : AEnv}{k : PyData → Prop}{j : Nat} : rdK env (.b j) k = match getE env j with | some (.o ds) => k (.list ds) | _ => False := rfl
theorem da_d {k : PyData → Prop}{x : PyData} : dataK (.d x) k = k x := rfl
theorem da_o {k : PyData → Prop}{ds : List PyData} : dataK (.o ds) k = k (.list ds) := rfl
theorem das_n {k : List PyData → Prop} : datasK [] k = k [] := rfl
theorem das_c {k : List PyData → Prop} {v : AV} {vs : List AV} : datasK (v :: vs) k = dataK v fun x => datasK vs fun xs => k (x :: xs) := rfl
theorem rds_n {env : AEnv}{k : List PyData → Prop} : rdsK env [] k = k [] := rfl
theorem rds_c {env : AEnv}{k : List PyData → Prop} {v : AV} {vs : List AV} : rdsK env (v :: vs) k = rdK env v fun x => rdsK env vs fun xs => k (x :: xs) := rfl
theorem tr_b {env : AEnv}{k : Bool → Prop}{b : Bool} : truthK env (.d (.bool b)) k = k b := rfl
theorem tr_i {env : AEnv}{k : Bool → Prop}{i : Int} : truthK env (.d (.int i)) k = k (i != 0) := rfl
theorem tr_n {env : AEnv}{k : Bool → Prop} : truthK env (.d .none) k = k false := rfl
theorem tr_l {env : AEnv}{k : Bool → Prop}{xs : List PyData} : truthK env (.d (.list xs)) k = k (!xs.isEmpty) := rfl
theorem tr_t {env : AEnv}{k : Bool → Prop}{xs : List PyData} : truthK env (.d (.tuple xs)) k = k (!xs.isEmpty) := rfl
theorem tr_o {env : AEnv}{k : Bool → Prop}{xs : List PyData} : truthK env (.o xs) k = k (!xs.isEmpty) := rfl
theorem bn_add {k : AV → Prop}{i j : Int} : binK .add (.int i) (.int j) k = k (.d (.int (i + j))) := rfl
theorem bn_sub {k : AV → Prop}{i j : Int} : binK .sub (.int i) (.int j) k = k (.d (.int (i - j))) := rfl
theorem bn_mul {k : AV → Prop}{i j : Int} : binK .mul (.int i) (.int j) k = (mulOk i j ∧ k (.d (.int (i * j)))) := rfl
theorem bn_fdiv {k : AV → Prop}{i j : Int} : binK .fdiv (.int i) (.int j) k = (divOk j ∧ k (.d (.int (i.fdiv j)))) := rfl
theorem bn_mod {k : AV → Prop}{i j : Int} : binK .mod (.int i) (.int j) k = (j ≠ 0 ∧ k (.d (.int (i.fmod j)))) := rfl
theorem bn_pow {k : AV → Prop}{i j : Int} : binK .pow (.int i) (.int j) k = (powOk i j ∧ k (.d (.int (i ^ j.toNat)))) := rfl
theorem bn_cat {k : AV → Prop}{a b : List PyData} : binK .add (.list a) (.list b) k = (a.length + b.length ≤ sizeLine ∧ k (.o (a ++ b))) := rfl
theorem cp_eq {k : Bool → Prop}{x y : PyData} : cmpK .eq x y k = (SeqAt.shaped x = true ∧ SeqAt.shaped y = true ∧ k (PyData.eqv x y)) := rfl
theorem cp_ne {k : Bool → Prop}{x y : PyData} : cmpK .ne x y k = (SeqAt.shaped x = true ∧ SeqAt.shaped y = true ∧ k (!PyData.eqv x y)) := rfl
theorem cp_lt {k : Bool → Prop}{i j : Int} : cmpK .lt (.int i) (.int j) k = k (decide (i < j)) := rfl
theorem cp_le {k : Bool → Prop}{i j : Int} : cmpK .le (.int i) (.int j) k = k (decide (i ≤ j)) := rfl
theorem cp_gt {k : Bool → Prop}{i j : Int} : cmpK .gt (.int i) (.int j) k = k (decide (j < i)) := rfl
theorem cp_ge {k : Bool → Prop}{i j : Int} : cmpK .ge (.int i) (.int j) k = k (decide (j ≤ i)) := rfl
theorem cp_in {k : Bool → Prop}{x : PyData} {ys : List PyData} : cmpK .isin x (.list ys) k = (SeqAt.shaped x = true ∧ SeqAt.shaped (.list ys) = true ∧ k (ys.any fun z => PyData.eqv z x)) := rfl
theorem cp_nin {k : Bool → Prop}{x : PyData} {ys : List PyData} : cmpK .notin x (.list ys) k = (SeqAt.shaped x = true ∧ SeqAt.shaped (.list ys) = true ∧ k (!ys.any fun z => PyData.eqv z x)) := rfl
theorem is_n {k : Bool → Prop} : cmpK .is .none .none k = k true := rfl
theorem isn_n {k : Bool → Prop} : cmpK .isnot .none .none k = k false := rfl
theorem is_b {k : Bool → Prop}{b : Bool} : cmpK .is (.bool b) .none k = k false := rfl
theorem isn_b {k : Bool → Prop}{b : Bool} : cmpK .isnot (.bool b) .none k = k true := rfl
theorem is_i {k : Bool → Prop}{i : Int} : cmpK .is (.int i) .none k = k false := rfl
theorem isn_i {k : Bool → Prop}{i : Int} : cmpK .isnot (.int i) .none k = k true := rfl
theorem is_s {k : Bool → Prop}{s : Str} : cmpK .is (.str s) .none k = k false := rfl
theorem isn_s {k : Bool → Prop}{s : Str} : cmpK .isnot (.str s) .none k = k true := rfl
theorem is_l {k : Bool → Prop}{xs : List PyData} : cmpK .is (.list xs) .none k = k false := rfl
theorem isn_l {k : Bool → Prop}{xs : List PyData} : cmpK .isnot (.list xs) .none k = k true := rfl
theorem is_t {k : Bool → Prop}{xs : List PyData} : cmpK .is (.tuple xs) .none k = k false := rfl
theorem isn_t {k : Bool → Prop}{xs : List PyData} : cmpK .isnot (.tuple xs) .none k = k true := rfl
theorem is_bb {k : Bool → Prop}{a b : Bool} : cmpK .is (.bool a) (.bool b) k = k (decide (a = b)) := rfl
theorem isn_bb {k : Bool → Prop}{a b : Bool} : cmpK .isnot (.bool a) (.bool b) k = k (!decide (a = b)) := rfl
theorem ix_l {k : PyData → Prop}{xs : List PyData} {i : Int} : ixK (.list xs) (.int i) k = (match L2.atI xs i with | some z => k z | none => False) := rfl
theorem ix_t {k : PyData → Prop}{xs : List PyData} {i : Int} : ixK (.tuple xs) (.int i) k = (match L2.atI xs i with | some z => k z | none => False) := rfl
theorem sl_l {k : AV → Prop}{xs : List PyData} {lo hi : Option Int} : slK (.list xs) lo hi k = k (.o (cutD xs lo hi)) := rfl
theorem bi_len {k : AV → Prop}{a : List PyData} : biK .len [.list a] k = k (.d (.int a.length)) := rfl
theorem bi_lent {k : AV → Prop}{a : List PyData} : biK .len [.tuple a] k = k (.d (.int a.length)) := rfl
theorem bi_abs {k : AV → Prop}{i : Int} : biK .abs [.int i] k = k (.d (.int (if i < 0 then -i else i))) := rfl
theorem bi_max2 {k : AV → Prop}{i j : Int} : biK .max2 [.int i, .int j] k = k (.d (.int (if j > i then j else i))) := rfl
theorem bi_min2 {k : AV → Prop}{i j : Int} : biK .min2 [.int i, .int j] k = k (.d (.int (if j < i then j else i))) := rfl
theorem bi_int {k : AV → Prop}{i : Int} : biK .int [.int i] k = k (.d (.int i)) := rfl
theorem bi_intb {k : AV → Prop}{b : Bool} : biK .int [.bool b] k = k (.d (.int (if b then 1 else 0))) := rfl
theorem bi_list {k : AV → Prop}{a : List PyData} : biK .list [.list a] k = k (.o a) := rfl
theorem bi_listt {k : AV → Prop}{a : List PyData} : biK .list [.tuple a] k = k (.o a) := rfl
theorem bi_tup {k : AV → Prop}{a : List PyData} : biK .tuple [.list a] k = k (.d (.tuple a)) := rfl
theorem bi_tupt {k : AV → Prop}{a : List PyData} : biK .tuple [.tuple a] k = k (.d (.tuple a)) := rfl
theorem bi_sum {k : AV → Prop}{a : List PyData} : biK .sum [.list a] k = (match intsOf a with | some ns => k (.d (.int ns.sum)) | none => False) := rfl
theorem bi_any {k : AV → Prop}{a : List PyData} : biK .any [.list a] k = (match boolsOf a with | some bs => k (.d (.bool (bs.any id))) | none => False) := rfl
theorem bi_all {k : AV → Prop}{a : List PyData} : biK .all [.list a] k = (match boolsOf a with | some bs => k (.d (.bool (bs.all id))) | none => False) := rfl
theorem bi_min1 {k : AV → Prop}{a : List PyData} : biK .min1 [.list a] k = (match intsOf a with | some ns => 0 < ns.length ∧ ∀ m, m ∈ ns → (∀ y, y ∈ ns → m ≤ y) → k (.d (.int m)) | none => False) := rfl
theorem bi_max1 {k : AV → Prop}{a : List PyData} : biK .max1 [.list a] k = (match intsOf a with | some ns => 0 < ns.length ∧ ∀ m, m ∈ ns → (∀ y, y ∈ ns → y ≤ m) → k (.d (.int m)) | none => False) := rfl
theorem bi_sorted {k : AV → Prop}{a : List PyData} : biK .sorted [.list a] k = (match intsOf a with | some ns => ∀ ns' : List Int, ns'.Perm ns → ns'.Pairwise (· ≤ ·) → k (.o (ns'.map .int)) | none => False) := rfl
theorem bi_repr {k : AV → Prop}{x : PyData} : biK .repr [x] k = ((x.showable = true ∧ x.hasDict = false ∧ x.shown.length ≤ sizeLine ∧ x.depth ≤ 64) ∧ k (.d (.str x.shown))) := rfl
theorem sq_d {k : List PyData → Prop}{xs : List PyData} : seqK (.d (.list xs)) k = k xs := rfl
theorem sq_t {k : List PyData → Prop}{xs : List PyData} : seqK (.d (.tuple xs)) k = k xs := rfl
theorem sq_o {k : List PyData → Prop}{xs : List PyData} : seqK (.o xs) k = k xs := rfl
theorem ls_d {k : List PyData → Prop}{xs : List PyData} : lstK (.d (.list xs)) k = k xs := rfl
theorem ls_o {k : List PyData → Prop}{xs : List PyData} : lstK (.o xs) k = k xs := rfl
theorem tg_n {env : AEnv}{k : AEnv → Prop}{i : Nat} {x : PyData} : tgK (.nm i) x env k = k (setE env i (some (.d x))) := rfl
theorem tg_t {env : AEnv}{k : AEnv → Prop}{is : List Nat} {xs : List PyData} : tgK (.tp is) (.tuple xs) env k = (xs.length = is.length ∧ k (setMany is xs env)) := rfl
theorem vd_0 {env : AEnv}{x : PyData}{Q : AV → AEnv → Prop} {X : XQ} : wE (.var 0) (some (.d x) :: env) Q X = Q (.d x) (some (.d x) :: env) := rfl
theorem vo_0 {env : AEnv}{x : List PyData}{Q : AV → AEnv → Prop} {X : XQ} : wE (.var 0) (some (.o x) :: env) Q X = Q (.b 0) (some (.o x) :: env) := rfl
theorem vd_1 {a0 : Option AV} {env : AEnv}{x : PyData}{Q : AV → AEnv → Prop} {X : XQ} : wE (.var 1) (a0 :: some (.d x) :: env) Q X = Q (.d x) (a0 :: some (.d x) :: env) := rfl
theorem vo_1 {a0 : Option AV} {env : AEnv}{x : List PyData}{Q : AV → AEnv → Prop} {X : XQ} : wE (.var 1) (a0 :: some (.o x) :: env) Q X = Q (.b 1) (a0 :: some (.o x) :: env) := rfl
theorem vd_2 {a0 a1 : Option AV} {env : AEnv}{x : PyData}{Q : AV → AEnv → Prop} {X : XQ} : wE (.var 2) (a0 :: a1 :: some (.d x) :: env) Q X = Q (.d x) (a0 :: a1 :: some (.d x) :: env) := rfl
theorem vo_2 {a0 a1 : Option AV} {env : AEnv}{x : List PyData}{Q : AV → AEnv → Prop} {X : XQ} : wE (.var 2) (a0 :: a1 :: some (.o x) :: env) Q X = Q (.b 2) (a0 :: a1 :: some (.o x) :: env) := rfl
theorem vd_3 {a0 a1 a2 : Option AV} {env : AEnv}{x : PyData}{Q : AV → AEnv → Prop} {X : XQ} : wE (.var 3) (a0 :: a1 :: a2 :: some (.d x) :: env) Q X = Q (.d x) (a0 :: a1 :: a2 :: some (.d x) :: env) := rfl
theorem vo_3 {a0 a1 a2 : Option AV} {env : AEnv}{x : List PyData}{Q : AV → AEnv → Prop} {X : XQ} : wE (.var 3) (a0 :: a1 :: a2 :: some (.o x) :: env) Q X = Q (.b 3) (a0 :: a1 :: a2 :: some (.o x) :: env) := rfl
theorem vd_4 {a0 a1 a2 a3 : Option AV} {env : AEnv}{x : PyData}{Q : AV → AEnv → Prop} {X : XQ} : wE (.var 4) (a0 :: a1 :: a2 :: a3 :: some (.d x) :: env) Q X = Q (.d x) (a0 :: a1 :: a2 :: a3 :: some (.d x) :: env) := rfl
theorem vo_4 {a0 a1 a2 a3 : Option AV} {env : AEnv}{x : List PyData}{Q : AV → AEnv → Prop} {X : XQ} : wE (.var 4) (a0 :: a1 :: a2 :: a3 :: some (.o x) :: env) Q X = Q (.b 4) (a0 :: a1 :: a2 :: a3 :: some (.o x) :: env) := rfl
theorem vd_5 {a0 a1 a2 a3 a4 : Option AV} {env : AEnv}{x : PyData}{Q : AV → AEnv → Prop} {X : XQ} : wE (.var 5) (a0 :: a1 :: a2 :: a3 :: a4 :: some (.d x) :: env) Q X = Q (.d x) (a0 :: a1 :: a2 :: a3 :: a4 :: some (.d x) :: env) := rfl
theorem vo_5 {a0 a1 a2 a3 a4 : Option AV} {env : AEnv}{x : List PyData}{Q : AV → AEnv → Prop} {X : XQ} : wE (.var 5) (a0 :: a1 :: a2 :: a3 :: a4 :: some (.o x) :: env) Q X = Q (.b 5) (a0 :: a1 :: a2 :: a3 :: a4 :: some (.o x) :: env) := rfl
theorem vd_6 {a0 a1 a2 a3 a4 a5 : Option AV} {env : AEnv}{x : PyData}{Q : AV → AEnv → Prop} {X : XQ} : wE (.var 6) (a0 :: a1 :: a2 :: a3 :: a4 :: a5 :: some (.d x) :: env) Q X = Q (.d x) (a0 :: a1 :: a2 :: a3 :: a4 :: a5 :: some (.d x) :: env) := rfl
theorem vo_6 {a0 a1 a2 a3 a4 a5 : Option AV} {env : AEnv}{x : List PyData}{Q : AV → AEnv → Prop} {X : XQ} : wE (.var 6) (a0 :: a1 :: a2 :: a3 :: a4 :: a5 :: some (.o x) :: env) Q X = Q (.b 6) (a0 :: a1 :: a2 :: a3 :: a4 :: a5 :: some (.o x) :: env) := rfl
theorem vd_7 {a0 a1 a2 a3 a4 a5 a6 : Option AV} {env : AEnv}{x : PyData}{Q : AV → AEnv → Prop} {X : XQ} : wE (.var 7) (a0 :: a1 :: a2 :: a3 :: a4 :: a5 :: a6 :: some (.d x) :: env) Q X = Q (.d x) (a0 :: a1 :: a2 :: a3 :: a4 :: a5 :: a6 :: some (.d x) :: env) := rfl
theorem vo_7 {a0 a1 a2 a3 a4 a5 a6 : Option AV} {env : AEnv}{x : List PyData}{Q : AV → AEnv → Prop} {X : XQ} : wE (.var 7) (a0 :: a1 :: a2 :: a3 :: a4 :: a5 :: a6 :: some (.o x) :: env) Q X = Q (.b 7) (a0 :: a1 :: a2 :: a3 :: a4 :: a5 :: a6 :: some (.o x) :: env) := rfl
theorem vd_8 {a0 a1 a2 a3 a4 a5 a6 a7 : Option AV} {env : AEnv}{x : PyData}{Q : AV → AEnv → Prop} {X : XQ} : wE (.var 8) (a0 :: a1 :: a2 :: a3 :: a4 :: a5 :: a6 :: a7 :: some (.d x) :: env) Q X = Q (.d x) (a0 :: a1 :: a2 :: a3 :: a4 :: a5 :: a6 :: a7 :: some (.d x) :: env) := rfl
theorem vo_8 {a0 a1 a2 a3 a4 a5 a6 a7 : Option AV} {env : AEnv}{x : List PyData}{Q : AV → AEnv → Prop} {X : XQ} : wE (.var 8) (a0 :: a1 :: a2 :: a3 :: a4 :: a5 :: a6 :: a7 :: some (.o x) :: env) Q X = Q (.b 8) (a0 :: a1 :: a2 :: a3 :: a4 :: a5 :: a6 :: a7 :: some (.o x) :: env) := rfl
theorem vd_9 {a0 a1 a2 a3 a4 a5 a6 a7 a8 : Option AV} {env : AEnv}{x : PyData}{Q : AV → AEnv → Prop} {X : XQ} : wE (.var 9) (a0 :: a1 :: a2 :: a3 :: a4 :: a5 :: a6 :: a7 :: a8 :: some (.d x) :: env) Q X = Q (.d x) (a0 :: a1 :: a2 :: a3 :: a4 :: a5 :: a6 :: a7 :: a8 :: some (.d x) :: env) := rfl
theorem vo_9 {a0 a1 a2 a3 a4 a5 a6 a7 a8 : Option AV} {env : AEnv}{x : List PyData}{Q : AV → AEnv → Prop} {X : XQ} : wE (.var 9) (a0 :: a1 :: a2 :: a3 :: a4 :: a5 :: a6 :: a7 :: a8 :: some (.o x) :: env) Q X = Q (.b 9) (a0 :: a1 :: a2 :: a3 :: a4 :: a5 :: a6 :: a7 :: a8 :: some (.o x) :: env) := rfl
theorem vd_10 {a0 a1 a2 a3 a4 a5 a6 a7 a8 a9 : Option AV} {env : AEnv}{x : PyData}{Q : AV → AEnv → Prop} {X : XQ} : wE (.var 10) (a0 :: a1 :: a2 :: a3 :: a4 :: a5 :: a6 :: a7 :: a8 :: a9 :: some (.d x) :: env) Q X = Q (.d x) (a0 :: a1 :: a2 :: a3 :: a4 :: a5 :: a6 :: a7 :: a8 :: a9 :: some (.d x) :: env) := rfl
theorem vo_10 {a0 a1 a2 a3 a4 a5 a6 a7 a8 a9 : Option AV} {env : AEnv}{x : List PyData}{Q : AV → AEnv → Prop} {X : XQ} : wE (.var 10) (a0 :: a1 :: a2 :: a3 :: a4 :: a5 :: a6 :: a7 :: a8 :: a9 :: some (.o x) :: env) Q X = Q (.b 10) (a0 :: a1 :: a2 :: a3 :: a4 :: a5 :: a6 :: a7 :: a8 :: a9 :: some (.o x) :: env) := rfl
theorem vd_11 {a0 a1 a2 a3 a4 a5 a6 a7 a8 a9 a10 : Option AV} {env : AEnv}{x : PyData}{Q : AV → AEnv → Prop} {X : XQ} : wE (.var 11) (a0 :: a1 :: a2 :: a3 :: a4 :: a5 :: a6 :: a7 :: a8 :: a9 :: a10 :: some (.d x) :: env) Q X = Q (.d x) (a0 :: a1 :: a2 :: a3 :: a4 :: a5 :: a6 :: a7 :: a8 :: a9 :: a10 :: some (.d x) :: env) := rfl
theorem vo_11 {a0 a1 a2 a3 a4 a5 a6 a7 a8 a9 a10 : Option AV} {env : AEnv}{x : List PyData}{Q : AV → AEnv → Prop} {X : XQ} : wE (.var 11) (a0 :: a1 :: a2 :: a3 :: a4 :: a5 :: a6 :: a7 :: a8 :: a9 :: a10 :: some (.o x) :: env) Q X = Q (.b 11) (a0 :: a1 :: a2 :: a3 :: a4 :: a5 :: a6 :: a7 :: a8 :: a9 :: a10 :: some (.o x) :: env) := rfl
theorem vd_12 {a0 a1 a2 a3 a4 a5 a6 a7 a8 a9 a10 a11 : Option AV} {env : AEnv}{x : PyData}{Q : AV → AEnv → Prop} {X : XQ} : wE (.var 12) (a0 :: a1 :: a2 :: a3 :: a4 :: a5 :: a6 :: a7 :: a8 :: a9 :: a10 :: a11 :: some (.d x) :: env) Q X = Q (.d x) (a0 :: a1 :: a2 :: a3 :: a4 :: a5 :: a6 :: a7 :: a8 :: a9 :: a10 :: a11 :: some (.d x) :: env) := rfl
theorem vo_12 {a0 a1 a2 a3 a4 a5 a6 a7 a8 a9 a10 a11 : Option AV} {env : AEnv}{x : List PyData}{Q : AV → AEnv → Prop} {X : XQ} : wE (.var 12) (a0 :: a1 :: a2 :: a3 :: a4 :: a5 :: a6 :: a7 :: a8 :: a9 :: a10 :: a11 :: some (.o x) :: env) Q X = Q (.b 12) (a0 :: a1 :: a2 :: a3 :: a4 :: a5 :: a6 :: a7 :: a8 :: a9 :: a10 :: a11 :: some (.o x) :: env) := rfl
theorem vd_13 {a0 a1 a2 a3 a4 a5 a6 a7 a8 a9 a10 a11 a12 : Option AV} {env : AEnv}{x : PyData}{Q : AV → AEnv → Prop} {X : XQ} : wE (.var 13) (a0 :: a1 :: a2 :: a3 :: a4 :: a5 :: a6 :: a7 :: a8 :: a9 :: a10 :: a11 :: a12 :: some (.d x) :: env) Q X = Q (.d x) (a0 :: a1 :: a2 :: a3 :: a4 :: a5 :: a6 :: a7 :: a8 :: a9 :: a10 :: a11 :: a12 :: some (.d x) :: env) := rfl
theorem vo_13 {a0 a1 a2 a3 a4 a5 a6 a7 a8 a9 a10 a11 a12 : Option AV} {env : AEnv}{x : List PyData}{Q : AV → AEnv → Prop} {X : XQ} : wE (.var 13) (a0 :: a1 :: a2 :: a3 :: a4 :: a5 :: a6 :: a7 :: a8 :: a9 :: a10 :: a11 :: a12 :: some (.o x) :: env) Q X = Q (.b 13) (a0 :: a1 :: a2 :: a3 :: a4 :: a5 :: a6 :: a7 :: a8 :: a9 :: a10 :: a11 :: a12 :: some (.o x) :: env) := rfl
theorem vd_14 {a0 a1 a2 a3 a4 a5 a6 a7 a8 a9 a10 a11 a12 a13 : Option AV} {env : AEnv}{x : PyData}{Q : AV → AEnv → Prop} {X : XQ} : wE (.var 14) (a0 :: a1 :: a2 :: a3 :: a4 :: a5 :: a6 :: a7 :: a8 :: a9 :: a10 :: a11 :: a12 :: a13 :: some (.d x) :: env) Q X = Q (.d x) (a0 :: a1 :: a2 :: a3 :: a4 :: a5 :: a6 :: a7 :: a8 :: a9 :: a10 :: a11 :: a12 :: a13 :: some (.d x) :: env) := rfl
theorem vo_14 {a0 a1 a2 a3 a4 a5 a6 a7 a8 a9 a10 a11 a12 a13 : Option AV} {env : AEnv}{x : List PyData}{Q : AV → AEnv → Prop} {X : XQ} : wE (.var 14) (a0 :: a1 :: a2 :: a3 :: a4 :: a5 :: a6 :: a7 :: a8 :: a9 :: a10 :: a11 :: a12 :: a13 :: some (.o x) :: env) Q X = Q (.b 14) (a0 :: a1 :: a2 :: a3 :: a4 :: a5 :: a6 :: a7 :: a8 :: a9 :: a10 :: a11 :: a12 :: a13 :: some (.o x) :: env) := rfl
theorem vd_15 {a0 a1 a2 a3 a4 a5 a6 a7 a8 a9 a10 a11 a12 a13 a14 : Option AV} {env : AEnv}{x : PyData}{Q : AV → AEnv → Prop} {X : XQ} : wE (.var 15) (a0 :: a1 :: a2 :: a3 :: a4 :: a5 :: a6 :: a7 :: a8 :: a9 :: a10 :: a11 :: a12 :: a13 :: a14 :: some (.d x) :: env) Q X = Q (.d x) (a0 :: a1 :: a2 :: a3 :: a4 :: a5 :: a6 :: a7 :: a8 :: a9 :: a10 :: a11 :: a12 :: a13 :: a14 :: some (.d x) :: env) := rfl
theorem vo_15 {a0 a1 a2 a3 a4 a5 a6 a7 a8 a9 a10 a11 a12 a13 a14 : Option AV} {env : AEnv}{x : List PyData}{Q : AV → AEnv → Prop} {X : XQ} : wE (.var 15) (a0 :: a1 :: a2 :: a3 :: a4 :: a5 :: a6 :: a7 :: a8 :: a9 :: a10 :: a11 :: a12 :: a13 :: a14 :: some (.o x) :: env) Q X = Q (.b 15) (a0 :: a1 :: a2 :: a3 :: a4 :: a5 :: a6 :: a7 :: a8 :: a9 :: a10 :: a11 :: a12 :: a13 :: a14 :: some (.o x) :: env) := rfl
theorem e_int {env : AEnv}{Q : AV → AEnv → Prop} {X : XQ}{i : Int} : wE (.int i) env Q X = Q (.d (.int i)) env := rfl
theorem e_bool {env : AEnv}{Q : AV → AEnv → Prop} {X : XQ}{b : Bool} : wE (.bool b) env Q X = Q (.d (.bool b)) env := rfl
theorem e_none {env : AEnv}{Q : AV → AEnv → Prop} {X : XQ} : wE (.none) env Q X = Q (.d .none) env := rfl
theorem e_str {env : AEnv}{Q : AV → AEnv → Prop} {X : XQ}{s : Str} : wE (.str s) env Q X = Q (.d (.str s)) env := rfl
theorem e_glob {env : AEnv}{Q : AV → AEnv → Prop} {X : XQ}{x : Str} {v : PyData} : wE (.glob x v) env Q X = Q (.d v) env := rfl
theorem e_bin {env : AEnv}{Q : AV → AEnv → Prop} {X : XQ}{op : BOp} {a b : E} : wE (.bin op a b) env Q X = wE a env (fun x env1 => wE b env1 (fun y env2 => rdK env2 x fun dx => rdK env2 y fun dy => binK op dx dy fun r => Q r env2) X) X := rfl
theorem e_not {env : AEnv}{Q : AV → AEnv → Prop} {X : XQ}{a : E} : wE (.not a) env Q X = wE a env (fun x env1 => truthK env1 x fun b => Q (.d (.bool (!b))) env1) X := rfl
theorem e_and {env : AEnv}{Q : AV → AEnv → Prop} {X : XQ}{a b : E} : wE (.and a b) env Q X = wE a env (fun x env1 => truthK env1 x fun t => if t = true then wE b env1 Q X else Q x env1) X := rfl
theorem e_or {env : AEnv}{Q : AV → AEnv → Prop} {X : XQ}{a b : E} : wE (.or a b) env Q X = wE a env (fun x env1 => truthK env1 x fun t => if t = true then Q x env1 else wE b env1 Q X) X := rfl
theorem e_cmp {env : AEnv}{Q : AV → AEnv → Prop} {X : XQ}{op : COp} {a b : E} : wE (.cmp op a b) env Q X = wE a env (fun x env1 => wE b env1 (fun y env2 => rdK env2 x fun dx => rdK env2 y fun dy => cmpK op dx dy fun r => Q (.d (.bool r)) env2) X) X := rfl
theorem e_chain {env : AEnv}{Q : AV → AEnv → Prop} {X : XQ}{o1 o2 : COp} {a b c : E} : wE (.chain o1 o2 a b c) env Q X = wE a env (fun x env1 => wE b env1 (fun y env2 => rdK env2 x fun dx => rdK env2 y fun dy => cmpK o1 dx dy fun r => if r = true then wE c env2 (fun z env3 => rdK env3 y fun dy => rdK env3 z fun dz => cmpK o2 dy dz fun r2 => Q (.d (.bool r2)) env3) X else Q (.d (.bool false)) env2) X) X := rfl
theorem e_ife {env : AEnv}{Q : AV → AEnv → Prop} {X : XQ}{c a b : E} : wE (.ife c a b) env Q X = wE c env (fun x env1 => truthK env1 x fun t => if t = true then wE a env1 Q X else wE b env1 Q X) X := rfl
theorem e_tup {env : AEnv}{Q : AV → AEnv → Prop} {X : XQ}{es : Es} : wE (.tup es) env Q X = wEs es env (fun vs env1 => datasK vs fun ds => Q (.d (.tuple ds)) env1) X := rfl
theorem e_lst {env : AEnv}{Q : AV → AEnv → Prop} {X : XQ}{es : Es} : wE (.lst es) env Q X = wEs es env (fun vs env1 => datasK vs fun ds => Q (.o ds) env1) X := rfl
theorem e_ix {env : AEnv}{Q : AV → AEnv → Prop} {X : XQ}{a i : E} : wE (.ix a i) env Q X = wE a env (fun x env1 => wE i env1 (fun y env2 => rdK env2 x fun dx => rdK env2 y fun dy => ixK dx dy fun z => Q (.d z) env2) X) X := rfl
theorem e_call {env : AEnv}{Q : AV → AEnv → Prop} {X : XQ}{x : Str} {sp : ASp} {es : Es} : wE (.call x sp es) env Q X = wEs es env (fun vs env1 => callK sp vs env1 Q X) X := rfl
theorem e_callK {env : AEnv}{Q : AV → AEnv → Prop} {X : XQ}{x : Str} {sp : ASp} {ps ks : List Str} {es : Es} : wE (.callK x sp ps ks es) env Q X = wEs es env (fun vs env1 => match reorder ps ks vs with | some us => callK sp us env1 Q X | none => False) X := rfl
theorem e_bi {env : AEnv}{Q : AV → AEnv → Prop} {X : XQ}{f : BI} {es : Es} : wE (.bi f es) env Q X = wEs es env (fun vs env1 => rdsK env1 vs fun ds => biK f ds fun r => Q r env1) X := rfl
theorem e_inst {env : AEnv}{Q : AV → AEnv → Prop} {X : XQ}{a : E} {ts : List Ty} : wE (.inst a ts) env Q X = wE a env (fun x env1 => rdK env1 x fun dx => Q (.d (.bool (isTy dx ts))) env1) X := rfl
theorem e_comp {env : AEnv}{Q : AV → AEnv → Prop} {X : XQ}{elt c : E} {cond : Option Unit} {tg : Tg} {it : It} {own : List (Str × Nat)} : wE (.comp elt cond c tg it own) env Q X = wIt it env (fun items env1 => noOwn env1 own ∧ compW cond (fun e q => wE c e q X) (fun e q => wE elt e q X) tg own items env1 [] fun ds env2 => Q (.o ds) (backE env1 env2 own)) X := rfl
def negK (v : AV) (k : Int → Prop) : Prop := match v with | .d (.int i) => k i | _ => False
theorem ng {p : Int → Prop} {i : Int} : negK (.d (.int i)) p = p i := rfl
theorem e_neg {env : AEnv} {Q : AV → AEnv → Prop} {X : XQ} {a : E} : wE (.neg a) env Q X = wE a env (fun x env1 => negK x fun i => Q (.d (.int (-i))) env1) X := by first | rfl | (simp only [wE, wIt, wS]; congr 1; funext v env1; congr 1; funext u env2; congr 1; funext t env3; rfl)
theorem e_slU {env : AEnv} {Q : AV → AEnv → Prop} {X : XQ} {a b : E} : wE (.slU a b) env Q X = wE a env (fun x env1 => wE b env1 (fun y env2 => negK y fun i => rdK env2 x fun dx => slK dx none (some i) fun r => Q r env2) X) X := by first | rfl | (simp only [wE, wIt, wS]; congr 1; funext v env1; congr 1; funext u env2; congr 1; funext t env3; rfl)
theorem e_slL {env : AEnv} {Q : AV → AEnv → Prop} {X : XQ} {a b : E} : wE (.slL a b) env Q X = wE a env (fun x env1 => wE b env1 (fun y env2 => negK y fun i => rdK env2 x fun dx => slK dx (some i) none fun r => Q r env2) X) X := by first | rfl | (simp only [wE, wIt, wS]; congr 1; funext v env1; congr 1; funext u env2; congr 1; funext t env3; rfl)
theorem e_lrg1 {env : AEnv} {Q : AV → AEnv → Prop} {X : XQ} {a : E} : wE (.lrg1 a) env Q X = wE a env (fun v env1 => negK v fun n => rangeK 0 n fun xs => Q (.o xs) env1) X := by first | rfl | (simp only [wE, wIt, wS]; congr 1; funext v env1; congr 1; funext u env2; congr 1; funext t env3; rfl)
theorem e_lrg3 {env : AEnv} {Q : AV → AEnv → Prop} {X : XQ} {a b c : E} : wE (.lrg3 a b c) env Q X = wE a env (fun v env1 => wE b env1 (fun u env2 => wE c env2 (fun t env3 => negK v fun m => negK u fun n => negK t fun s => rangeCK m n s fun xs => Q (.o xs) env3) X) X) X := by
  simp only [wE]; congr 1; funext v env1; congr 1; funext u env2; congr 1; funext t env3
  cases v with
  | d x =>
    cases x <;> first | rfl | (cases u with
      | d y => cases y <;> first | rfl | (cases t with | d z => cases z <;> rfl | o _ => rfl | b _ => rfl)
      | o _ => rfl
      | b _ => rfl)
  | o _ => rfl
  | b _ => rfl
theorem es_n {env : AEnv}{R : List AV → AEnv → Prop} {X : XQ} : wEs .nil env R X = R [] env := rfl
theorem es_c {env : AEnv}{R : List AV → AEnv → Prop} {X : XQ} {a : E} {es : Es} : wEs (.cons a es) env R X = wE a env (fun v env1 => wEs es env1 (fun vs env2 => R (v :: vs) env2) X) X := rfl
theorem it_seq {env : AEnv}{R : List PyData → AEnv → Prop} {X : XQ}{a : E} : wIt (.seq a) env R X = wE a env (fun v env1 => seqK v fun xs => R xs env1) X := rfl
theorem it_r1 {env : AEnv} {R : List PyData → AEnv → Prop} {X : XQ} {a : E} : wIt (.range1 a) env R X = wE a env (fun v env1 => negK v fun n => rangeK 0 n fun xs => R xs env1) X := by first | rfl | (simp only [wE, wIt, wS]; congr 1; funext v env1; congr 1; funext u env2; congr 1; funext t env3; rfl)
theorem it_r2 {env : AEnv} {R : List PyData → AEnv → Prop} {X : XQ} {a b : E} : wIt (.range2 a b) env R X = wE a env (fun v env1 => wE b env1 (fun u env2 => negK v fun m => negK u fun n => rangeK m n fun xs => R xs env2) X) X := by
  simp only [wIt]; congr 1; funext v env1; congr 1; funext u env2
  cases v with
  | d x =>
    cases x <;> first | rfl | (cases u with
      | d y => cases y <;> rfl
      | o _ => rfl
      | b _ => rfl)
  | o _ => rfl
  | b _ => rfl
theorem it_en {env : AEnv}{R : List PyData → AEnv → Prop} {X : XQ}{a : E} : wIt (.enum a) env R X = wE a env (fun v env1 => lstK v fun xs => R (enumL 0 xs) env1) X := rfl
theorem it_zip {env : AEnv}{R : List PyData → AEnv → Prop} {X : XQ}{a b : E} : wIt (.zip a b) env R X = wE a env (fun v env1 => wE b env1 (fun u env2 => lstK v fun xs => lstK u fun ys => R (zipL xs ys) env2) X) X := rfl
theorem ss_n {env : AEnv}{D : AEnds} {X : XQ} : wSs X .nil env D = D.nx env := rfl
theorem ss_c {env : AEnv}{D : AEnds} {X : XQ}{s : S} {ss : Ss} : wSs X (.cons s ss) env D = wS X s env { D with nx := fun env1 => wSs X ss env1 D } := rfl
theorem s_asgF {env : AEnv}{D : AEnds} {X : XQ}{i : Nat} {a : E} : wS X (.asgF i a) env D = wE a env (fun v env1 => dataK v fun x => D.nx (setE env1 i (some (.d x)))) X := rfl
def keepK (v : AV) (k : AV → Prop) : Prop := match v with | .b _ => False | v => k v
theorem kp_d {k : AV → Prop}{x : PyData} : keepK (.d x) k = k (.d x) := rfl
theorem kp_o {k : AV → Prop}{x : List PyData} : keepK (.o x) k = k (.o x) := rfl
theorem s_asg {env : AEnv} {D : AEnds} {X : XQ} {i : Nat} {a : E} : wS X (.asg i a) env D = wE a env (fun v env1 => keepK v fun v => D.nx (setE env1 i (some v))) X := by first | rfl | (simp only [wE, wIt, wS]; congr 1; funext v env1; congr 1; funext u env2; congr 1; funext t env3; rfl)
theorem s_par {env : AEnv}{D : AEnds} {X : XQ}{is : List Nat} {es : Es} : wS X (.par is es) env D = wEs es env (fun vs env1 => datasK vs fun xs => xs.length = is.length ∧ D.nx (setMany is xs env1)) X := rfl
theorem s_parN {env : AEnv}{D : AEnds} {X : XQ}{is js : List Nat} {es : Es} : wS X (.parN is es js) env D = wEs es env (fun vs env1 => datasK vs fun xs => xs.length = is.length ∧ D.nx (setNils js (setMany is xs env1))) X := rfl
def tupK (v : AV) (k : PyData → Prop) : Prop := match v with | .d x => k x | _ => False
theorem tp_d {k : PyData → Prop}{x : PyData} : tupK (.d x) k = k x := rfl
theorem s_unp {env : AEnv} {D : AEnds} {X : XQ} {is : List Nat} {a : E} : wS X (.unp is a) env D = wE a env (fun v env1 => tupK v fun x => tgK (.tp is) x env1 D.nx) X := by first | rfl | (simp only [wE, wIt, wS]; congr 1; funext v env1; congr 1; funext u env2; congr 1; funext t env3; rfl)
theorem s_expr {env : AEnv}{D : AEnds} {X : XQ}{a : E} : wS X (.expr a) env D = wE a env (fun _ env1 => D.nx env1) X := rfl
theorem s_ret {env : AEnv}{D : AEnds} {X : XQ}{a : E} : wS X (.ret a) env D = wE a env (fun v env1 => D.rt v env1) X := rfl
theorem s_retN {env : AEnv}{D : AEnds} {X : XQ} : wS X .retN env D = D.rt (.d .none) env := rfl
theorem s_ite {env : AEnv}{D : AEnds} {X : XQ}{c : E} {a b : Ss} : wS X (.ite c a b) env D = wE c env (fun v env1 => truthK env1 v fun t => if t = true then wSs X a env1 D else wSs X b env1 D) X := rfl
theorem s_for {env : AEnv}{D : AEnds} {X : XQ}{tg : Tg} {it : It} {body : Ss} : wS X (.forS tg it body) env D = wIt it env (fun items env1 => forW (fun e D' => wSs X body e D') tg D items env1) X := rfl
theorem s_pass {env : AEnv}{D : AEnds} {X : XQ} : wS X .pass env D = D.nx env := rfl
theorem s_brk {env : AEnv}{D : AEnds} {X : XQ} : wS X .brk env D = D.bk env := rfl
theorem s_cont {env : AEnv}{D : AEnds} {X : XQ} : wS X .cont env D = D.ct env := rfl
theorem fz_0 {env : AEnv}{x : List PyData}{D : AEnds} {X : XQ} : wS X (.frz 0) (some (.o x) :: env) D = D.nx (some (.d (.list x)) :: env) := rfl
def ownK_0 (env : AEnv) (k : List PyData → Prop) : Prop := match getE env 0 with | some (.o ds) => k ds | _ => False
theorem ow_0 {env : AEnv}{x : List PyData} {p : List PyData → Prop} : ownK_0 (some (.o x) :: env) p = p x := rfl
theorem ap_0 {env : AEnv}{x : List PyData} {a : E} {D : AEnds} {X : XQ} : wS X (.append 0 a) (some (.o x) :: env) D = wE a (some (.o x) :: env) (fun v env1 => dataK v fun y => ownK_0 env1 fun ds => ds.length < sizeLine ∧ D.nx (setE env1 0 (some (.o (ds ++ [y]))))) X := by first | rfl | (simp only [wE, wIt, wS]; congr 1; funext v env1; congr 1; funext u env2; congr 1; funext t env3; rfl)
theorem fz_1 {a0 : Option AV} {env : AEnv}{x : List PyData}{D : AEnds} {X : XQ} : wS X (.frz 1) (a0 :: some (.o x) :: env) D = D.nx (a0 :: some (.d (.list x)) :: env) := rfl
def ownK_1 (env : AEnv) (k : List PyData → Prop) : Prop := match getE env 1 with | some (.o ds) => k ds | _ => False
theorem ow_1 {a0 : Option AV} {env : AEnv}{x : List PyData} {p : List PyData → Prop} : ownK_1 (a0 :: some (.o x) :: env) p = p x := rfl
theorem ap_1 {a0 : Option AV} {env : AEnv}{x : List PyData} {a : E} {D : AEnds} {X : XQ} : wS X (.append 1 a) (a0 :: some (.o x) :: env) D = wE a (a0 :: some (.o x) :: env) (fun v env1 => dataK v fun y => ownK_1 env1 fun ds => ds.length < sizeLine ∧ D.nx (setE env1 1 (some (.o (ds ++ [y]))))) X := by first | rfl | (simp only [wE, wIt, wS]; congr 1; funext v env1; congr 1; funext u env2; congr 1; funext t env3; rfl)
theorem fz_2 {a0 a1 : Option AV} {env : AEnv}{x : List PyData}{D : AEnds} {X : XQ} : wS X (.frz 2) (a0 :: a1 :: some (.o x) :: env) D = D.nx (a0 :: a1 :: some (.d (.list x)) :: env) := rfl
def ownK_2 (env : AEnv) (k : List PyData → Prop) : Prop := match getE env 2 with | some (.o ds) => k ds | _ => False
theorem ow_2 {a0 a1 : Option AV} {env : AEnv}{x : List PyData} {p : List PyData → Prop} : ownK_2 (a0 :: a1 :: some (.o x) :: env) p = p x := rfl
theorem ap_2 {a0 a1 : Option AV} {env : AEnv}{x : List PyData} {a : E} {D : AEnds} {X : XQ} : wS X (.append 2 a) (a0 :: a1 :: some (.o x) :: env) D = wE a (a0 :: a1 :: some (.o x) :: env) (fun v env1 => dataK v fun y => ownK_2 env1 fun ds => ds.length < sizeLine ∧ D.nx (setE env1 2 (some (.o (ds ++ [y]))))) X := by first | rfl | (simp only [wE, wIt, wS]; congr 1; funext v env1; congr 1; funext u env2; congr 1; funext t env3; rfl)
theorem fz_3 {a0 a1 a2 : Option AV} {env : AEnv}{x : List PyData}{D : AEnds} {X : XQ} : wS X (.frz 3) (a0 :: a1 :: a2 :: some (.o x) :: env) D = D.nx (a0 :: a1 :: a2 :: some (.d (.list x)) :: env) := rfl
def ownK_3 (env : AEnv) (k : List PyData → Prop) : Prop := match getE env 3 with | some (.o ds) => k ds | _ => False
theorem ow_3 {a0 a1 a2 : Option AV} {env : AEnv}{x : List PyData} {p : List PyData → Prop} : ownK_3 (a0 :: a1 :: a2 :: some (.o x) :: env) p = p x := rfl
theorem ap_3 {a0 a1 a2 : Option AV} {env : AEnv}{x : List PyData} {a : E} {D : AEnds} {X : XQ} : wS X (.append 3 a) (a0 :: a1 :: a2 :: some (.o x) :: env) D = wE a (a0 :: a1 :: a2 :: some (.o x) :: env) (fun v env1 => dataK v fun y => ownK_3 env1 fun ds => ds.length < sizeLine ∧ D.nx (setE env1 3 (some (.o (ds ++ [y]))))) X := by first | rfl | (simp only [wE, wIt, wS]; congr 1; funext v env1; congr 1; funext u env2; congr 1; funext t env3; rfl)
theorem fz_4 {a0 a1 a2 a3 : Option AV} {env : AEnv}{x : List PyData}{D : AEnds} {X : XQ} : wS X (.frz 4) (a0 :: a1 :: a2 :: a3 :: some (.o x) :: env) D = D.nx (a0 :: a1 :: a2 :: a3 :: some (.d (.list x)) :: env) := rfl
def ownK_4 (env : AEnv) (k : List PyData → Prop) : Prop := match getE env 4 with | some (.o ds) => k ds | _ => False
theorem ow_4 {a0 a1 a2 a3 : Option AV} {env : AEnv}{x : List PyData} {p : List PyData → Prop} : ownK_4 (a0 :: a1 :: a2 :: a3 :: some (.o x) :: env) p = p x := rfl
theorem ap_4 {a0 a1 a2 a3 : Option AV} {env : AEnv}{x : List PyData} {a : E} {D : AEnds} {X : XQ} : wS X (.append 4 a) (a0 :: a1 :: a2 :: a3 :: some (.o x) :: env) D = wE a (a0 :: a1 :: a2 :: a3 :: some (.o x) :: env) (fun v env1 => dataK v fun y => ownK_4 env1 fun ds => ds.length < sizeLine ∧ D.nx (setE env1 4 (some (.o (ds ++ [y]))))) X := by first | rfl | (simp only [wE, wIt, wS]; congr 1; funext v env1; congr 1; funext u env2; congr 1; funext t env3; rfl)
theorem fz_5 {a0 a1 a2 a3 a4 : Option AV} {env : AEnv}{x : List PyData}{D : AEnds} {X : XQ} : wS X (.frz 5) (a0 :: a1 :: a2 :: a3 :: a4 :: some (.o x) :: env) D = D.nx (a0 :: a1 :: a2 :: a3 :: a4 :: some (.d (.list x)) :: env) := rfl
def ownK_5 (env : AEnv) (k : List PyData → Prop) : Prop := match getE env 5 with | some (.o ds) => k ds | _ => False
theorem ow_5 {a0 a1 a2 a3 a4 : Option AV} {env : AEnv}{x : List PyData} {p : List PyData → Prop} : ownK_5 (a0 :: a1 :: a2 :: a3 :: a4 :: some (.o x) :: env) p = p x := rfl
theorem ap_5 {a0 a1 a2 a3 a4 : Option AV} {env : AEnv}{x : List PyData} {a : E} {D : AEnds} {X : XQ} : wS X (.append 5 a) (a0 :: a1 :: a2 :: a3 :: a4 :: some (.o x) :: env) D = wE a (a0 :: a1 :: a2 :: a3 :: a4 :: some (.o x) :: env) (fun v env1 => dataK v fun y => ownK_5 env1 fun ds => ds.length < sizeLine ∧ D.nx (setE env1 5 (some (.o (ds ++ [y]))))) X := by first | rfl | (simp only [wE, wIt, wS]; congr 1; funext v env1; congr 1; funext u env2; congr 1; funext t env3; rfl)
theorem fz_6 {a0 a1 a2 a3 a4 a5 : Option AV} {env : AEnv}{x : List PyData}{D : AEnds} {X : XQ} : wS X (.frz 6) (a0 :: a1 :: a2 :: a3 :: a4 :: a5 :: some (.o x) :: env) D = D.nx (a0 :: a1 :: a2 :: a3 :: a4 :: a5 :: some (.d (.list x)) :: env) := rfl
def ownK_6 (env : AEnv) (k : List PyData → Prop) : Prop := match getE env 6 with | some (.o ds) => k ds | _ => False
theorem ow_6 {a0 a1 a2 a3 a4 a5 : Option AV} {env : AEnv}{x : List PyData} {p : List PyData → Prop} : ownK_6 (a0 :: a1 :: a2 :: a3 :: a4 :: a5 :: some (.o x) :: env) p = p x := rfl
theorem ap_6 {a0 a1 a2 a3 a4 a5 : Option AV} {env : AEnv}{x : List PyData} {a : E} {D : AEnds} {X : XQ} : wS X (.append 6 a) (a0 :: a1 :: a2 :: a3 :: a4 :: a5 :: some (.o x) :: env) D = wE a (a0 :: a1 :: a2 :: a3 :: a4 :: a5 :: some (.o x) :: env) (fun v env1 => dataK v fun y => ownK_6 env1 fun ds => ds.length < sizeLine ∧ D.nx (setE env1 6 (some (.o (ds ++ [y]))))) X := by first | rfl | (simp only [wE, wIt, wS]; congr 1; funext v env1; congr 1; funext u env2; congr 1; funext t env3; rfl)
theorem fz_7 {a0 a1 a2 a3 a4 a5 a6 : Option AV} {env : AEnv}{x : List PyData}{D : AEnds} {X : XQ} : wS X (.frz 7) (a0 :: a1 :: a2 :: a3 :: a4 :: a5 :: a6 :: some (.o x) :: env) D = D.nx (a0 :: a1 :: a2 :: a3 :: a4 :: a5 :: a6 :: some (.d (.list x)) :: env) := rfl
def ownK_7 (env : AEnv) (k : List PyData → Prop) : Prop := match getE env 7 with | some (.o ds) => k ds | _ => False
theorem ow_7 {a0 a1 a2 a3 a4 a5 a6 : Option AV} {env : AEnv}{x : List PyData} {p : List PyData → Prop} : ownK_7 (a0 :: a1 :: a2 :: a3 :: a4 :: a5 :: a6 :: some (.o x) :: env) p = p x := rfl
theorem ap_7 {a0 a1 a2 a3 a4 a5 a6 : Option AV} {env : AEnv}{x : List PyData} {a : E} {D : AEnds} {X : XQ} : wS X (.append 7 a) (a0 :: a1 :: a2 :: a3 :: a4 :: a5 :: a6 :: some (.o x) :: env) D = wE a (a0 :: a1 :: a2 :: a3 :: a4 :: a5 :: a6 :: some (.o x) :: env) (fun v env1 => dataK v fun y => ownK_7 env1 fun ds => ds.length < sizeLine ∧ D.nx (setE env1 7 (some (.o (ds ++ [y]))))) X := by first | rfl | (simp only [wE, wIt, wS]; congr 1; funext v env1; congr 1; funext u env2; congr 1; funext t env3; rfl)
theorem fz_8 {a0 a1 a2 a3 a4 a5 a6 a7 : Option AV} {env : AEnv}{x : List PyData}{D : AEnds} {X : XQ} : wS X (.frz 8) (a0 :: a1 :: a2 :: a3 :: a4 :: a5 :: a6 :: a7 :: some (.o x) :: env) D = D.nx (a0 :: a1 :: a2 :: a3 :: a4 :: a5 :: a6 :: a7 :: some (.d (.list x)) :: env) := rfl
def ownK_8 (env : AEnv) (k : List PyData → Prop) : Prop := match getE env 8 with | some (.o ds) => k ds | _ => False
theorem ow_8 {a0 a1 a2 a3 a4 a5 a6 a7 : Option AV} {env : AEnv}{x : List PyData} {p : List PyData → Prop} : ownK_8 (a0 :: a1 :: a2 :: a3 :: a4 :: a5 :: a6 :: a7 :: some (.o x) :: env) p = p x := rfl
theorem ap_8 {a0 a1 a2 a3 a4 a5 a6 a7 : Option AV} {env : AEnv}{x : List PyData} {a : E} {D : AEnds} {X : XQ} : wS X (.append 8 a) (a0 :: a1 :: a2 :: a3 :: a4 :: a5 :: a6 :: a7 :: some (.o x) :: env) D = wE a (a0 :: a1 :: a2 :: a3 :: a4 :: a5 :: a6 :: a7 :: some (.o x) :: env) (fun v env1 => dataK v fun y => ownK_8 env1 fun ds => ds.length < sizeLine ∧ D.nx (setE env1 8 (some (.o (ds ++ [y]))))) X := by first | rfl | (simp only [wE, wIt, wS]; congr 1; funext v env1; congr 1; funext u env2; congr 1; funext t env3; rfl)
theorem fz_9 {a0 a1 a2 a3 a4 a5 a6 a7 a8 : Option AV} {env : AEnv}{x : List PyData}{D : AEnds} {X : XQ} : wS X (.frz 9) (a0 :: a1 :: a2 :: a3 :: a4 :: a5 :: a6 :: a7 :: a8 :: some (.o x) :: env) D = D.nx (a0 :: a1 :: a2 :: a3 :: a4 :: a5 :: a6 :: a7 :: a8 :: some (.d (.list x)) :: env) := rfl
def ownK_9 (env : AEnv) (k : List PyData → Prop) : Prop := match getE env 9 with | some (.o ds) => k ds | _ => False
theorem ow_9 {a0 a1 a2 a3 a4 a5 a6 a7 a8 : Option AV} {env : AEnv}{x : List PyData} {p : List PyData → Prop} : ownK_9 (a0 :: a1 :: a2 :: a3 :: a4 :: a5 :: a6 :: a7 :: a8 :: some (.o x) :: env) p = p x := rfl
theorem ap_9 {a0 a1 a2 a3 a4 a5 a6 a7 a8 : Option AV} {env : AEnv}{x : List PyData} {a : E} {D : AEnds} {X : XQ} : wS X (.append 9 a) (a0 :: a1 :: a2 :: a3 :: a4 :: a5 :: a6 :: a7 :: a8 :: some (.o x) :: env) D = wE a (a0 :: a1 :: a2 :: a3 :: a4 :: a5 :: a6 :: a7 :: a8 :: some (.o x) :: env) (fun v env1 => dataK v fun y => ownK_9 env1 fun ds => ds.length < sizeLine ∧ D.nx (setE env1 9 (some (.o (ds ++ [y]))))) X := by first | rfl | (simp only [wE, wIt, wS]; congr 1; funext v env1; congr 1; funext u env2; congr 1; funext t env3; rfl)
theorem fz_10 {a0 a1 a2 a3 a4 a5 a6 a7 a8 a9 : Option AV} {env : AEnv}{x : List PyData}{D : AEnds} {X : XQ} : wS X (.frz 10) (a0 :: a1 :: a2 :: a3 :: a4 :: a5 :: a6 :: a7 :: a8 :: a9 :: some (.o x) :: env) D = D.nx (a0 :: a1 :: a2 :: a3 :: a4 :: a5 :: a6 :: a7 :: a8 :: a9 :: some (.d (.list x)) :: env) := rfl
def ownK_10 (env : AEnv) (k : List PyData → Prop) : Prop := match getE env 10 with | some (.o ds) => k ds | _ => False
theorem ow_10 {a0 a1 a2 a3 a4 a5 a6 a7 a8 a9 : Option AV} {env : AEnv}{x : List PyData} {p : List PyData → Prop} : ownK_10 (a0 :: a1 :: a2 :: a3 :: a4 :: a5 :: a6 :: a7 :: a8 :: a9 :: some (.o x) :: env) p = p x := rfl
theorem ap_10 {a0 a1 a2 a3 a4 a5 a6 a7 a8 a9 : Option AV} {env : AEnv}{x : List PyData} {a : E} {D : AEnds} {X : XQ} : wS X (.append 10 a) (a0 :: a1 :: a2 :: a3 :: a4 :: a5 :: a6 :: a7 :: a8 :: a9 :: some (.o x) :: env) D = wE a (a0 :: a1 :: a2 :: a3 :: a4 :: a5 :: a6 :: a7 :: a8 :: a9 :: some (.o x) :: env) (fun v env1 => dataK v fun y => ownK_10 env1 fun ds => ds.length < sizeLine ∧ D.nx (setE env1 10 (some (.o (ds ++ [y]))))) X := by first | rfl | (simp only [wE, wIt, wS]; congr 1; funext v env1; congr 1; funext u env2; congr 1; funext t env3; rfl)
theorem fz_11 {a0 a1 a2 a3 a4 a5 a6 a7 a8 a9 a10 : Option AV} {env : AEnv}{x : List PyData}{D : AEnds} {X : XQ} : wS X (.frz 11) (a0 :: a1 :: a2 :: a3 :: a4 :: a5 :: a6 :: a7 :: a8 :: a9 :: a10 :: some (.o x) :: env) D = D.nx (a0 :: a1 :: a2 :: a3 :: a4 :: a5 :: a6 :: a7 :: a8 :: a9 :: a10 :: some (.d (.list x)) :: env) := rfl
def ownK_11 (env : AEnv) (k : List PyData → Prop) : Prop := match getE env 11 with | some (.o ds) => k ds | _ => False
theorem ow_11 {a0 a1 a2 a3 a4 a5 a6 a7 a8 a9 a10 : Option AV} {env : AEnv}{x : List PyData} {p : List PyData → Prop} : ownK_11 (a0 :: a1 :: a2 :: a3 :: a4 :: a5 :: a6 :: a7 :: a8 :: a9 :: a10 :: some (.o x) :: env) p = p x := rfl
theorem ap_11 {a0 a1 a2 a3 a4 a5 a6 a7 a8 a9 a10 : Option AV} {env : AEnv}{x : List PyData} {a : E} {D : AEnds} {X : XQ} : wS X (.append 11 a) (a0 :: a1 :: a2 :: a3 :: a4 :: a5 :: a6 :: a7 :: a8 :: a9 :: a10 :: some (.o x) :: env) D = wE a (a0 :: a1 :: a2 :: a3 :: a4 :: a5 :: a6 :: a7 :: a8 :: a9 :: a10 :: some (.o x) :: env) (fun v env1 => dataK v fun y => ownK_11 env1 fun ds => ds.length < sizeLine ∧ D.nx (setE env1 11 (some (.o (ds ++ [y]))))) X := by first | rfl | (simp only [wE, wIt, wS]; congr 1; funext v env1; congr 1; funext u env2; congr 1; funext t env3; rfl)
theorem fz_12 {a0 a1 a2 a3 a4 a5 a6 a7 a8 a9 a10 a11 : Option AV} {env : AEnv}{x : List PyData}{D : AEnds} {X : XQ} : wS X (.frz 12) (a0 :: a1 :: a2 :: a3 :: a4 :: a5 :: a6 :: a7 :: a8 :: a9 :: a10 :: a11 :: some (.o x) :: env) D = D.nx (a0 :: a1 :: a2 :: a3 :: a4 :: a5 :: a6 :: a7 :: a8 :: a9 :: a10 :: a11 :: some (.d (.list x)) :: env) := rfl
def ownK_12 (env : AEnv) (k : List PyData → Prop) : Prop := match getE env 12 with | some (.o ds) => k ds | _ => False
theorem ow_12 {a0 a1 a2 a3 a4 a5 a6 a7 a8 a9 a10 a11 : Option AV} {env : AEnv}{x : List PyData} {p : List PyData → Prop} : ownK_12 (a0 :: a1 :: a2 :: a3 :: a4 :: a5 :: a6 :: a7 :: a8 :: a9 :: a10 :: a11 :: some (.o x) :: env) p = p x := rfl
theorem ap_12 {a0 a1 a2 a3 a4 a5 a6 a7 a8 a9 a10 a11 : Option AV} {env : AEnv}{x : List PyData} {a : E} {D : AEnds} {X : XQ} : wS X (.append 12 a) (a0 :: a1 :: a2 :: a3 :: a4 :: a5 :: a6 :: a7 :: a8 :: a9 :: a10 :: a11 :: some (.o x) :: env) D = wE a (a0 :: a1 :: a2 :: a3 :: a4 :: a5 :: a6 :: a7 :: a8 :: a9 :: a10 :: a11 :: some (.o x) :: env) (fun v env1 => dataK v fun y => ownK_12 env1 fun ds => ds.length < sizeLine ∧ D.nx (setE env1 12 (some (.o (ds ++ [y]))))) X := by first | rfl | (simp only [wE, wIt, wS]; congr 1; funext v env1; congr 1; funext u env2; congr 1; funext t env3; rfl)
theorem fz_13 {a0 a1 a2 a3 a4 a5 a6 a7 a8 a9 a10 a11 a12 : Option AV} {env : AEnv}{x : List PyData}{D : AEnds} {X : XQ} : wS X (.frz 13) (a0 :: a1 :: a2 :: a3 :: a4 :: a5 :: a6 :: a7 :: a8 :: a9 :: a10 :: a11 :: a12 :: some (.o x) :: env) D = D.nx (a0 :: a1 :: a2 :: a3 :: a4 :: a5 :: a6 :: a7 :: a8 :: a9 :: a10 :: a11 :: a12 :: some (.d (.list x)) :: env) := rfl
def ownK_13 (env : AEnv) (k : List PyData → Prop) : Prop := match getE env 13 with | some (.o ds) => k ds | _ => False
theorem ow_13 {a0 a1 a2 a3 a4 a5 a6 a7 a8 a9 a10 a11 a12 : Option AV} {env : AEnv}{x : List PyData} {p : List PyData → Prop} : ownK_13 (a0 :: a1 :: a2 :: a3 :: a4 :: a5 :: a6 :: a7 :: a8 :: a9 :: a10 :: a11 :: a12 :: some (.o x) :: env) p = p x := rfl
theorem ap_13 {a0 a1 a2 a3 a4 a5 a6 a7 a8 a9 a10 a11 a12 : Option AV} {env : AEnv}{x : List PyData} {a : E} {D : AEnds} {X : XQ} : wS X (.append 13 a) (a0 :: a1 :: a2 :: a3 :: a4 :: a5 :: a6 :: a7 :: a8 :: a9 :: a10 :: a11 :: a12 :: some (.o x) :: env) D = wE a (a0 :: a1 :: a2 :: a3 :: a4 :: a5 :: a6 :: a7 :: a8 :: a9 :: a10 :: a11 :: a12 :: some (.o x) :: env) (fun v env1 => dataK v fun y => ownK_13 env1 fun ds => ds.length < sizeLine ∧ D.nx (setE env1 13 (some (.o (ds ++ [y]))))) X := by first | rfl | (simp only [wE, wIt, wS]; congr 1; funext v env1; congr 1; funext u env2; congr 1; funext t env3; rfl)
theorem fz_14 {a0 a1 a2 a3 a4 a5 a6 a7 a8 a9 a10 a11 a12 a13 : Option AV} {env : AEnv}{x : List PyData}{D : AEnds} {X : XQ} : wS X (.frz 14) (a0 :: a1 :: a2 :: a3 :: a4 :: a5 :: a6 :: a7 :: a8 :: a9 :: a10 :: a11 :: a12 :: a13 :: some (.o x) :: env) D = D.nx (a0 :: a1 :: a2 :: a3 :: a4 :: a5 :: a6 :: a7 :: a8 :: a9 :: a10 :: a11 :: a12 :: a13 :: some (.d (.list x)) :: env) := rfl
def ownK_14 (env : AEnv) (k : List PyData → Prop) : Prop := match getE env 14 with | some (.o ds) => k ds | _ => False
theorem ow_14 {a0 a1 a2 a3 a4 a5 a6 a7 a8 a9 a10 a11 a12 a13 : Option AV} {env : AEnv}{x : List PyData} {p : List PyData → Prop} : ownK_14 (a0 :: a1 :: a2 :: a3 :: a4 :: a5 :: a6 :: a7 :: a8 :: a9 :: a10 :: a11 :: a12 :: a13 :: some (.o x) :: env) p = p x := rfl
theorem ap_14 {a0 a1 a2 a3 a4 a5 a6 a7 a8 a9 a10 a11 a12 a13 : Option AV} {env : AEnv}{x : List PyData} {a : E} {D : AEnds} {X : XQ} : wS X (.append 14 a) (a0 :: a1 :: a2 :: a3 :: a4 :: a5 :: a6 :: a7 :: a8 :: a9 :: a10 :: a11 :: a12 :: a13 :: some (.o x) :: env) D = wE a (a0 :: a1 :: a2 :: a3 :: a4 :: a5 :: a6 :: a7 :: a8 :: a9 :: a10 :: a11 :: a12 :: a13 :: some (.o x) :: env) (fun v env1 => dataK v fun y => ownK_14 env1 fun ds => ds.length < sizeLine ∧ D.nx (setE env1 14 (some (.o (ds ++ [y]))))) X := by first | rfl | (simp only [wE, wIt, wS]; congr 1; funext v env1; congr 1; funext u env2; congr 1; funext t env3; rfl)
theorem fz_15 {a0 a1 a2 a3 a4 a5 a6 a7 a8 a9 a10 a11 a12 a13 a14 : Option AV} {env : AEnv}{x : List PyData}{D : AEnds} {X : XQ} : wS X (.frz 15) (a0 :: a1 :: a2 :: a3 :: a4 :: a5 :: a6 :: a7 :: a8 :: a9 :: a10 :: a11 :: a12 :: a13 :: a14 :: some (.o x) :: env) D = D.nx (a0 :: a1 :: a2 :: a3 :: a4 :: a5 :: a6 :: a7 :: a8 :: a9 :: a10 :: a11 :: a12 :: a13 :: a14 :: some (.d (.list x)) :: env) := rfl
def ownK_15 (env : AEnv) (k : List PyData → Prop) : Prop := match getE env 15 with | some (.o ds) => k ds | _ => False
theorem ow_15 {a0 a1 a2 a3 a4 a5 a6 a7 a8 a9 a10 a11 a12 a13 a14 : Option AV} {env : AEnv}{x : List PyData} {p : List PyData → Prop} : ownK_15 (a0 :: a1 :: a2 :: a3 :: a4 :: a5 :: a6 :: a7 :: a8 :: a9 :: a10 :: a11 :: a12 :: a13 :: a14 :: some (.o x) :: env) p = p x := rfl
theorem ap_15 {a0 a1 a2 a3 a4 a5 a6 a7 a8 a9 a10 a11 a12 a13 a14 : Option AV} {env : AEnv}{x : List PyData} {a : E} {D : AEnds} {X : XQ} : wS X (.append 15 a) (a0 :: a1 :: a2 :: a3 :: a4 :: a5 :: a6 :: a7 :: a8 :: a9 :: a10 :: a11 :: a12 :: a13 :: a14 :: some (.o x) :: env) D = wE a (a0 :: a1 :: a2 :: a3 :: a4 :: a5 :: a6 :: a7 :: a8 :: a9 :: a10 :: a11 :: a12 :: a13 :: a14 :: some (.o x) :: env) (fun v env1 => dataK v fun y => ownK_15 env1 fun ds => ds.length < sizeLine ∧ D.nx (setE env1 15 (some (.o (ds ++ [y]))))) X := by first | rfl | (simp only [wE, wIt, wS]; congr 1; funext v env1; congr 1; funext u env2; congr 1; funext t env3; rfl)
end V
end PF

set_option maxRecDepth 100000
set_option maxHeartbeats 1000000
/-! NA: sizes, places, calls, comprehensions: what the laws' bodies have in common -/
namespace NL
open PySem PF
theorem atI_lt {α : Type} {xs : List α} {i : Int} (h0 : 0 ≤ i) (h1 : i < xs.length) : L2.atI xs i = xs[i.toNat]? := by
  unfold L2.atI L2.ixN
  rw [if_pos h0, if_pos h1]
  rfl
theorem atI_0 {α : Type} {x : α} {xs : List α} : L2.atI (x :: xs) 0 = some x := by
  rw [atI_lt (by decide) (by simp only [List.length_cons]; omega)]
  rfl
theorem atI_1 {α : Type} {x y : α} {xs : List α} : L2.atI (x :: y :: xs) 1 = some y := by
  rw [atI_lt (by decide) (by simp only [List.length_cons]; omega)]
  rfl
theorem atI_2 {α : Type} {x y z : α} {xs : List α} : L2.atI (x :: y :: z :: xs) 2 = some z := by
  rw [atI_lt (by decide) (by simp only [List.length_cons]; omega)]
  rfl
theorem set_0 {α : Type} {x w : α} {xs : List α} : List.set (x :: xs) (Int.toNat 0) w = w :: xs := rfl
theorem set_2 {α : Type} {x y z w : α} {xs : List α} : List.set (x :: y :: z :: xs) (Int.toNat 2) w = x :: y :: w :: xs := rfl
theorem call_W0 {f : WF} {m : f.Mono} {env : AEnv} {Q : AV → AEnv → Prop} {X : XQ} : callK (spW f m) [] env Q X ↔ f [] fun r => Q r env := call_W rfl
theorem call_W1 {f : WF} {m : f.Mono} {a : PyData} {env : AEnv} {Q : AV → AEnv → Prop} {X : XQ} : callK (spW f m) [.d a] env Q X ↔ f [a] fun r => Q r env := call_W rfl
theorem call_W1o {f : WF} {m : f.Mono} {a : List PyData} {env : AEnv} {Q : AV → AEnv → Prop} {X : XQ} : callK (spW f m) [.o a] env Q X ↔ f [.list a] fun r => Q r env := call_W rfl
theorem call_W2 {f : WF} {m : f.Mono} {a b : PyData} {env : AEnv} {Q : AV → AEnv → Prop} {X : XQ} : callK (spW f m) [.d a, .d b] env Q X ↔ f [a, b] fun r => Q r env := call_W rfl
theorem call_W2o {f : WF} {m : f.Mono} {a : PyData} {b : List PyData} {env : AEnv} {Q : AV → AEnv → Prop} {X : XQ} : callK (spW f m) [.d a, .o b] env Q X ↔ f [a, .list b] fun r => Q r env := call_W rfl
theorem call_W3 {f : WF} {m : f.Mono} {a b c : PyData} {env : AEnv} {Q : AV → AEnv → Prop} {X : XQ} : callK (spW f m) [.d a, .d b, .d c] env Q X ↔ f [a, b, c] fun r => Q r env := call_W rfl
theorem call_W4 {f : WF} {m : f.Mono} {a b c d : PyData} {env : AEnv} {Q : AV → AEnv → Prop} {X : XQ} : callK (spW f m) [.d a, .d b, .d c, .d d] env Q X ↔ f [a, b, c, d] fun r => Q r env := call_W rfl
theorem call_W5 {f : WF} {m : f.Mono} {a b c d e : PyData} {env : AEnv} {Q : AV → AEnv → Prop} {X : XQ} : callK (spW f m) [.d a, .d b, .d c, .d d, .d e] env Q X ↔ f [a, b, c, d, e] fun r => Q r env := call_W rfl
theorem call_L0 {f : LF} {m : f.Mono} {l : List PyData} {env : AEnv} {Q : AV → AEnv → Prop} {X : XQ} : callK (spL f m) [.b 0] (some (.o l) :: env) Q X ↔ f l [] fun r l' => Q r (some (.o l') :: env) := call_L (vs := []) (xs := []) (env := some (.o l) :: env) rfl rfl
theorem call_L1 {f : LF} {m : f.Mono} {l : List PyData} {a : PyData} {env : AEnv} {Q : AV → AEnv → Prop} {X : XQ} : callK (spL f m) [.b 0, .d a] (some (.o l) :: env) Q X ↔ f l [a] fun r l' => Q r (some (.o l') :: env) := call_L (vs := [.d a]) (xs := [a]) (env := some (.o l) :: env) rfl rfl
theorem call_L1o {f : LF} {m : f.Mono} {l a : List PyData} {env : AEnv} {Q : AV → AEnv → Prop} {X : XQ} : callK (spL f m) [.b 0, .o a] (some (.o l) :: env) Q X ↔ f l [.list a] fun r l' => Q r (some (.o l') :: env) := call_L (vs := [.o a]) (xs := [.list a]) (env := some (.o l) :: env) rfl rfl
theorem call_L2 {f : LF} {m : f.Mono} {l : List PyData} {a b : PyData} {env : AEnv} {Q : AV → AEnv → Prop} {X : XQ} : callK (spL f m) [.b 0, .d a, .d b] (some (.o l) :: env) Q X ↔ f l [a, b] fun r l' => Q r (some (.o l') :: env) := call_L (vs := [.d a, .d b]) (xs := [a, b]) (env := some (.o l) :: env) rfl rfl
theorem call_L3 {f : LF} {m : f.Mono} {l : List PyData} {a b c : PyData} {env : AEnv} {Q : AV → AEnv → Prop} {X : XQ} : callK (spL f m) [.b 0, .d a, .d b, .d c] (some (.o l) :: env) Q X ↔ f l [a, b, c] fun r l' => Q r (some (.o l') :: env) := call_L (vs := [.d a, .d b, .d c]) (xs := [a, b, c]) (env := some (.o l) :: env) rfl rfl
/-! ### sizes -/
def sz (n : Nat) (x : Int) : Prop := x.natAbs < 2 ^ n
theorem sz.mono {n m : Nat} {x : Int} (h : sz n x) (l : n ≤ m) : sz m x := Nat.lt_of_lt_of_le h (Nat.pow_le_pow_right (by decide) l)
theorem sz.mul {n m : Nat} {x y : Int} (h : sz n x) (g : sz m y) : sz (n + m) (x * y) := by
  unfold sz at *
  rw [Int.natAbs_mul, Nat.pow_add]
  exact Nat.mul_lt_mul'' h g
theorem sz.add {n : Nat} {x y : Int} (h : sz n x) (g : sz n y) : sz (n + 1) (x + y) := by
  unfold sz at *
  rw [Nat.pow_succ]
  have := Int.natAbs_add_le x y
  omega
theorem sz.neg {n : Nat} {x : Int} (h : sz n x) : sz n (-x) := by
  unfold sz at *
  rw [Int.natAbs_neg]
  exact h
theorem sz.sub {n : Nat} {x y : Int} (h : sz n x) (g : sz n y) : sz (n + 1) (x - y) := by
  rw [Int.sub_eq_add_neg]
  exact h.add g.neg
theorem sz.le {n : Nat} {x y : Int} (h : sz n y) (h0 : 0 ≤ x) (l : x ≤ y) : sz n x := by
  unfold sz at *
  omega
theorem sz.abs {n : Nat} {x y : Int} (h : sz n y) (l : x.natAbs ≤ y.natAbs) : sz n x := by
  unfold sz at *
  omega
theorem sz.log {n : Nat} {x : Int} (h : sz n x) : x.natAbs.log2 ≤ n := by
  by_cases z : x.natAbs = 0
  · rw [z]; exact Nat.zero_le _
  · exact Nat.le_of_lt ((Nat.log2_lt z).mpr h)
theorem sz.log' {n : Nat} {x : Int} (h : sz n x) (p : 0 < n) : x.natAbs.log2 < n := by
  by_cases z : x.natAbs = 0
  · rw [z]; exact p
  · exact (Nat.log2_lt z).mpr h
theorem sz.mulOk {n m : Nat} {x y : Int} (h : sz n x) (g : sz m y) (l : n + m < 1000000) : mulOk x y := by
  unfold PF.mulOk
  have := h.log
  have := g.log
  omega
theorem sz.divOk {n : Nat} {x : Int} (h : sz n x) (l : n < 9000) (p : x ≠ 0) : divOk x := ⟨p, by have := h.log; omega⟩
theorem sz.bits {n : Nat} {x : Int} (h : sz n x) : Builtin.Int.intBits x ≤ n := by
  unfold Builtin.Int.intBits
  split
  · exact Nat.zero_le _
  · rename_i z
    have z' : x.natAbs ≠ 0 := fun q => z (by rw [Int.natAbs_eq_zero.mp q]; rfl)
    exact (Nat.log2_lt z').mpr h
theorem sz.pow {n : Nat} {x e : Int} (h : sz n x) (h0 : 0 ≤ e) (l : (n : Int) * e ≤ 2 ^ 27) : powOk x e := by
  refine ⟨h0, Int.le_trans (Int.mul_le_mul_of_nonneg_right ?_ h0) l⟩
  have := h.bits
  omega
theorem sz_lit {x : Int} {n : Nat} (h : x.natAbs < 2 ^ n) : sz n x := h
theorem s10 : sz 4 10 := by unfold sz; decide
theorem fdiv_p {a b : Int} (h : 0 < b) : a.fdiv b = a / b := by rw [Int.fdiv_eq_ediv_of_nonneg _ (by omega)]
theorem fmod_p {a b : Int} (h : 0 < b) : a.fmod b = a % b := by rw [Int.fmod_eq_emod_of_nonneg _ (by omega)]
theorem sz.div {n : Nat} {x y : Int} (h : sz n x) : sz n (x / y) := h.abs (by rw [← Int.natAbs_natCast (x / y).natAbs]; exact Int.natAbs_ediv_le_natAbs x y)
/-! ### a text of two numbers -/
theorem int_len {i : Int} (h : sz 1919 i) : (PyData.shown (.int i)).length ≤ 2000 := by
  have e : PyData.shown (.int i) = Str.ofString (toString i) := by simp only [PyData.shown]
  rw [e, PySem.ofString_length]
  have h1 := int_text_length_le (a := i) (k := 1919) (by decide) (h.log' (by decide))
  omega
theorem ok_of (s : String) : PyData.strOk (Str.ofString s) = true := by
  rw [Str.ofString_eq_toList]
  unfold PyData.strOk
  rw [Array.all_eq_true]
  intro i hi
  simp only [List.getElem_toArray, List.getElem_map, decide_eq_true_eq]
  have hi2 : i < s.toList.length := by simpa using hi
  generalize s.toList[i]'hi2 = c
  have := c.valid
  unfold Char.toNat
  simp only [UInt32.isValidChar, Nat.isValidChar] at this
  omega
theorem ok_app {a b : Str} (ha : PyData.strOk a = true) (hb : PyData.strOk b = true) : PyData.strOk (a ++ b) = true := by
  show (a.cps ++ b.cps).all _ = true
  rw [Array.all_append]
  unfold PyData.strOk at ha hb
  rw [ha, hb]
  rfl
theorem ok_join : ∀ {ts : List Str}, (∀ t ∈ ts, PyData.strOk t = true) → PyData.strOk (Str.join ", " ts) = true
  | [], _ => by decide +kernel
  | [x], h => h x List.mem_cons_self
  | x :: y :: r, h => ok_app (ok_app (h x List.mem_cons_self) (ok_of ", ")) (ok_join (ts := y :: r) fun t ht => h t (List.mem_cons_of_mem _ ht))
def Sw (x : PyData) : Prop := SeqAt.shaped (.str x.shown) = true
theorem sw_of {x : PyData} (h : PyData.strOk x.shown = true) : Sw x := by
  unfold Sw SeqAt.shaped
  simp [PyData.canLay0, h, PyData.depth]
theorem sw_none : Sw .none := by unfold Sw; decide +kernel
theorem sw_bool (b : Bool) : Sw (.bool b) := by cases b <;> (unfold Sw; decide +kernel)
theorem shown_int (i : Int) : PyData.shown (.int i) = Str.ofString (toString i) := by simp only [PyData.shown]
theorem sw_int (i : Int) : Sw (.int i) := sw_of (by rw [shown_int]; exact ok_of _)
theorem shp_list {xs : List PyData} (h : ∀ x ∈ xs, x.canLay0 = true ∧ x.depth ≤ 60) : SeqAt.shaped (.list xs) = true := by
  have h1 : PyData.canLayAll0 xs = true := by
    induction xs with
    | nil => rfl
    | cons x xs ih => simp [PyData.canLayAll0, (h x List.mem_cons_self).1, ih fun y hy => h y (List.mem_cons_of_mem _ hy)]
  have h2 : PyData.depthAll xs ≤ 60 := by
    clear h1
    induction xs with
    | nil => simp [PyData.depthAll]
    | cons x xs ih =>
      have := (h x List.mem_cons_self).2
      have := ih fun y hy => h y (List.mem_cons_of_mem _ hy)
      simp only [PyData.depthAll]
      omega
  unfold SeqAt.shaped
  simp only [PyData.canLay0, h1, PyData.depth, Bool.true_and]
  exact decide_eq_true (by omega)
theorem eqvAll_same : ∀ {xs : List PyData}, (∀ x ∈ xs, PyData.eqv x x = true) → PyData.eqvAll xs xs = true
  | [], _ => rfl
  | x :: xs, h => by
    simp only [PyData.eqvAll, h x List.mem_cons_self, Bool.true_and]
    exact eqvAll_same fun y hy => h y (List.mem_cons_of_mem _ hy)
def Rp (x : PyData) : Prop := x.showable = true ∧ x.hasDict = false ∧ x.shown.length ≤ sizeLine ∧ x.depth ≤ 64
theorem rp_none : Rp .none := ⟨rfl, rfl, by decide +kernel, by decide⟩
theorem rp_bool (b : Bool) : Rp (.bool b) := by cases b <;> exact ⟨rfl, rfl, by decide +kernel, by decide⟩
def tn (a b : Int) : PyData := .tuple [.int a, .int b]
theorem showable_int {i : Int} (h : sz 1919 i) : (PyData.int i).showable = true := by
  simp only [PyData.showable, decide_eq_true_eq]
  have := h.log' (by decide)
  omega
theorem rp_int {a : Int} (h : sz 1919 a) : Rp (.int a) := ⟨showable_int h, rfl, by have := int_len h; rw [sizeLine_eq]; omega, by simp [PyData.depth]⟩
theorem rp_tn {a b : Int} (ha : sz 1919 a) (hb : sz 1919 b) : Rp (tn a b) := by
  have h1 := int_len ha
  have h2 := int_len hb
  refine ⟨?_, by simp [tn, PyData.hasDict, PyData.hasDictAll], ?_, by simp [tn, PyData.depth, PyData.depthAll]⟩
  · simp only [tn, PyData.showable, PyData.showableAll, Bool.and_eq_true]
    have h3 := showable_int ha
    have h4 := showable_int hb
    simp only [PyData.showable] at h3 h4
    exact ⟨h3, h4, trivial⟩
  · have e : (tn a b).shown = tupleText [PyData.shown (.int a), PyData.shown (.int b)] := by simp only [tn, PyData.shown, PyData.shownAll]
    rw [e]
    unfold tupleText
    rw [strLen_append, strLen_append]
    have h5 := join_length_add [PyData.shown (.int a), PyData.shown (.int b)] (by simp)
    rw [piled_cons, piled_cons, piled_nil] at h5
    have h6 : (("(" : Str)).length = 1 := rfl
    have h7 : ((((if ([PyData.shown (.int a), PyData.shown (.int b)].length == 1) = true then ",)" else ")" : String)) : Str)).length ≤ 2 := by
      show (((")" : String) : Str)).length ≤ 2
      decide +kernel
    rw [sizeLine_eq]
    omega
theorem sw_tn (a b : Int) : Sw (tn a b) := by
  refine sw_of ?_
  have e : (tn a b).shown = tupleText [PyData.shown (.int a), PyData.shown (.int b)] := by simp only [tn, PyData.shown, PyData.shownAll]
  rw [e]
  unfold tupleText
  refine ok_app (ok_app (ok_of "(") (ok_join fun t ht => ?_)) (ok_of _)
  simp only [List.mem_cons, List.not_mem_nil, or_false] at ht
  rcases ht with rfl | rfl
  · rw [shown_int]; exact ok_of _
  · rw [shown_int]; exact ok_of _
theorem eqv_tn {a b : Int} : PyData.eqv (.tuple [.int a, .int b]) (.tuple [.int a, .int b]) = true := by simp [PyData.eqv, PyData.eqvAll]
theorem eqv_str (s : Str) : PyData.eqv (.str s) (.str s) = true := by simp [PyData.eqv]
/-! ### lists of numbers -/
def iv (lo hi : Int) : List Int := (List.range (hi - lo).toNat).map fun (i : Nat) => lo + (i : Int)
theorem rangeL_iv {lo hi : Int} : rangeL lo hi = (iv lo hi).map .int := by
  unfold rangeL iv
  rw [List.map_map]
  rfl
theorem mem_iv {lo hi t : Int} : t ∈ iv lo hi ↔ lo ≤ t ∧ t < hi := by
  unfold iv
  simp only [List.mem_map, List.mem_range]
  constructor
  · rintro ⟨i, h, rfl⟩; omega
  · intro h; exact ⟨(t - lo).toNat, by omega, by omega⟩
theorem iv_len (lo hi : Int) : (iv lo hi).length = (hi - lo).toNat := by simp [iv]
theorem iv_nil {lo hi : Int} (h : hi ≤ lo) : iv lo hi = [] := by
  unfold iv
  rw [show (hi - lo).toNat = 0 by omega]
  rfl
theorem iv_cons {lo hi : Int} (h : lo < hi) : iv lo hi = lo :: iv (lo + 1) hi := by
  unfold iv
  rw [show (hi - lo).toNat = (hi - (lo + 1)).toNat + 1 by omega, List.range_succ_eq_map, List.map_cons, List.map_map]
  congr 1
  · simp
  · refine List.map_congr_left fun i _ => ?_
    simp only [Function.comp, Nat.succ_eq_add_one]
    omega
theorem iv_app {lo mid hi : Int} (h1 : lo ≤ mid) (h2 : mid ≤ hi) : iv lo hi = iv lo mid ++ iv mid hi := by
  generalize hn : (mid - lo).toNat = n
  induction n generalizing lo with
  | zero =>
    have : mid = lo := by omega
    subst this
    rw [iv_nil (Int.le_refl _)]
    rfl
  | succ n ih =>
    rw [iv_cons (show lo < hi by omega), iv_cons (show lo < mid by omega), ih (lo := lo + 1) (by omega) (by omega)]
    rfl
def oneOf (L : List Int) (i : Int) : Int := (L[i.toNat]?).getD 0
theorem atI_ints {L : List Int} {i : Int} (h0 : 0 ≤ i) (h1 : i < L.length) : L2.atI (L.map PyData.int) i = some (.int (oneOf L i)) := by
  have h : i.toNat < L.length := by omega
  rw [atI_lt h0 (by rw [List.length_map]; exact h1), List.getElem?_map, List.getElem?_eq_getElem h]
  simp [oneOf, List.getElem?_eq_getElem h]
theorem oneOf_mem {L : List Int} {i : Int} (h0 : 0 ≤ i) (h1 : i < L.length) : oneOf L i ∈ L := by
  have h : i.toNat < L.length := by omega
  unfold oneOf
  rw [List.getElem?_eq_getElem h]
  exact List.getElem_mem h
inductive All2 {α β : Type} (R : α → β → Prop) : List α → List β → Prop
  | nil : All2 R [] []
  | cons {a : α} {b : β} {as : List α} {bs : List β} (h : R a b) (t : All2 R as bs) : All2 R (a :: as) (b :: bs)
/-! ### comprehensions -/
/-- each item gives an answer of its kind; those for which p holds -/
theorem comp_r {cond : Option Unit} {ec ee : AEnv → (AV → AEnv → Prop) → Prop} {tg : Tg} {own : List (Str × Nat)} (E : Option PyData → AEnv) (p : PyData → Bool) (R : PyData → PyData → Prop) (hw : ∀ x, wipeE (E (some x)) own = E none) :
    ∀ (ds : List PyData) (acc : List PyData) (env : AEnv) (Q : List PyData → AEnv → Prop), wipeE env own = E none →
    (∀ x ∈ ds, ∀ k : AEnv → Prop, k (E (some x)) → tgK tg x (E none) k) →
    (cond = none → ∀ x ∈ ds, p x = true) →
    (∀ x ∈ ds, cond ≠ none → ∀ q : AV → AEnv → Prop, q (.d (.bool (p x))) (E (some x)) → ec (E (some x)) q) →
    (∀ x ∈ ds, p x = true → ∀ q : AV → AEnv → Prop, (∀ y, R x y → q (.d y) (E (some x))) → ee (E (some x)) q) →
    (∀ ys env', (env' = env ∨ ∃ x, env' = E (some x)) → All2 R (ds.filter p) ys → Q (acc ++ ys) env') →
    compW cond ec ee tg own ds env acc Q
  | [], acc, env, Q, h0, ht, hn, hc, he, hQ => by
    have := hQ [] env (.inl rfl) .nil
    rw [List.append_nil] at this
    exact this
  | x :: ds, acc, env, Q, h0, ht, hn, hc, he, hQ => by
    unfold compW
    rw [h0]
    refine ht x List.mem_cons_self _ ?_
    have step : ∀ y, R x y → p x = true → compW cond ec ee tg own ds (E (some x)) (acc ++ [y]) Q := fun y hy hp => by
      refine comp_r E p R hw ds _ _ Q (hw x) (fun z hz => ht z (List.mem_cons_of_mem _ hz)) (fun q z hz => hn q z (List.mem_cons_of_mem _ hz)) (fun z hz => hc z (List.mem_cons_of_mem _ hz)) (fun z hz => he z (List.mem_cons_of_mem _ hz)) fun ys env' h1 h2 => ?_
      rw [List.append_assoc]
      refine hQ (y :: ys) env' (.inr ?_) ?_
      · rcases h1 with h1 | h1
        · exact ⟨x, h1⟩
        · exact h1
      · rw [List.filter_cons_of_pos hp]
        exact .cons hy h2
    have skip : p x = false → compW cond ec ee tg own ds (E (some x)) acc Q := fun hp => by
      refine comp_r E p R hw ds _ _ Q (hw x) (fun z hz => ht z (List.mem_cons_of_mem _ hz)) (fun q z hz => hn q z (List.mem_cons_of_mem _ hz)) (fun z hz => hc z (List.mem_cons_of_mem _ hz)) (fun z hz => he z (List.mem_cons_of_mem _ hz)) fun ys env' h1 h2 => ?_
      refine hQ ys env' (.inr ?_) ?_
      · rcases h1 with h1 | h1
        · exact ⟨x, h1⟩
        · exact h1
      · rw [List.filter_cons_of_neg (by simp [hp])]
        exact h2
    cases cond with
    | none => exact he x List.mem_cons_self (hn rfl x List.mem_cons_self) _ fun y hy => step y hy (hn rfl x List.mem_cons_self)
    | some u =>
      refine hc x List.mem_cons_self (by simp) _ ?_
      show (if p x = true then _ else _)
      split
      · rename_i hp
        exact he x List.mem_cons_self hp _ fun y hy => step y hy hp
      · rename_i hp
        exact skip (by simpa using hp)
theorem all2_eq {f : PyData → PyData} : ∀ {xs ys : List PyData}, All2 (fun x y => y = f x) xs ys → ys = xs.map f
  | _, _, .nil => rfl
  | _, _, .cons h t => by rw [h, all2_eq t]; rfl
/-- the same with one answer for each item, the slots as they were -/
theorem comp_f {cond : Option Unit} {ec ee : AEnv → (AV → AEnv → Prop) → Prop} {tg : Tg} {own : List (Str × Nat)} {env : AEnv} {ds : List PyData} {K : List PyData → AEnv → Prop} (E : Option PyData → AEnv) (p : PyData → Bool) (f : PyData → PyData)
    (h0 : wipeE env own = E none) (hw : ∀ x, wipeE (E (some x)) own = E none) (hb0 : backE env env own = env) (hb : ∀ x, backE env (E (some x)) own = env)
    (ht : ∀ x ∈ ds, ∀ k : AEnv → Prop, k (E (some x)) → tgK tg x (E none) k) (hn : cond = none → ∀ x ∈ ds, p x = true)
    (hc : ∀ x ∈ ds, cond ≠ none → ∀ q : AV → AEnv → Prop, q (.d (.bool (p x))) (E (some x)) → ec (E (some x)) q)
    (he : ∀ x ∈ ds, p x = true → ∀ q : AV → AEnv → Prop, q (.d (f x)) (E (some x)) → ee (E (some x)) q) (hQ : ∀ env', backE env env' own = env → K ((ds.filter p).map f) env') :
    compW cond ec ee tg own ds env [] K := by
  refine comp_r E p (fun x y => y = f x) hw ds [] env _ h0 ht hn hc (fun x hx hp q z => he x hx hp q (z _ rfl)) fun ys env' h1 h2 => ?_
  rw [all2_eq h2, List.nil_append]
  rcases h1 with rfl | ⟨x, rfl⟩
  · exact hQ _ hb0
  · exact hQ _ (hb x)
/-- the same with answers of a kind -/
theorem comp_k {cond : Option Unit} {ec ee : AEnv → (AV → AEnv → Prop) → Prop} {tg : Tg} {own : List (Str × Nat)} {env : AEnv} {ds : List PyData} {K : List PyData → AEnv → Prop} (E : Option PyData → AEnv) (p : PyData → Bool) (R : PyData → PyData → Prop)
    (h0 : wipeE env own = E none) (hw : ∀ x, wipeE (E (some x)) own = E none) (hb0 : backE env env own = env) (hb : ∀ x, backE env (E (some x)) own = env)
    (ht : ∀ x ∈ ds, ∀ k : AEnv → Prop, k (E (some x)) → tgK tg x (E none) k) (hn : cond = none → ∀ x ∈ ds, p x = true)
    (hc : ∀ x ∈ ds, cond ≠ none → ∀ q : AV → AEnv → Prop, q (.d (.bool (p x))) (E (some x)) → ec (E (some x)) q)
    (he : ∀ x ∈ ds, p x = true → ∀ q : AV → AEnv → Prop, (∀ y, R x y → q (.d y) (E (some x))) → ee (E (some x)) q) (hQ : ∀ ys env', All2 R (ds.filter p) ys → backE env env' own = env → K ys env') :
    compW cond ec ee tg own ds env [] K := by
  refine comp_r E p R hw ds [] env _ h0 ht hn hc he fun ys env' h1 h2 => ?_
  rw [List.nil_append]
  rcases h1 with rfl | ⟨x, rfl⟩
  · exact hQ _ _ h2 hb0
  · exact hQ _ _ h2 (hb x)
/-! ### bodies with their ends unseen -/
theorem body_LT {np n : Nat} {b : Ss} {f : LF} {m : f.Mono} (hl : ∀ l xs k, f l xs k → xs.length + 1 = np)
    (h : ∀ l xs (k : AV → List PyData → Prop), f l xs k → ∀ D : AEnds, (∀ v env l', getE env 0 = some (.o l') → k (.d v) l' → D.rt (.d v) env) → (∀ ds env l', getE env 0 = some (.o l') → k (.o ds) l' → D.rt (.o ds) env) → wSs X0 b (initE n (.o l :: xs.map AV.d)) D) : Body np n [0] b (spL f m) :=
  body_L hl fun l xs k hf => h l xs k hf _ (fun v env l' he z => by
    show retK [0] (.d v) env fun r' => endL env fun l' => k r' l'
    simp only [retK, endL, he]
    exact z) (fun v env l' he z => by
    show retK [0] (.o v) env fun r' => endL env fun l' => k r' l'
    simp only [retK, endL, he]
    exact z)
theorem body_WT {np n : Nat} {b : Ss} {f : WF} {m : f.Mono} (hl : ∀ xs k, f xs k → xs.length = np)
    (h : ∀ xs (k : AV → Prop), f xs k → ∀ D : AEnds, (∀ v env, k (.d v) → D.rt (.d v) env) → (∀ ds env, k (.o ds) → D.rt (.o ds) env) → (∀ env, k (.d .none) → D.nx env) → wSs X0 b (initE n (xs.map AV.d)) D) : Body np n [] b (spW f m) :=
  body_W hl fun xs k hf => h xs k hf _ (fun v env z => z) (fun v env z => z) (fun env z => z)
end NL

set_option maxRecDepth 100000
set_option maxHeartbeats 1000000
/-! NB: progressions, in plain numbers -/
namespace NL
open PySem PF
theorem gcd_step {x y : Int} : Int.gcd y (x % y) = Int.gcd x y := by
  have e : x % y = x - (x / y) * y := by
    have := Int.emod_add_mul_ediv x y
    have := Int.mul_comm y (x / y)
    omega
  rw [e, Int.gcd_sub_mul_right_right, Int.gcd_comm]
theorem gcd_posR {u v : Int} (hv : 0 < v) : 0 < ((Int.gcd u v : Nat) : Int) := by
  have := Int.gcd_pos_of_ne_zero_right u (show v ≠ 0 by omega)
  omega
theorem gcd_leR {u v : Int} (hv : 0 < v) : ((Int.gcd u v : Nat) : Int) ≤ v := Int.le_of_dvd hv (Int.gcd_dvd_right u v)
theorem cut_g {u v : Int} (hv : 0 < v) : ∃ g a b : Int, 0 < g ∧ g = Int.gcd u v ∧ u = g * a ∧ v = g * b ∧ u / Int.gcd u v = a ∧ v / Int.gcd u v = b ∧ 0 < b ∧ Int.gcd a b = 1 := by
  have gp := gcd_posR (u := u) hv
  obtain ⟨a, ha⟩ := Int.gcd_dvd_left u v
  obtain ⟨b, hb⟩ := Int.gcd_dvd_right u v
  have ea : u / Int.gcd u v = a := Int.ediv_eq_of_eq_mul_right (by omega) ha
  have eb : v / Int.gcd u v = b := Int.ediv_eq_of_eq_mul_right (by omega) hb
  refine ⟨_, a, b, gp, rfl, ha, hb, ea, eb, ?_, ?_⟩
  · rcases Int.lt_trichotomy b 0 with z | z | z
    · have := Int.mul_neg_of_pos_of_neg gp z
      omega
    · subst z; simp at hb; omega
    · exact z
  · have := Int.gcd_ediv_gcd_ediv_gcd (i := u) (j := v) (by omega)
    rw [ea, eb] at this
    exact this
theorem dvd_mod {L t x : Int} : L ∣ t - x % L ↔ L ∣ t - x := by
  have e := Int.emod_add_mul_ediv x L
  constructor
  · rintro ⟨k, h⟩; exact ⟨k - x / L, by grind⟩
  · rintro ⟨k, h⟩; exact ⟨k + x / L, by grind⟩
theorem dvd_cancel {g L x : Int} (hg : 0 < g) : g * L ∣ g * x ↔ L ∣ x := by
  constructor
  · rintro ⟨k, h⟩
    refine ⟨k, Int.eq_of_mul_eq_mul_left (a := g) (by omega) ?_⟩
    rw [h]; grind
  · rintro ⟨k, h⟩
    exact ⟨k, by rw [h]; grind⟩
/-- what time_in tells -/
theorem tim_some {g n L c r q t : Int} (hg : 0 < g) (hr : r * n = 1 + q * L) : g * L ∣ g * n * t - g * c ↔ L ∣ t - (c * r) % L := by
  rw [dvd_mod]
  have e : g * n * t - g * c = g * (n * t - c) := by grind
  rw [e, dvd_cancel hg]
  constructor
  · rintro ⟨k, h⟩
    exact ⟨r * k - q * t, by grind⟩
  · rintro ⟨k, h⟩
    refine ⟨n * k + c * q, ?_⟩
    have h1 : t = c * r + L * k := by omega
    subst h1
    grind
theorem tim_none {g n L b t : Int} (h : g * L ∣ g * n * t - b) : g ∣ b := by
  obtain ⟨k, h⟩ := h
  exact ⟨n * t - L * k, by grind⟩
/-- what both_in tells -/
theorem both_some {f1 f2 L1 L2 g M t x : Int} (hL : 0 < L1) (hM : L2 = g * M) (ht : ∀ s, L2 ∣ L1 * s - (f2 - f1) ↔ M ∣ s - t) : (L1 ∣ x - f1 ∧ L2 ∣ x - f2) ↔ L1 * M ∣ x - (f1 + t * L1) % (L1 * M) := by
  rw [dvd_mod]
  constructor
  · rintro ⟨⟨s, h1⟩, h2⟩
    have e : x - f2 = L1 * s - (f2 - f1) := by omega
    rw [e, ht] at h2
    obtain ⟨k, h2⟩ := h2
    exact ⟨k, by grind⟩
  · rintro ⟨k, h⟩
    have e : x - f1 = L1 * (t + M * k) := by grind
    refine ⟨⟨_, e⟩, ?_⟩
    have e2 : x - f2 = L1 * (t + M * k) - (f2 - f1) := by omega
    rw [e2, ht]
    exact ⟨k, by omega⟩
theorem both_none {f1 f2 L1 L2 x : Int} (ht : ∀ s, ¬ L2 ∣ L1 * s - (f2 - f1)) : ¬ (L1 ∣ x - f1 ∧ L2 ∣ x - f2) := by
  rintro ⟨⟨s, h1⟩, h2⟩
  have e : x - f2 = L1 * s - (f2 - f1) := by omega
  rw [e] at h2
  exact ht s h2
/-! ### common multiples -/
def lcm2 (w l : Int) : Int := w / Int.gcd w l * l
def lcmL (ls : List Int) : Int := ls.foldl lcm2 1
theorem lcm2_eq {w l : Int} (hl : 0 < l) : ∃ g M N : Int, 0 < g ∧ g = Int.gcd w l ∧ l = g * M ∧ w = g * N ∧ lcm2 w l = w * M ∧ l / Int.gcd w l = M ∧ 0 < M ∧ Int.gcd N M = 1 := by
  obtain ⟨g, a, b, gp, hg, ha, hb, ea, eb, bp, co⟩ := cut_g (u := w) hl
  refine ⟨g, b, a, gp, hg, hb, ha, ?_, eb, bp, co⟩
  unfold lcm2
  rw [ea]
  rw [hb, ha]
  grind
theorem lcm2_pos {w l : Int} (hw : 0 < w) (hl : 0 < l) : 0 < lcm2 w l := by
  obtain ⟨g, M, N, gp, hg, h1, hN, h2, h3, h4, co⟩ := lcm2_eq (w := w) hl
  rw [h2]
  exact Int.mul_pos hw h4
theorem lcm2_le {w l : Int} (hw : 0 < w) (hl : 0 < l) : lcm2 w l ≤ w * l := by
  obtain ⟨g, M, N, gp, hg, h1, hN, h2, h3, h4, co⟩ := lcm2_eq (w := w) hl
  rw [h2, h1]
  have : M ≤ g * M := by
    have := Int.mul_le_mul_of_nonneg_right (show 1 ≤ g by omega) (show 0 ≤ M by omega)
    omega
  exact Int.mul_le_mul_of_nonneg_left this (by omega)
theorem lcm2_left {w l : Int} (hl : 0 < l) : w ∣ lcm2 w l := by
  obtain ⟨g, M, N, gp, hg, h1, hN, h2, h3, h4, co⟩ := lcm2_eq (w := w) hl
  exact ⟨M, h2⟩
theorem lcm2_right {w l : Int} (hl : 0 < l) : l ∣ lcm2 w l := ⟨w / Int.gcd w l, by unfold lcm2; rw [Int.mul_comm]⟩
theorem lcm2_dvd {w l x : Int} (hl : 0 < l) (h1 : w ∣ x) (h2 : l ∣ x) : lcm2 w l ∣ x := by
  obtain ⟨g, M, N, gp, hg, e1, hN, e2, e3, e4, co⟩ := lcm2_eq (w := w) hl
  rw [e2]
  obtain ⟨k, rfl⟩ := h1
  obtain ⟨j, h2⟩ := h2
  have : M ∣ N * k := by
    refine ⟨j, Int.eq_of_mul_eq_mul_left (a := g) (by omega) ?_⟩
    rw [← Int.mul_assoc, ← hN, h2, e1]; grind
  have hd : M ∣ k := by
    refine Int.natAbs_dvd_natAbs.mp (Nat.Coprime.dvd_of_dvd_mul_left (k := M.natAbs) (m := N.natAbs) ?_ ?_)
    · rw [Int.gcd_comm] at co; exact co
    · have := Int.natAbs_dvd_natAbs.mpr this
      rwa [Int.natAbs_mul] at this
  obtain ⟨i, rfl⟩ := hd
  exact ⟨i, by grind⟩
theorem lcmL_snoc (ls : List Int) (l : Int) : lcmL (ls ++ [l]) = lcm2 (lcmL ls) l := by simp [lcmL, List.foldl_append]
theorem lcmL_nil : lcmL [] = 1 := rfl
theorem foldl_pos : ∀ {ls : List Int} {w : Int}, 0 < w → (∀ l ∈ ls, 0 < l) → 0 < ls.foldl lcm2 w
  | [], w, hw, _ => hw
  | l :: ls, w, hw, h => foldl_pos (ls := ls) (lcm2_pos hw (h l List.mem_cons_self)) fun x hx => h x (List.mem_cons_of_mem _ hx)
theorem lcmL_pos {ls : List Int} (h : ∀ l ∈ ls, 0 < l) : 0 < lcmL ls := foldl_pos (by decide) h
theorem foldl_dvd : ∀ {ls : List Int} {w x : Int}, (∀ l ∈ ls, 0 < l) → w ∣ x → (∀ l ∈ ls, l ∣ x) → ls.foldl lcm2 w ∣ x
  | [], w, x, _, hw, _ => hw
  | l :: ls, w, x, hp, hw, h => foldl_dvd (ls := ls) (fun y hy => hp y (List.mem_cons_of_mem _ hy)) (lcm2_dvd (hp l List.mem_cons_self) hw (h l List.mem_cons_self)) fun y hy => h y (List.mem_cons_of_mem _ hy)
theorem lcmL_dvd {ls : List Int} {x : Int} (hp : ∀ l ∈ ls, 0 < l) (h : ∀ l ∈ ls, l ∣ x) : lcmL ls ∣ x := foldl_dvd hp (Int.one_dvd x) h
theorem foldl_sz {n : Nat} : ∀ {ls : List Int} {w : Int} {m : Nat}, (∀ l ∈ ls, 0 < l ∧ sz n l) → 0 < w → sz m w → sz (m + n * ls.length) (ls.foldl lcm2 w)
  | [], w, m, _, _, s => s
  | l :: ls, w, m, h, hw, s => by
    obtain ⟨lp, ls'⟩ := h l List.mem_cons_self
    have := foldl_sz (ls := ls) (m := m + n) (fun x hx => h x (List.mem_cons_of_mem _ hx)) (lcm2_pos hw lp) ((s.mul ls').le (Int.le_of_lt (lcm2_pos hw lp)) (lcm2_le hw lp))
    refine this.mono ?_
    rw [List.length_cons, Nat.mul_add]
    omega
theorem lcmL_sz {n : Nat} {ls : List Int} (h : ∀ l ∈ ls, 0 < l ∧ sz n l) : sz (1 + n * ls.length) (lcmL ls) := foldl_sz (m := 1) h (by decide) (by unfold sz; decide)
def prodL (ls : List Int) : Int := ls.foldr (· * ·) 1
theorem prodL_cons (l : Int) (ls : List Int) : prodL (l :: ls) = l * prodL ls := rfl
theorem prodL_pos : ∀ {ls : List Int}, (∀ l ∈ ls, 0 < l) → 0 < prodL ls
  | [], _ => by decide
  | l :: ls, h => Int.mul_pos (h l List.mem_cons_self) (prodL_pos (ls := ls) fun x hx => h x (List.mem_cons_of_mem _ hx))
theorem prodL_app : ∀ (ds rs : List Int), prodL (ds ++ rs) = prodL ds * prodL rs
  | [], rs => by rw [List.nil_append]; show _ = 1 * prodL rs; rw [Int.one_mul]
  | d :: ds, rs => by rw [List.cons_append, prodL_cons, prodL_cons, prodL_app ds rs, Int.mul_assoc]
theorem foldl_le : ∀ {ls : List Int} {w : Int}, 0 < w → (∀ l ∈ ls, 0 < l) → ls.foldl lcm2 w ≤ w * prodL ls
  | [], w, hw, _ => by show w ≤ w * 1; omega
  | l :: ls, w, hw, h => by
    have lp := h l List.mem_cons_self
    have ht : ∀ x ∈ ls, 0 < x := fun x hx => h x (List.mem_cons_of_mem _ hx)
    have ih := foldl_le (ls := ls) (lcm2_pos hw lp) ht
    have := Int.mul_le_mul_of_nonneg_right (lcm2_le hw lp) (Int.le_of_lt (prodL_pos ht))
    rw [prodL_cons, ← Int.mul_assoc]
    exact Int.le_trans ih this
theorem lcmL_le {ls : List Int} (h : ∀ l ∈ ls, 0 < l) : lcmL ls ≤ prodL ls := by
  have := foldl_le (ls := ls) (w := 1) (by decide) h
  rw [Int.one_mul] at this
  exact this
theorem prodL_left {ds rs : List Int} (h1 : ∀ l ∈ ds, 0 < l) (h2 : ∀ l ∈ rs, 0 < l) : prodL ds ≤ prodL (ds ++ rs) := by
  rw [prodL_app]
  have p1 := prodL_pos h1
  have p2 := prodL_pos h2
  have := Int.mul_le_mul_of_nonneg_left (show 1 ≤ prodL rs by omega) (Int.le_of_lt p1)
  omega
theorem prodL_mem {ls : List Int} {l : Int} (h : ∀ l ∈ ls, 0 < l) (hl : l ∈ ls) : l ≤ prodL ls := by
  induction ls with
  | nil => cases hl
  | cons x ls ih =>
    have xp := h x List.mem_cons_self
    have ht : ∀ y ∈ ls, 0 < y := fun y hy => h y (List.mem_cons_of_mem _ hy)
    have tp := prodL_pos ht
    rw [prodL_cons]
    rcases List.mem_cons.mp hl with rfl | hl
    · have := Int.mul_le_mul_of_nonneg_left (show 1 ≤ prodL ls by omega) (Int.le_of_lt xp)
      omega
    · have := ih ht hl
      have := Int.mul_le_mul_of_nonneg_right (show 1 ≤ x by omega) (Int.le_of_lt tp)
      omega
theorem prodL_sz {n : Nat} : ∀ {ls : List Int}, (∀ l ∈ ls, sz n l) → sz (1 + n * ls.length) (prodL ls)
  | [], _ => by show sz _ 1; exact (sz_lit (n := 1) (by decide)).mono (by omega)
  | l :: ls, h => by
    rw [prodL_cons]
    refine ((h l List.mem_cons_self).mul (prodL_sz (ls := ls) fun x hx => h x (List.mem_cons_of_mem _ hx))).mono ?_
    rw [List.length_cons, Nat.mul_add]
    omega
theorem prodL_map {α : Type} {f g : α → Int} : ∀ {cs : List α}, (∀ c ∈ cs, 0 < f c ∧ f c ≤ g c) → prodL (cs.map f) ≤ prodL (cs.map g)
  | [], _ => Int.le_refl _
  | c :: cs, h => by
    rw [List.map_cons, List.map_cons, prodL_cons, prodL_cons]
    obtain ⟨h1, h2⟩ := h c List.mem_cons_self
    have ht : ∀ x ∈ cs, 0 < f x ∧ f x ≤ g x := fun x hx => h x (List.mem_cons_of_mem _ hx)
    have p1 : 0 < prodL (cs.map f) := prodL_pos fun l hl => by
      obtain ⟨x, hx, rfl⟩ := List.mem_map.mp hl
      exact (ht x hx).1
    exact Int.mul_le_mul h2 (prodL_map (cs := cs) ht) (by omega) (by omega)
/-! ### sums of progressions -/
/-- x lies in all of the rows exactly if W divides x - F -/
def Sol (P : Int → Prop) (F W : Int) : Prop := 0 ≤ F ∧ F < W ∧ ∀ x, P x ↔ W ∣ x - F
theorem dvd_small {W x : Int} (h : W ∣ x) (h1 : -W < x) (h2 : x < W) : x = 0 := by
  obtain ⟨k, rfl⟩ := h
  have hW : 0 < W := by omega
  rcases Int.lt_trichotomy k 0 with z | z | z
  · have : W * k ≤ W * (-1) := Int.mul_le_mul_of_nonneg_left (by omega) (by omega)
    omega
  · subst z; simp
  · have : W * 1 ≤ W * k := Int.mul_le_mul_of_nonneg_left (by omega) (by omega)
    omega
theorem Sol.uniq {P : Int → Prop} {F W y : Int} (h : Sol P F W) (hy : P y) : F = y % W := by
  obtain ⟨h1, h2, h3⟩ := h
  have hd := (h3 y).mp hy
  have hW : 0 < W := by omega
  have e1 := Int.emod_nonneg y (show W ≠ 0 by omega)
  have e2 := Int.emod_lt_of_pos y hW
  have e3 := Int.emod_add_mul_ediv y W
  have : W ∣ y % W - F := by
    obtain ⟨k, hd⟩ := hd
    exact ⟨k - y / W, by grind⟩
  have := dvd_small this (by omega) (by omega)
  omega
/-! ### which numbers of a range -/
theorem filter_none {p : Int → Bool} {lo hi : Int} (h : ∀ t, lo ≤ t → t < hi → p t = false) : (iv lo hi).filter p = [] := by
  refine List.filter_eq_nil_iff.mpr fun t ht => ?_
  obtain ⟨a, b⟩ := mem_iv.mp ht
  simp [h t a b]
theorem filter_one {p : Int → Bool} {lo hi F : Int} (h1 : lo ≤ F) (h2 : F < hi) (hF : p F = true) (h : ∀ t, lo ≤ t → t < hi → t ≠ F → p t = false) : (iv lo hi).filter p = [F] := by
  rw [iv_app h1 (show F ≤ hi by omega), iv_cons h2, List.filter_append, List.filter_cons_of_pos hF, filter_none (fun t a b => h t a (by omega) (by omega)), filter_none (fun t a b => h t (by omega) b (by omega))]
  rfl
theorem filter_prog {W F : Int} (h0 : 0 ≤ F) (h1 : F < W) {p : Int → Bool} (hp : ∀ t, p t = true ↔ W ∣ t - F) : ∀ c : Nat, (iv 0 (W * c)).filter p = (List.range c).map fun (i : Nat) => F + (i : Int) * W
  | 0 => by rw [iv_nil (by simp)]; rfl
  | c + 1 => by
    have hc : (0 : Int) ≤ W * c := Int.mul_nonneg (by omega) (by omega)
    have e : W * ((c + 1 : Nat) : Int) = W * c + W := by grind
    rw [e, iv_app hc (by omega), List.filter_append, filter_prog h0 h1 hp c, List.range_succ, List.map_append]
    congr 1
    have key : (iv (W * c) (W * c + W)).filter p = [F + (c : Int) * W] := by
      have e2 : (c : Int) * W = W * c := Int.mul_comm _ _
      refine filter_one (by omega) (by omega) ((hp _).mpr ⟨c, by omega⟩) fun t a b ne => ?_
      cases q : p t with
      | false => rfl
      | true =>
        obtain ⟨k, hk⟩ := (hp t).mp q
        have : t - F - W * c = 0 := dvd_small (W := W) ⟨k - c, by grind⟩ (by omega) (by omega)
        omega
    rw [key]
    rfl
end NL

set_option maxRecDepth 100000
set_option maxHeartbeats 1000000
namespace K50
open PySem PF NL
def gv_ALL_NUMBERS : PyData := (.tuple [(.int (0)), (.int (1))])
/-! ### divisors -/
def w_common_divisor : WF
  | [.int a, .int b], k => k (.d (.int (Int.gcd a b)))
  | _, _ => False
theorem m_common_divisor : w_common_divisor.Mono := by
  intro xs k k' h q
  unfold w_common_divisor at q ⊢
  split <;> simp_all
def sp_common_divisor : ASp := spW w_common_divisor m_common_divisor
def lc_common_divisor_1 : E := (.cmp .ne (.var 1) (.int 0))
def lb_common_divisor_2 : Ss := (.cons (.par [0, 1] (.cons (.var 1) (.cons (.bin .mod (.var 0) (.var 1)) .nil)))
  .nil)
def b_common_divisor : Ss := (.cons (.par [0, 1] (.cons (.bi .abs (.cons (.var 0) .nil)) (.cons (.bi .abs (.cons (.var 1) .nil)) .nil)))
  (.cons (.whl lc_common_divisor_1 lb_common_divisor_2)
  (.cons (.ret (.var 0))
  .nil)))
theorem p_common_divisor : Body 2 2 [] b_common_divisor sp_common_divisor := by
  refine body_W (fun xs k h => ?_) fun xs k h => ?_
  · unfold w_common_divisor at h; split at h <;> simp_all
  unfold w_common_divisor at h
  split at h
  case h_2 => exact h.elim
  rename_i a b
  unfold b_common_divisor
  simp only [initE, List.map_cons, List.map_nil, List.length_cons, List.length_nil, Nat.reduceAdd, Nat.reduceSub, List.replicate, List.cons_append, List.nil_append]
  simp only [wSs, wS, wEs, wE, wIt, getE, setE, rdsK, rdK, biK, datasK, dataK, setMany, setNils, cmpK, binK, truthK, truth, ixK, tgK, seqK, lstK, retK, isTy, tyOf, endL, List.map_cons, List.map_nil, List.length_cons, List.length_nil, List.cons_append, List.nil_append, List.append_nil, Nat.reduceSub, Nat.reduceAdd, atI_0, atI_1, atI_2, set_0, set_2, call_W5, call_W4, call_W2, call_W2o, call_W1, call_W1o, call_W0, call_W3, call_L0, call_L1, call_L1o, call_L2, call_L3, Option.some.injEq]
  refine ⟨trivial, ?_⟩
  refine ⟨fun m env => ∃ x y : Int, env = [some (.d (.int x)), some (.d (.int y))] ∧ 0 ≤ x ∧ 0 ≤ y ∧ m = y.toNat ∧ Int.gcd x y = Int.gcd a b, ⟨_, _, _, rfl, ?_, ?_, rfl, ?_⟩, ?_⟩
  · split <;> omega
  · split <;> omega
  · split <;> split <;> simp [Int.gcd]
  · rintro m env ⟨x, y, rfl, hx, hy, rfl, hg⟩
    simp only [wSs, wS, wEs, wE, wIt, getE, setE, rdsK, rdK, biK, datasK, dataK, setMany, setNils, cmpK, binK, truthK, truth, ixK, tgK, seqK, lstK, retK, isTy, tyOf, endL, List.map_cons, List.map_nil, List.length_cons, List.length_nil, List.cons_append, List.nil_append, List.append_nil, Nat.reduceSub, Nat.reduceAdd, atI_0, atI_1, atI_2, set_0, set_2, call_W5, call_W4, call_W2, call_W2o, call_W1, call_W1o, call_W0, call_W3, call_L0, call_L1, call_L1o, call_L2, call_L3, Option.some.injEq, lc_common_divisor_1, lb_common_divisor_2]
    refine ⟨rfl, rfl, ?_⟩
    by_cases h0 : y = 0
    · subst h0
      simp only [PyData.eqv]
      simp only [Int.gcd_zero_right] at hg
      have e : x = ((Int.gcd a b : Nat) : Int) := by omega
      rw [e]
      exact h
    · rw [if_pos (by simp [PyData.eqv, h0])]
      have yp : 0 < y := by omega
      have e1 := Int.emod_nonneg x h0
      have e2 := Int.emod_lt_of_pos x yp
      refine ⟨_, fun env' q => q, h0, trivial, _, ?_, _, _, rfl, hy, ?_, rfl, ?_⟩
      · rw [fmod_p yp]; omega
      · rw [fmod_p yp]; exact e1
      · rw [← hg, fmod_p yp]; exact gcd_step
def w_common_multiple : WF
  | [.int a, .int b], k => (0 < a ∧ 0 < b ∧ sz 8000 a ∧ sz 8000 b) ∧ k (.d (.int (lcm2 a b)))
  | _, _ => False
theorem m_common_multiple : w_common_multiple.Mono := by
  intro xs k k' h q
  unfold w_common_multiple at q ⊢
  split <;> simp_all
def sp_common_multiple : ASp := spW w_common_multiple m_common_multiple
def b_common_multiple : Ss := (.cons (.ret (.bin .mul (.bin .fdiv (.var 0) (.call "common_divisor" sp_common_divisor (.cons (.var 0) (.cons (.var 1) .nil)))) (.var 1)))
  .nil)
theorem p_common_multiple : Body 2 2 [] b_common_multiple sp_common_multiple := by
  refine body_W (fun xs k h => ?_) fun xs k h => ?_
  · unfold w_common_multiple at h; split at h <;> simp_all
  unfold w_common_multiple at h
  split at h
  case h_2 => exact h.elim
  rename_i a b
  obtain ⟨⟨ha, hb, sa, sb⟩, h⟩ := h
  have gp := gcd_posR (u := a) hb
  have ok : divOk ((Int.gcd a b : Nat) : Int) := (sb.le (by omega) (gcd_leR hb)).divOk (by decide) (by omega)
  unfold b_common_multiple
  simp only [initE, List.map_cons, List.map_nil, List.length_cons, List.length_nil, Nat.reduceAdd, Nat.reduceSub, List.replicate, List.cons_append, List.nil_append]
  simp only [wSs, wS, wEs, wE, wIt, getE, setE, rdsK, rdK, biK, datasK, dataK, setMany, setNils, cmpK, binK, truthK, truth, ixK, tgK, seqK, lstK, retK, isTy, tyOf, endL, List.map_cons, List.map_nil, List.length_cons, List.length_nil, List.cons_append, List.nil_append, List.append_nil, Nat.reduceSub, Nat.reduceAdd, atI_0, atI_1, atI_2, set_0, set_2, call_W5, call_W4, call_W2, call_W2o, call_W1, call_W1o, call_W0, call_W3, call_L0, call_L1, call_L1o, call_L2, call_L3, Option.some.injEq, sp_common_divisor, w_common_divisor]
  rw [fdiv_p gp]
  exact ⟨ok, sa.div.mulOk sb (by decide), h⟩
/-! ### forms -/
def w_is_integer : WF
  | [.int _], k => k (.d (.bool true))
  | _, _ => False
theorem m_is_integer : w_is_integer.Mono := by
  intro xs k k' h q
  unfold w_is_integer at q ⊢
  split <;> simp_all
def sp_is_integer : ASp := spW w_is_integer m_is_integer
def b_is_integer : Ss := (.cons (.ret (.and (.inst (.var 0) [.int]) (.not (.inst (.var 0) [.bool]))))
  .nil)
theorem p_is_integer : Body 1 1 [] b_is_integer sp_is_integer := by
  refine body_W (fun xs k h => ?_) fun xs k h => ?_
  · unfold w_is_integer at h; split at h <;> simp_all
  unfold w_is_integer at h
  split at h
  case h_2 => exact h.elim
  unfold b_is_integer
  simp only [initE, List.map_cons, List.map_nil, List.length_cons, List.length_nil, Nat.reduceAdd, Nat.reduceSub, List.replicate, List.cons_append, List.nil_append]
  simp only [wSs, wS, wEs, wE, wIt, getE, setE, rdsK, rdK, biK, datasK, dataK, setMany, setNils, cmpK, binK, truthK, truth, ixK, tgK, seqK, lstK, retK, isTy, tyOf, endL, List.map_cons, List.map_nil, List.length_cons, List.length_nil, List.cons_append, List.nil_append, List.append_nil, Nat.reduceSub, Nat.reduceAdd, atI_0, atI_1, atI_2, set_0, set_2, call_W5, call_W4, call_W2, call_W2o, call_W1, call_W1o, call_W0, call_W3, call_L0, call_L1, call_L1o, call_L2, call_L3, Option.some.injEq]
  exact h
def w_is_from : WF
  | [.int lo, .int x], k => k (.d (.bool (decide (lo ≤ x))))
  | _, _ => False
theorem m_is_from : w_is_from.Mono := by
  intro xs k k' h q
  unfold w_is_from at q ⊢
  split <;> simp_all
def sp_is_from : ASp := spW w_is_from m_is_from
def b_is_from : Ss := (.cons (.ret (.and (.call "is_integer" sp_is_integer (.cons (.var 1) .nil)) (.cmp .ge (.var 1) (.var 0))))
  .nil)
theorem p_is_from : Body 2 2 [] b_is_from sp_is_from := by
  refine body_W (fun xs k h => ?_) fun xs k h => ?_
  · unfold w_is_from at h; split at h <;> simp_all
  unfold w_is_from at h
  split at h
  case h_2 => exact h.elim
  unfold b_is_from
  simp only [initE, List.map_cons, List.map_nil, List.length_cons, List.length_nil, Nat.reduceAdd, Nat.reduceSub, List.replicate, List.cons_append, List.nil_append]
  simp only [wSs, wS, wEs, wE, wIt, getE, setE, rdsK, rdK, biK, datasK, dataK, setMany, setNils, cmpK, binK, truthK, truth, ixK, tgK, seqK, lstK, retK, isTy, tyOf, endL, List.map_cons, List.map_nil, List.length_cons, List.length_nil, List.cons_append, List.nil_append, List.append_nil, Nat.reduceSub, Nat.reduceAdd, atI_0, atI_1, atI_2, set_0, set_2, call_W5, call_W4, call_W2, call_W2o, call_W1, call_W1o, call_W0, call_W3, call_L0, call_L1, call_L1o, call_L2, call_L3, Option.some.injEq, sp_is_integer, w_is_integer]
  exact h
end K50

set_option maxRecDepth 100000
set_option maxHeartbeats 1000000
namespace K50
open PySem PF NL
/-! ### inverses -/
structure IV (n m x y f l : Int) : Prop where
  x0 : 0 ≤ x
  y0 : 0 ≤ y
  xm : x ≤ m
  ym : y ≤ m
  g : Int.gcd x y = Int.gcd n m
  a : ∃ q, f * n = x + q * m
  b : ∃ q, l * n = y + q * m
  s : ∃ s u v : Int, (s = 1 ∨ s = -1) ∧ 0 ≤ u ∧ 0 ≤ v ∧ f = s * u ∧ l = -s * v ∧ x * v + y * u = m ∧ u ≤ m ∧ v ≤ m
theorem IV.start {n m : Int} (hm : 0 < m) : IV n m (n % m) m 1 0 := by
  have e1 := Int.emod_nonneg n (show m ≠ 0 by omega)
  have e2 := Int.emod_lt_of_pos n hm
  have e3 := Int.emod_add_mul_ediv n m
  refine ⟨e1, by omega, by omega, Int.le_refl _, ?_, ⟨n / m, by grind⟩, ⟨-1, by grind⟩, 1, 1, 0, .inl rfl, by decide, by decide, by decide, by decide, by grind, by omega, by omega⟩
  rw [Int.gcd_comm, gcd_step]
theorem IV.step {n m x y f l : Int} (h : IV n m x y f l) (hy : 0 < y) : IV n m y (x - x / y * y) l (f - x / y * l) := by
  obtain ⟨x0, y0, xm, ym, g, ⟨q1, a⟩, ⟨q2, b⟩, s, u, v, hs, hu, hv, ef, el, hb, um, vm⟩ := h
  have e1 := Int.emod_nonneg x (show y ≠ 0 by omega)
  have e2 := Int.emod_lt_of_pos x hy
  have e3 := Int.emod_add_mul_ediv x y
  have e4 : x - x / y * y = x % y := by grind
  have hq : 0 ≤ x / y := Int.ediv_nonneg x0 y0
  have hv' : 0 ≤ u + x / y * v := by
    have := Int.mul_nonneg hq hv
    omega
  have key : y * (u + x / y * v) + (x - x / y * y) * v = m := by grind
  refine ⟨y0, by omega, ym, by omega, ?_, ⟨q2, b⟩, ⟨q1 - x / y * q2, by grind⟩, -s, v, u + x / y * v, ?_, hv, hv', by grind, by grind, key, vm, ?_⟩
  · rw [e4, gcd_step]; exact g
  · rcases hs with rfl | rfl
    · exact .inr rfl
    · exact .inl rfl
  · have h1 : 1 * (u + x / y * v) ≤ y * (u + x / y * v) := Int.mul_le_mul_of_nonneg_right (by omega) hv'
    have h2 : 0 ≤ (x - x / y * y) * v := by rw [e4]; exact Int.mul_nonneg e1 hv
    omega
theorem IV.sizes {n m x y f l : Int} {k : Nat} (h : IV n m x y f l) (sm : sz k m) : sz k x ∧ sz k y ∧ sz k f ∧ sz k l := by
  obtain ⟨x0, y0, xm, ym, g, _, _, s, u, v, hs, hu, hv, ef, el, hb, um, vm⟩ := h
  refine ⟨sm.le x0 xm, sm.le y0 ym, ?_, ?_⟩
  · have := sm.le hu um
    subst ef
    rcases hs with rfl | rfl
    · rw [Int.one_mul]; exact this
    · rw [Int.neg_one_mul]; exact this.neg
  · have := sm.le hv vm
    subst el
    rcases hs with rfl | rfl
    · rw [show -(1 : Int) * v = -v by omega]; exact this.neg
    · rw [show -(-1 : Int) * v = v by omega]; exact this
def w_inverse_of : WF
  | [.int n, .int m], k => (0 < m ∧ sz 4000 m) ∧ ∀ r q, 0 ≤ r → r < m → r * n = Int.gcd n m + q * m → k (.d (.int r))
  | _, _ => False
theorem m_inverse_of : w_inverse_of.Mono := by
  intro xs k k' h q
  unfold w_inverse_of at q ⊢
  split at q
  · exact ⟨q.1, fun r q' a b c => h _ (q.2 r q' a b c)⟩
  · exact q.elim
def sp_inverse_of : ASp := spW w_inverse_of m_inverse_of
def lc_inverse_of_1 : E := (.cmp .ne (.var 3) (.int 0))
def u_inverse_of_2 : Ss := (.cons (.par [4, 5] (.cons (.var 5) (.cons (.bin .sub (.var 4) (.bin .mul (.var 6) (.var 5))) .nil)))
  .nil)
def u_inverse_of_3 : Ss := (.cons (.par [2, 3] (.cons (.var 3) (.cons (.bin .sub (.var 2) (.bin .mul (.var 6) (.var 3))) .nil)))
  u_inverse_of_2)
def lb_inverse_of_4 : Ss := (.cons (.asgF 6 (.bin .fdiv (.var 2) (.var 3)))
  u_inverse_of_3)
def b_inverse_of_3 : Ss := (.cons (.ret (.bin .mod (.var 4) (.var 1))) .nil)
def b_inverse_of_2 : Ss := (.cons (.whl lc_inverse_of_1 lb_inverse_of_4) b_inverse_of_3)
def b_inverse_of : Ss := (.cons (.par [2, 3, 4, 5] (.cons (.bin .mod (.var 0) (.var 1)) (.cons (.var 1) (.cons (.int 1) (.cons (.int 0) .nil))))) b_inverse_of_2)
theorem p_inverse_of : Body 2 7 [] b_inverse_of sp_inverse_of := by
  refine body_W (fun xs k h => ?_) fun xs k h => ?_
  · unfold w_inverse_of at h; split at h
    · rfl
    · exact h.elim
  unfold w_inverse_of at h
  split at h
  case h_2 => exact h.elim
  rename_i n m
  obtain ⟨⟨hm, sm⟩, h⟩ := h
  unfold b_inverse_of
  simp only [initE, List.map_cons, List.map_nil, List.length_cons, List.length_nil, Nat.reduceAdd, Nat.reduceSub, List.replicate, List.cons_append, List.nil_append]
  simp only [wSs, wS, wEs, wE, wIt, getE, setE, rdsK, rdK, biK, datasK, dataK, setMany, setNils, cmpK, binK, truthK, truth, ixK, tgK, seqK, lstK, retK, isTy, tyOf, endL, List.map_cons, List.map_nil, List.length_cons, List.length_nil, List.cons_append, List.nil_append, List.append_nil, Nat.reduceSub, Nat.reduceAdd, atI_0, atI_1, atI_2, set_0, set_2, call_W5, call_W4, call_W2, call_W2o, call_W1, call_W1o, call_W0, call_W3, call_L0, call_L1, call_L1o, call_L2, call_L3, Option.some.injEq]
  refine ⟨by omega, trivial, ?_⟩
  rw [fmod_p hm]
  unfold b_inverse_of_2
  simp only [wSs, wS]
  refine ⟨fun w env => ∃ (x y f l : Int) (s : Option AV), env = [some (.d (.int n)), some (.d (.int m)), some (.d (.int x)), some (.d (.int y)), some (.d (.int f)), some (.d (.int l)), s] ∧ w = y.toNat ∧ IV n m x y f l, ⟨_, _, _, _, _, _, rfl, rfl, .start hm⟩, ?_⟩
  rintro w env ⟨x, y, f, l, s, rfl, rfl, c⟩
  obtain ⟨sx, sy, sf, sl⟩ := c.sizes sm
  simp only [wSs, wS, wEs, wE, wIt, getE, setE, rdsK, rdK, biK, datasK, dataK, setMany, setNils, cmpK, binK, truthK, truth, ixK, tgK, seqK, lstK, retK, isTy, tyOf, endL, List.map_cons, List.map_nil, List.length_cons, List.length_nil, List.cons_append, List.nil_append, List.append_nil, Nat.reduceSub, Nat.reduceAdd, atI_0, atI_1, atI_2, set_0, set_2, call_W5, call_W4, call_W2, call_W2o, call_W1, call_W1o, call_W0, call_W3, call_L0, call_L1, call_L1o, call_L2, call_L3, Option.some.injEq, lc_inverse_of_1]
  refine ⟨rfl, rfl, ?_⟩
  by_cases h0 : y = 0
  · subst h0
    simp only [PyData.eqv]
    unfold b_inverse_of_3
    simp only [wSs, wS, wEs, wE, wIt, getE, setE, rdsK, rdK, biK, datasK, dataK, setMany, setNils, cmpK, binK, truthK, truth, ixK, tgK, seqK, lstK, retK, isTy, tyOf, endL, List.map_cons, List.map_nil, List.length_cons, List.length_nil, List.cons_append, List.nil_append, List.append_nil, Nat.reduceSub, Nat.reduceAdd, atI_0, atI_1, atI_2, set_0, set_2, call_W5, call_W4, call_W2, call_W2o, call_W1, call_W1o, call_W0, call_W3, call_L0, call_L1, call_L1o, call_L2, call_L3, Option.some.injEq]
    have hg := c.g
    rw [Int.gcd_zero_right] at hg
    have x0 := c.x0
    obtain ⟨q, ha⟩ := c.a
    refine ⟨by omega, ?_⟩
    rw [fmod_p hm]
    have e3 := Int.emod_add_mul_ediv f m
    refine h _ (q - f / m * n) (Int.emod_nonneg _ (by omega)) (Int.emod_lt_of_pos _ hm) ?_
    have : x = ((Int.gcd n m : Nat) : Int) := by omega
    grind
  · rw [if_pos (by simp [PyData.eqv, h0])]
    have y0 := c.y0
    have yp : 0 < y := by omega
    have sq : sz 4000 (x / y) := sx.div
    have st := c.step yp
    refine ⟨_, fun env' q => q, ?_⟩
    unfold lb_inverse_of_4
    simp only [wSs, wS, wEs, wE, wIt, getE, setE, rdsK, rdK, biK, datasK, dataK, setMany, setNils, cmpK, binK, truthK, truth, ixK, tgK, seqK, lstK, retK, isTy, tyOf, endL, List.map_cons, List.map_nil, List.length_cons, List.length_nil, List.cons_append, List.nil_append, List.append_nil, Nat.reduceSub, Nat.reduceAdd, atI_0, atI_1, atI_2, set_0, set_2, call_W5, call_W4, call_W2, call_W2o, call_W1, call_W1o, call_W0, call_W3, call_L0, call_L1, call_L1o, call_L2, call_L3, Option.some.injEq]
    refine ⟨sy.divOk (by decide) (by omega), ?_⟩
    rw [fdiv_p yp]
    unfold u_inverse_of_3
    simp only [wSs, wS, wEs, wE, wIt, getE, setE, rdsK, rdK, biK, datasK, dataK, setMany, setNils, cmpK, binK, truthK, truth, ixK, tgK, seqK, lstK, retK, isTy, tyOf, endL, List.map_cons, List.map_nil, List.length_cons, List.length_nil, List.cons_append, List.nil_append, List.append_nil, Nat.reduceSub, Nat.reduceAdd, atI_0, atI_1, atI_2, set_0, set_2, call_W5, call_W4, call_W2, call_W2o, call_W1, call_W1o, call_W0, call_W3, call_L0, call_L1, call_L1o, call_L2, call_L3, Option.some.injEq]
    refine ⟨sq.mulOk sy (by decide), trivial, ?_⟩
    unfold u_inverse_of_2
    simp only [wSs, wS, wEs, wE, wIt, getE, setE, rdsK, rdK, biK, datasK, dataK, setMany, setNils, cmpK, binK, truthK, truth, ixK, tgK, seqK, lstK, retK, isTy, tyOf, endL, List.map_cons, List.map_nil, List.length_cons, List.length_nil, List.cons_append, List.nil_append, List.append_nil, Nat.reduceSub, Nat.reduceAdd, atI_0, atI_1, atI_2, set_0, set_2, call_W5, call_W4, call_W2, call_W2o, call_W1, call_W1o, call_W0, call_W3, call_L0, call_L1, call_L1o, call_L2, call_L3, Option.some.injEq]
    refine ⟨sq.mulOk sl (by decide), trivial, _, ?_, _, _, _, _, _, rfl, rfl, st⟩
    have e4 : x - x / y * y = x % y := by
      have := Int.emod_add_mul_ediv x y
      have := Int.mul_comm y (x / y)
      omega
    have e2 := Int.emod_lt_of_pos x yp
    rw [e4]
    omega
/-! ### one congruence -/
def lenC (a m : Int) : Int := m / Int.gcd a m
def wTime (a b m : Int) (k : AV → Prop) : Prop := (0 < m ∧ sz 4000 m ∧ sz 4000 a ∧ sz 4000 b) ∧ ((∀ t, ¬ m ∣ a * t - b) → k (.d .none)) ∧ ∀ f, Sol (fun t => m ∣ a * t - b) f (lenC a m) → k (.d (tn f (lenC a m)))
def w_time_in : WF
  | [.int a, .int b, .int m], k => wTime a b m k
  | _, _ => False
theorem m_time_in : w_time_in.Mono := by
  intro xs k k' h q
  unfold w_time_in at q ⊢
  split at q
  · exact ⟨q.1, fun z => h _ (q.2.1 z), fun f z => h _ (q.2.2 f z)⟩
  · exact q.elim
def sp_time_in : ASp := spW w_time_in m_time_in
def b_time_in_4 : Ss := (.cons (.ret (.tup (.cons (.bin .mod (.bin .mul (.bin .fdiv (.var 1) (.var 3)) (.call "inverse_of" sp_inverse_of (.cons (.bin .fdiv (.var 0) (.var 3)) (.cons (.var 4) .nil)))) (.var 4)) (.cons (.var 4) .nil)))) .nil)
def b_time_in_3 : Ss := (.cons (.asgF 4 (.bin .fdiv (.var 2) (.var 3))) b_time_in_4)
def b_time_in_2 : Ss := (.cons (.ite (.cmp .ne (.bin .mod (.var 1) (.var 3)) (.int 0)) (.cons (.ret .none)
  .nil) .nil) b_time_in_3)
def b_time_in : Ss := (.cons (.asgF 3 (.call "common_divisor" sp_common_divisor (.cons (.var 0) (.cons (.var 2) .nil)))) b_time_in_2)
theorem p_time_in : Body 3 5 [] b_time_in sp_time_in := by
  refine body_W (fun xs k h => ?_) fun xs k h => ?_
  · unfold w_time_in at h; split at h
    · rfl
    · exact h.elim
  unfold w_time_in at h
  split at h
  case h_2 => exact h.elim
  rename_i a b m
  obtain ⟨⟨hm, sm, sa, sb⟩, hn, hs⟩ := h
  obtain ⟨g, n, L, gp, hg, ha, hL, ea, eL, Lp, co⟩ := cut_g (u := a) hm
  have sg : sz 4000 g := sm.le (by omega) (by rw [hg]; exact gcd_leR hm)
  have sL : sz 4000 L := by rw [← eL]; exact sm.div
  unfold b_time_in
  simp only [initE, List.map_cons, List.map_nil, List.length_cons, List.length_nil, Nat.reduceAdd, Nat.reduceSub, List.replicate, List.cons_append, List.nil_append]
  simp only [wSs, wS, wEs, wE, wIt, getE, setE, rdsK, rdK, biK, datasK, dataK, setMany, setNils, cmpK, binK, truthK, truth, ixK, tgK, seqK, lstK, retK, isTy, tyOf, endL, List.map_cons, List.map_nil, List.length_cons, List.length_nil, List.cons_append, List.nil_append, List.append_nil, Nat.reduceSub, Nat.reduceAdd, atI_0, atI_1, atI_2, set_0, set_2, call_W5, call_W4, call_W2, call_W2o, call_W1, call_W1o, call_W0, call_W3, call_L0, call_L1, call_L1o, call_L2, call_L3, Option.some.injEq, sp_common_divisor, w_common_divisor, ← hg]
  unfold b_time_in_2
  simp only [wSs, wS, wEs, wE, wIt, getE, setE, rdsK, rdK, biK, datasK, dataK, setMany, setNils, cmpK, binK, truthK, truth, ixK, tgK, seqK, lstK, retK, isTy, tyOf, endL, List.map_cons, List.map_nil, List.length_cons, List.length_nil, List.cons_append, List.nil_append, List.append_nil, Nat.reduceSub, Nat.reduceAdd, atI_0, atI_1, atI_2, set_0, set_2, call_W5, call_W4, call_W2, call_W2o, call_W1, call_W1o, call_W0, call_W3, call_L0, call_L1, call_L1o, call_L2, call_L3, Option.some.injEq]
  refine ⟨by omega, rfl, rfl, ?_⟩
  rw [fmod_p gp]
  by_cases h0 : b % g = 0
  · rw [h0]
    obtain ⟨c, hc⟩ := Int.dvd_of_emod_eq_zero h0
    have ec : b / g = c := Int.ediv_eq_of_eq_mul_right (by omega) hc
    have sc : sz 4000 c := by rw [← ec]; exact sb.div
    have ok := sg.divOk (by decide) (by omega)
    rw [if_neg (by simp [PyData.eqv])]
    unfold b_time_in_3
    simp only [wSs, wS, wEs, wE, wIt, getE, setE, rdsK, rdK, biK, datasK, dataK, setMany, setNils, cmpK, binK, truthK, truth, ixK, tgK, seqK, lstK, retK, isTy, tyOf, endL, List.map_cons, List.map_nil, List.length_cons, List.length_nil, List.cons_append, List.nil_append, List.append_nil, Nat.reduceSub, Nat.reduceAdd, atI_0, atI_1, atI_2, set_0, set_2, call_W5, call_W4, call_W2, call_W2o, call_W1, call_W1o, call_W0, call_W3, call_L0, call_L1, call_L1o, call_L2, call_L3, Option.some.injEq]
    rw [fdiv_p gp, hg, eL]
    refine ⟨by rw [← hg]; exact ok, ?_⟩
    unfold b_time_in_4
    simp only [wSs, wS, wEs, wE, wIt, getE, setE, rdsK, rdK, biK, datasK, dataK, setMany, setNils, cmpK, binK, truthK, truth, ixK, tgK, seqK, lstK, retK, isTy, tyOf, endL, List.map_cons, List.map_nil, List.length_cons, List.length_nil, List.cons_append, List.nil_append, List.append_nil, Nat.reduceSub, Nat.reduceAdd, atI_0, atI_1, atI_2, set_0, set_2, call_W5, call_W4, call_W2, call_W2o, call_W1, call_W1o, call_W0, call_W3, call_L0, call_L1, call_L1o, call_L2, call_L3, Option.some.injEq, sp_inverse_of, w_inverse_of]
    rw [← hg, fdiv_p gp, fdiv_p gp, ec, hg, ea]
    rw [← hg]
    refine ⟨ok, ok, ⟨Lp, sL⟩, fun r q r0 r1 hr => ?_⟩
    rw [co] at hr
    refine ⟨sc.mulOk (sL.le r0 (by omega)) (by decide), by omega, ?_⟩
    rw [fmod_p Lp]
    have := hs ((c * r) % L)
    unfold lenC at this
    rw [eL] at this
    refine this ⟨Int.emod_nonneg _ (by omega), Int.emod_lt_of_pos _ Lp, fun t => ?_⟩
    rw [ha, hL, hc]
    exact tim_some gp (q := q) (by simpa using hr)
  · rw [if_pos (by simp [PyData.eqv, h0])]
    refine hn fun t ht => h0 ?_
    rw [ha, hL] at ht
    exact Int.emod_eq_zero_of_dvd (tim_none ht)
end K50

set_option maxRecDepth 100000
set_option maxHeartbeats 1000000
namespace K50
open PySem PF NL
/-! ### progressions in common -/
def inP (x : Int) (p : Int × Int) : Prop := p.2 ∣ x - p.1
def pd (p : Int × Int) : PyData := tn p.1 p.2
def okP (n : Nat) (p : Int × Int) : Prop := 0 < p.2 ∧ sz n p.1 ∧ sz n p.2
def w_both_in : WF := fun xs k => ∃ p q : Int × Int, xs = [pd p, pd q] ∧ okP 1950 p ∧ okP 1950 q ∧ ((∀ x, ¬ (inP x p ∧ inP x q)) → k (.d .none)) ∧ ∀ F, Sol (fun x => inP x p ∧ inP x q) F (lcm2 p.2 q.2) → k (.d (tn F (lcm2 p.2 q.2)))
theorem m_both_in : w_both_in.Mono := fun xs k k' h ⟨p, q, h1, h2, h3, h4, h5⟩ => ⟨p, q, h1, h2, h3, fun z => h _ (h4 z), fun F z => h _ (h5 F z)⟩
def sp_both_in : ASp := spW w_both_in m_both_in
def b_both_in_5 : Ss := (.cons (.ret (.tup (.cons (.bin .mod (.bin .add (.var 4) (.bin .mul (.ix (.var 2) (.int 0)) (.var 5))) (.var 3)) (.cons (.var 3) .nil)))) .nil)
def b_both_in_4 : Ss := (.cons (.asgF 3 (.call "common_multiple" sp_common_multiple (.cons (.var 5) (.cons (.ix (.var 1) (.int 1)) .nil)))) b_both_in_5)
def b_both_in_3 : Ss := (.cons (.ite (.cmp .is (.var 2) .none) (.cons (.ret .none)
  .nil) .nil) b_both_in_4)
def b_both_in_2 : Ss := (.cons (.asgF 2 (.call "time_in" sp_time_in (.cons (.var 5) (.cons (.bin .sub (.ix (.var 1) (.int 0)) (.var 4)) (.cons (.ix (.var 1) (.int 1)) .nil))))) b_both_in_3)
def b_both_in : Ss := (.cons (.unp [4, 5] (.var 0)) b_both_in_2)
theorem p_both_in : Body 2 6 [] b_both_in sp_both_in := by
  refine body_W (fun xs k h => ?_) fun xs k h => ?_
  · obtain ⟨p, q, rfl, _⟩ := h; rfl
  obtain ⟨⟨f1, L1⟩, ⟨f2, L2⟩, rfl, ⟨p1, sf1, sL1⟩, ⟨p2, sf2, sL2⟩, hn, hs⟩ := h
  simp only at p1 sf1 sL1 p2 sf2 sL2
  obtain ⟨g, M, N, gp, hg, e1, hN, e2, e3, Mp, co⟩ := lcm2_eq (w := L1) p2
  have sW : sz 3900 (lcm2 L1 L2) := (sL1.mul sL2).le (Int.le_of_lt (lcm2_pos p1 p2)) (lcm2_le p1 p2)
  unfold b_both_in pd tn
  simp only [initE, List.map_cons, List.map_nil, List.length_cons, List.length_nil, Nat.reduceAdd, Nat.reduceSub, List.replicate, List.cons_append, List.nil_append]
  simp only [wSs, wS, wEs, wE, wIt, getE, setE, rdsK, rdK, biK, datasK, dataK, setMany, setNils, cmpK, binK, truthK, truth, ixK, tgK, seqK, lstK, retK, isTy, tyOf, endL, List.map_cons, List.map_nil, List.length_cons, List.length_nil, List.cons_append, List.nil_append, List.append_nil, Nat.reduceSub, Nat.reduceAdd, atI_0, atI_1, atI_2, set_0, set_2, call_W5, call_W4, call_W2, call_W2o, call_W1, call_W1o, call_W0, call_W3, call_L0, call_L1, call_L1o, call_L2, call_L3, Option.some.injEq]
  refine ⟨trivial, ?_⟩
  unfold b_both_in_2
  simp only [wSs, wS, wEs, wE, wIt, getE, setE, rdsK, rdK, biK, datasK, dataK, setMany, setNils, cmpK, binK, truthK, truth, ixK, tgK, seqK, lstK, retK, isTy, tyOf, endL, List.map_cons, List.map_nil, List.length_cons, List.length_nil, List.cons_append, List.nil_append, List.append_nil, Nat.reduceSub, Nat.reduceAdd, atI_0, atI_1, atI_2, set_0, set_2, call_W5, call_W4, call_W2, call_W2o, call_W1, call_W1o, call_W0, call_W3, call_L0, call_L1, call_L1o, call_L2, call_L3, Option.some.injEq, sp_time_in, w_time_in]
  refine ⟨⟨p2, sL2.mono (by decide), sL1.mono (by decide), (sf2.sub sf1).mono (by decide)⟩, fun z => ?_, fun t ht => ?_⟩
  · unfold b_both_in_3
    simp only [wSs, wS, wEs, wE, wIt, getE, setE, rdsK, rdK, biK, datasK, dataK, setMany, setNils, cmpK, binK, truthK, truth, ixK, tgK, seqK, lstK, retK, isTy, tyOf, endL, List.map_cons, List.map_nil, List.length_cons, List.length_nil, List.cons_append, List.nil_append, List.append_nil, Nat.reduceSub, Nat.reduceAdd, atI_0, atI_1, atI_2, set_0, set_2, call_W5, call_W4, call_W2, call_W2o, call_W1, call_W1o, call_W0, call_W3, call_L0, call_L1, call_L1o, call_L2, call_L3, Option.some.injEq, if_true]
    exact hn fun x => both_none z
  · unfold b_both_in_3 tn
    simp only [wSs, wS, wEs, wE, wIt, getE, setE, rdsK, rdK, biK, datasK, dataK, setMany, setNils, cmpK, binK, truthK, truth, ixK, tgK, seqK, lstK, retK, isTy, tyOf, endL, List.map_cons, List.map_nil, List.length_cons, List.length_nil, List.cons_append, List.nil_append, List.append_nil, Nat.reduceSub, Nat.reduceAdd, atI_0, atI_1, atI_2, set_0, set_2, call_W5, call_W4, call_W2, call_W2o, call_W1, call_W1o, call_W0, call_W3, call_L0, call_L1, call_L1o, call_L2, call_L3, Option.some.injEq, Bool.false_eq_true, if_false]
    unfold b_both_in_4
    simp only [wSs, wS, wEs, wE, wIt, getE, setE, rdsK, rdK, biK, datasK, dataK, setMany, setNils, cmpK, binK, truthK, truth, ixK, tgK, seqK, lstK, retK, isTy, tyOf, endL, List.map_cons, List.map_nil, List.length_cons, List.length_nil, List.cons_append, List.nil_append, List.append_nil, Nat.reduceSub, Nat.reduceAdd, atI_0, atI_1, atI_2, set_0, set_2, call_W5, call_W4, call_W2, call_W2o, call_W1, call_W1o, call_W0, call_W3, call_L0, call_L1, call_L1o, call_L2, call_L3, Option.some.injEq, sp_common_multiple, w_common_multiple]
    refine ⟨⟨p1, p2, sL1.mono (by decide), sL2.mono (by decide)⟩, ?_⟩
    unfold b_both_in_5
    simp only [wSs, wS, wEs, wE, wIt, getE, setE, rdsK, rdK, biK, datasK, dataK, setMany, setNils, cmpK, binK, truthK, truth, ixK, tgK, seqK, lstK, retK, isTy, tyOf, endL, List.map_cons, List.map_nil, List.length_cons, List.length_nil, List.cons_append, List.nil_append, List.append_nil, Nat.reduceSub, Nat.reduceAdd, atI_0, atI_1, atI_2, set_0, set_2, call_W5, call_W4, call_W2, call_W2o, call_W1, call_W1o, call_W0, call_W3, call_L0, call_L1, call_L1o, call_L2, call_L3, Option.some.injEq]
    obtain ⟨t0, t1, ht⟩ := ht
    have sT : sz 1950 t := sL2.le t0 (by
      have : lenC L1 L2 ≤ L2 := by
        unfold lenC
        rw [e3, e1]
        have := Int.mul_le_mul_of_nonneg_right (show 1 ≤ g by omega) (show 0 ≤ M by omega)
        omega
      omega)
    have Wp := lcm2_pos p1 p2
    refine ⟨sT.mulOk sL1 (by decide), by omega, ?_⟩
    rw [fmod_p Wp]
    refine hs _ ⟨Int.emod_nonneg _ (by omega), Int.emod_lt_of_pos _ Wp, fun x => ?_⟩
    unfold lenC at ht
    rw [e3] at ht
    show (L1 ∣ x - f1 ∧ L2 ∣ x - f2) ↔ _
    have := both_some (x := x) p1 e1 ht
    rw [← e2] at this
    exact this
def allP (ps : List (Int × Int)) (x : Int) : Prop := ∀ p ∈ ps, inP x p
def lens (ps : List (Int × Int)) : List Int := ps.map (·.2)
def w_joint_in : WF := fun xs k => ∃ ps : List (Int × Int), xs = [.list (ps.map pd)] ∧ (∀ p ∈ ps, 0 < p.2 ∧ sz 1949 p.1) ∧ sz 1949 (prodL (lens ps)) ∧ ((∀ x, ¬ allP ps x) → k (.d .none)) ∧ ∀ F, Sol (allP ps) F (lcmL (lens ps)) → k (.d (tn F (lcmL (lens ps))))
theorem m_joint_in : w_joint_in.Mono := fun xs k k' h ⟨ps, h1, h2, h3, h4, h5⟩ => ⟨ps, h1, h2, h3, fun z => h _ (h4 z), fun F z => h _ (h5 F z)⟩
def sp_joint_in : ASp := spW w_joint_in m_joint_in
def u_joint_in_1 : Ss := (.cons (.ite (.cmp .is (.var 1) .none) (.cons (.ret .none)
  .nil) .nil)
  .nil)
def lb_joint_in_2 : Ss := (.cons (.asgF 1 (.call "both_in" sp_both_in (.cons (.var 1) (.cons (.var 2) .nil))))
  u_joint_in_1)
def b_joint_in_3 : Ss := (.cons (.ret (.var 1)) .nil)
def b_joint_in_2 : Ss := (.cons (.forS (.nm 2) (.seq (.var 0)) lb_joint_in_2) b_joint_in_3)
def b_joint_in : Ss := (.cons (.asgF 1 (.glob "ALL_NUMBERS" gv_ALL_NUMBERS)) b_joint_in_2)
theorem p_joint_in : Body 1 3 [] b_joint_in sp_joint_in := by
  refine body_W (fun xs k h => ?_) fun xs k h => ?_
  · obtain ⟨p, rfl, _⟩ := h; rfl
  obtain ⟨ps, rfl, hp, hl, hn, hs⟩ := h
  unfold b_joint_in
  simp only [initE, List.map_cons, List.map_nil, List.length_cons, List.length_nil, Nat.reduceAdd, Nat.reduceSub, List.replicate, List.cons_append, List.nil_append]
  simp only [wSs, wS, wEs, wE, wIt, getE, setE, rdsK, rdK, biK, datasK, dataK, setMany, setNils, cmpK, binK, truthK, truth, ixK, tgK, seqK, lstK, retK, isTy, tyOf, endL, List.map_cons, List.map_nil, List.length_cons, List.length_nil, List.cons_append, List.nil_append, List.append_nil, Nat.reduceSub, Nat.reduceAdd, atI_0, atI_1, atI_2, set_0, set_2, call_W5, call_W4, call_W2, call_W2o, call_W1, call_W1o, call_W0, call_W3, call_L0, call_L1, call_L1o, call_L2, call_L3, Option.some.injEq]
  unfold b_joint_in_2
  simp only [wSs, wS, wEs, wE, wIt, getE, setE, rdsK, rdK, biK, datasK, dataK, setMany, setNils, cmpK, binK, truthK, truth, ixK, tgK, seqK, lstK, retK, isTy, tyOf, endL, List.map_cons, List.map_nil, List.length_cons, List.length_nil, List.cons_append, List.nil_append, List.append_nil, Nat.reduceSub, Nat.reduceAdd, atI_0, atI_1, atI_2, set_0, set_2, call_W5, call_W4, call_W2, call_W2o, call_W1, call_W1o, call_W0, call_W3, call_L0, call_L1, call_L1o, call_L2, call_L3, Option.some.injEq]
  have lpos : ∀ ds : List (Int × Int), (∀ p ∈ ds, p ∈ ps) → ∀ l ∈ lens ds, 0 < l := fun ds hd l hl => by
    obtain ⟨p, h1, rfl⟩ := List.mem_map.mp hl
    exact (hp p (hd p h1)).1
  have szL : ∀ ds rs : List (Int × Int), ps = ds ++ rs → 0 < lcmL (lens ds) ∧ sz 1950 (lcmL (lens ds)) := fun ds rs e => by
    have h1 := lpos ds fun p hp => by rw [e]; exact List.mem_append_left _ hp
    have h2 := lpos rs fun p hp => by rw [e]; exact List.mem_append_right _ hp
    refine ⟨lcmL_pos h1, (hl.le (Int.le_of_lt (lcmL_pos h1)) (Int.le_trans (lcmL_le h1) ?_)).mono (by decide)⟩
    have := prodL_left h1 h2
    unfold lens at this ⊢
    rw [e, List.map_append]
    exact this
  refine for_inv (fun xs env => ∃ (ds rs : List (Int × Int)) (F : Int) (s : Option AV), ps = ds ++ rs ∧ xs = rs.map pd ∧ env = [some (.d (.list (ps.map pd))), some (.d (tn F (lcmL (lens ds)))), s] ∧ Sol (allP ds) F (lcmL (lens ds))) (fun env D D' => body_mono env D D') ?_ ?_ ⟨[], ps, 0, _, rfl, rfl, rfl, by decide, by decide, fun x => ?_⟩
  · rintro env ⟨ds, rs, F, s, e, e2, rfl, so⟩
    have : rs = [] := by simpa using e2.symm
    subst this
    rw [List.append_nil] at e
    subst e
    unfold b_joint_in_3
    simp only [wSs, wS, wEs, wE, wIt, getE, setE, rdsK, rdK, biK, datasK, dataK, setMany, setNils, cmpK, binK, truthK, truth, ixK, tgK, seqK, lstK, retK, isTy, tyOf, endL, List.map_cons, List.map_nil, List.length_cons, List.length_nil, List.cons_append, List.nil_append, List.append_nil, Nat.reduceSub, Nat.reduceAdd, atI_0, atI_1, atI_2, set_0, set_2, call_W5, call_W4, call_W2, call_W2o, call_W1, call_W1o, call_W0, call_W3, call_L0, call_L1, call_L1o, call_L2, call_L3, Option.some.injEq]
    exact hs F so
  · rintro x xs env ⟨ds, rs, F, s, e, e2, rfl, so⟩
    cases rs with
    | nil => cases e2
    | cons p rs =>
      simp only [List.map_cons, List.cons.injEq] at e2
      obtain ⟨rfl, rfl⟩ := e2
      have hm : p ∈ ps := by rw [e]; simp
      have hds : ∀ q ∈ ds, q ∈ ps := fun q hq => by rw [e]; exact List.mem_append_left _ hq
      obtain ⟨Wp, sW⟩ := szL ds (p :: rs) e
      obtain ⟨pp, s1⟩ := hp p hm
      have s2 : sz 1949 p.2 := hl.le (by omega) (prodL_mem (lpos ps fun _ h => h) (List.mem_map.mpr ⟨p, hm, rfl⟩))
      simp only [wSs, wS, wEs, wE, wIt, getE, setE, rdsK, rdK, biK, datasK, dataK, setMany, setNils, cmpK, binK, truthK, truth, ixK, tgK, seqK, lstK, retK, isTy, tyOf, endL, List.map_cons, List.map_nil, List.length_cons, List.length_nil, List.cons_append, List.nil_append, List.append_nil, Nat.reduceSub, Nat.reduceAdd, atI_0, atI_1, atI_2, set_0, set_2, call_W5, call_W4, call_W2, call_W2o, call_W1, call_W1o, call_W0, call_W3, call_L0, call_L1, call_L1o, call_L2, call_L3, Option.some.injEq]
      unfold lb_joint_in_2
      simp only [wSs, wS, wEs, wE, wIt, getE, setE, rdsK, rdK, biK, datasK, dataK, setMany, setNils, cmpK, binK, truthK, truth, ixK, tgK, seqK, lstK, retK, isTy, tyOf, endL, List.map_cons, List.map_nil, List.length_cons, List.length_nil, List.cons_append, List.nil_append, List.append_nil, Nat.reduceSub, Nat.reduceAdd, atI_0, atI_1, atI_2, set_0, set_2, call_W5, call_W4, call_W2, call_W2o, call_W1, call_W1o, call_W0, call_W3, call_L0, call_L1, call_L1o, call_L2, call_L3, Option.some.injEq, sp_both_in]
      have el : lcmL (lens (ds ++ [p])) = lcm2 (lcmL (lens ds)) p.2 := by
        unfold lens
        rw [List.map_append]
        exact lcmL_snoc _ _
      have ea : ∀ x, allP (ds ++ [p]) x ↔ inP x (F, lcmL (lens ds)) ∧ inP x p := fun x => by
        unfold allP inP
        constructor
        · intro h
          exact ⟨(so.2.2 x).mp fun q hq => h q (List.mem_append_left _ hq), h p (by simp)⟩
        · rintro ⟨h1, h2⟩ q hq
          rcases List.mem_append.mp hq with z | z
          · exact (so.2.2 x).mpr h1 q z
          · simp at z; subst z; exact h2
      refine ⟨(F, lcmL (lens ds)), p, rfl, ⟨Wp, sW.le so.1 (Int.le_of_lt so.2.1), sW⟩, ⟨pp, s1.mono (by decide), s2.mono (by decide)⟩, fun z => ?_, fun F' so' => ?_⟩
      · unfold u_joint_in_1
        simp only [wSs, wS, wEs, wE, wIt, getE, setE, rdsK, rdK, biK, datasK, dataK, setMany, setNils, cmpK, binK, truthK, truth, ixK, tgK, seqK, lstK, retK, isTy, tyOf, endL, List.map_cons, List.map_nil, List.length_cons, List.length_nil, List.cons_append, List.nil_append, List.append_nil, Nat.reduceSub, Nat.reduceAdd, atI_0, atI_1, atI_2, set_0, set_2, call_W5, call_W4, call_W2, call_W2o, call_W1, call_W1o, call_W0, call_W3, call_L0, call_L1, call_L1o, call_L2, call_L3, Option.some.injEq, if_true]
        refine hn fun x hx => z x ((ea x).mp fun q hq => hx q ?_)
        rw [e]
        rcases List.mem_append.mp hq with h1 | h1
        · exact List.mem_append_left _ h1
        · simp at h1; subst h1; simp
      · unfold u_joint_in_1 tn
        simp only [wSs, wS, wEs, wE, wIt, getE, setE, rdsK, rdK, biK, datasK, dataK, setMany, setNils, cmpK, binK, truthK, truth, ixK, tgK, seqK, lstK, retK, isTy, tyOf, endL, List.map_cons, List.map_nil, List.length_cons, List.length_nil, List.cons_append, List.nil_append, List.append_nil, Nat.reduceSub, Nat.reduceAdd, atI_0, atI_1, atI_2, set_0, set_2, call_W5, call_W4, call_W2, call_W2o, call_W1, call_W1o, call_W0, call_W3, call_L0, call_L1, call_L1o, call_L2, call_L3, Option.some.injEq, Bool.false_eq_true, if_false]
        refine ⟨ds ++ [p], rs, F', some (.d (pd p)), by rw [e]; simp, rfl, ?_, ?_⟩
        · rw [el]
        · rw [el]
          exact ⟨so'.1, so'.2.1, fun x => (ea x).trans (so'.2.2 x)⟩
  · show allP [] x ↔ (1 : Int) ∣ x - 0
    exact ⟨fun _ => Int.one_dvd _, fun _ p hp => by cases hp⟩
end K50

set_option maxRecDepth 100000
set_option maxHeartbeats 1000000
namespace K50
open PySem PF NL
def w_is_between : WF
  | [.int lo, .int x, .int hi], k => k (.d (.bool (decide (lo ≤ x) && decide (x ≤ hi))))
  | _, _ => False
theorem m_is_between : w_is_between.Mono := by
  intro xs k k' h q
  unfold w_is_between at q ⊢
  split <;> simp_all
def sp_is_between : ASp := spW w_is_between m_is_between
def b_is_between : Ss := (.cons (.ret (.and (.call "is_integer" sp_is_integer (.cons (.var 1) .nil)) (.chain .le .le (.var 0) (.var 1) (.var 2))))
  .nil)
theorem p_is_between : Body 3 3 [] b_is_between sp_is_between := by
  refine body_W (fun xs k h => ?_) fun xs k h => ?_
  · unfold w_is_between at h; split at h <;> simp_all
  unfold w_is_between at h
  split at h
  case h_2 => exact h.elim
  rename_i lo x hi
  unfold b_is_between
  simp only [initE, List.map_cons, List.map_nil, List.length_cons, List.length_nil, Nat.reduceAdd, Nat.reduceSub, List.replicate, List.cons_append, List.nil_append]
  simp -implicitDefEqProofs only [V.rd_d, V.rd_o, V.rd_b, V.da_d, V.da_o, V.das_n, V.das_c, V.rds_n, V.rds_c, V.tr_b, V.tr_i, V.tr_n, V.tr_l, V.tr_t, V.tr_o, V.bn_add, V.bn_sub, V.bn_mul, V.bn_fdiv, V.bn_mod, V.bn_pow, V.bn_cat, V.cp_eq, V.cp_ne, V.cp_lt, V.cp_le, V.cp_gt, V.cp_ge, V.cp_in, V.cp_nin, V.is_n, V.isn_n, V.is_b, V.isn_b, V.is_i, V.isn_i, V.is_s, V.isn_s, V.is_l, V.isn_l, V.is_t, V.isn_t, V.is_bb, V.isn_bb, V.ix_l, V.ix_t, V.sl_l, V.bi_len, V.bi_lent, V.bi_abs, V.bi_max2, V.bi_min2, V.bi_int, V.bi_intb, V.bi_list, V.bi_listt, V.bi_tup, V.bi_tupt, V.bi_sum, V.bi_any, V.bi_all, V.bi_min1, V.bi_max1, V.bi_sorted, V.bi_repr, V.sq_d, V.sq_t, V.sq_o, V.ls_d, V.ls_o, V.tg_n, V.tg_t, V.vd_0, V.vo_0, V.vd_1, V.vo_1, V.vd_2, V.vo_2, V.vd_3, V.vo_3, V.vd_4, V.vo_4, V.vd_5, V.vo_5, V.vd_6, V.vo_6, V.vd_7, V.vo_7, V.vd_8, V.vo_8, V.vd_9, V.vo_9, V.vd_10, V.vo_10, V.vd_11, V.vo_11, V.vd_12, V.vo_12, V.vd_13, V.vo_13, V.vd_14, V.vo_14, V.vd_15, V.vo_15, V.e_int, V.e_bool, V.e_none, V.e_str, V.e_glob, V.e_bin, V.e_not, V.e_and, V.e_or, V.e_cmp, V.e_chain, V.e_ife, V.e_tup, V.e_lst, V.e_ix, V.e_call, V.e_callK, V.e_bi, V.e_inst, V.e_comp, V.ng, V.e_neg, V.e_slU, V.e_slL, V.e_lrg1, V.e_lrg3, V.es_n, V.es_c, V.it_seq, V.it_r1, V.it_r2, V.it_en, V.it_zip, V.ss_n, V.ss_c, V.s_asgF, V.kp_d, V.kp_o, V.s_asg, V.s_par, V.s_parN, V.tp_d, V.s_unp, V.s_expr, V.s_ret, V.s_retN, V.s_ite, V.s_for, V.s_pass, V.s_brk, V.s_cont, V.fz_0, V.ow_0, V.ap_0, V.fz_1, V.ow_1, V.ap_1, V.fz_2, V.ow_2, V.ap_2, V.fz_3, V.ow_3, V.ap_3, V.fz_4, V.ow_4, V.ap_4, V.fz_5, V.ow_5, V.ap_5, V.fz_6, V.ow_6, V.ap_6, V.fz_7, V.ow_7, V.ap_7, V.fz_8, V.ow_8, V.ap_8, V.fz_9, V.ow_9, V.ap_9, V.fz_10, V.ow_10, V.ap_10, V.fz_11, V.ow_11, V.ap_11, V.fz_12, V.ow_12, V.ap_12, V.fz_13, V.ow_13, V.ap_13, V.fz_14, V.ow_14, V.ap_14, V.fz_15, V.ow_15, V.ap_15, getE, setE, setMany, setNils, isTy, tyOf, List.map_cons, List.map_nil, List.length_cons, List.length_nil, List.cons_append, List.nil_append, List.append_nil, Nat.reduceSub, Nat.reduceAdd, atI_0, atI_1, atI_2, call_W5, call_W4, call_W2, call_W2o, call_W1, call_W1o, call_W0, call_W3, call_L0, call_L1, call_L1o, call_L2, call_L3, Option.some.injEq, sp_is_integer, w_is_integer, if_true]
  by_cases h0 : lo ≤ x
  · simp only [h0, decide_true, if_true, Bool.true_and] at h ⊢
    exact h
  · simp only [h0, decide_false, Bool.false_eq_true, if_false, Bool.false_and] at h ⊢
    exact h
def w_check_count : WF
  | [.int x], k => 0 ≤ x ∧ k (.d .none)
  | _, _ => False
theorem m_check_count : w_check_count.Mono := by
  intro xs k k' h q
  unfold w_check_count at q ⊢
  split <;> simp_all
def sp_check_count : ASp := spW w_check_count m_check_count
def b_check_count : Ss := (.cons (.ite (.not (.call "is_from" sp_is_from (.cons (.int 0) (.cons (.var 0) .nil)))) (.cons (.raise "InvalidCount")
  .nil) .nil)
  .nil)
theorem p_check_count : Body 1 1 [] b_check_count sp_check_count := by
  refine body_W (fun xs k h => ?_) fun xs k h => ?_
  · unfold w_check_count at h; split at h <;> simp_all
  unfold w_check_count at h
  split at h
  case h_2 => exact h.elim
  rename_i x
  obtain ⟨h0, h⟩ := h
  unfold b_check_count
  simp only [initE, List.map_cons, List.map_nil, List.length_cons, List.length_nil, Nat.reduceAdd, Nat.reduceSub, List.replicate, List.cons_append, List.nil_append]
  simp -implicitDefEqProofs only [V.rd_d, V.rd_o, V.rd_b, V.da_d, V.da_o, V.das_n, V.das_c, V.rds_n, V.rds_c, V.tr_b, V.tr_i, V.tr_n, V.tr_l, V.tr_t, V.tr_o, V.bn_add, V.bn_sub, V.bn_mul, V.bn_fdiv, V.bn_mod, V.bn_pow, V.bn_cat, V.cp_eq, V.cp_ne, V.cp_lt, V.cp_le, V.cp_gt, V.cp_ge, V.cp_in, V.cp_nin, V.is_n, V.isn_n, V.is_b, V.isn_b, V.is_i, V.isn_i, V.is_s, V.isn_s, V.is_l, V.isn_l, V.is_t, V.isn_t, V.is_bb, V.isn_bb, V.ix_l, V.ix_t, V.sl_l, V.bi_len, V.bi_lent, V.bi_abs, V.bi_max2, V.bi_min2, V.bi_int, V.bi_intb, V.bi_list, V.bi_listt, V.bi_tup, V.bi_tupt, V.bi_sum, V.bi_any, V.bi_all, V.bi_min1, V.bi_max1, V.bi_sorted, V.bi_repr, V.sq_d, V.sq_t, V.sq_o, V.ls_d, V.ls_o, V.tg_n, V.tg_t, V.vd_0, V.vo_0, V.vd_1, V.vo_1, V.vd_2, V.vo_2, V.vd_3, V.vo_3, V.vd_4, V.vo_4, V.vd_5, V.vo_5, V.vd_6, V.vo_6, V.vd_7, V.vo_7, V.vd_8, V.vo_8, V.vd_9, V.vo_9, V.vd_10, V.vo_10, V.vd_11, V.vo_11, V.vd_12, V.vo_12, V.vd_13, V.vo_13, V.vd_14, V.vo_14, V.vd_15, V.vo_15, V.e_int, V.e_bool, V.e_none, V.e_str, V.e_glob, V.e_bin, V.e_not, V.e_and, V.e_or, V.e_cmp, V.e_chain, V.e_ife, V.e_tup, V.e_lst, V.e_ix, V.e_call, V.e_callK, V.e_bi, V.e_inst, V.e_comp, V.ng, V.e_neg, V.e_slU, V.e_slL, V.e_lrg1, V.e_lrg3, V.es_n, V.es_c, V.it_seq, V.it_r1, V.it_r2, V.it_en, V.it_zip, V.ss_n, V.ss_c, V.s_asgF, V.kp_d, V.kp_o, V.s_asg, V.s_par, V.s_parN, V.tp_d, V.s_unp, V.s_expr, V.s_ret, V.s_retN, V.s_ite, V.s_for, V.s_pass, V.s_brk, V.s_cont, V.fz_0, V.ow_0, V.ap_0, V.fz_1, V.ow_1, V.ap_1, V.fz_2, V.ow_2, V.ap_2, V.fz_3, V.ow_3, V.ap_3, V.fz_4, V.ow_4, V.ap_4, V.fz_5, V.ow_5, V.ap_5, V.fz_6, V.ow_6, V.ap_6, V.fz_7, V.ow_7, V.ap_7, V.fz_8, V.ow_8, V.ap_8, V.fz_9, V.ow_9, V.ap_9, V.fz_10, V.ow_10, V.ap_10, V.fz_11, V.ow_11, V.ap_11, V.fz_12, V.ow_12, V.ap_12, V.fz_13, V.ow_13, V.ap_13, V.fz_14, V.ow_14, V.ap_14, V.fz_15, V.ow_15, V.ap_15, getE, setE, setMany, setNils, isTy, tyOf, List.map_cons, List.map_nil, List.length_cons, List.length_nil, List.cons_append, List.nil_append, List.append_nil, Nat.reduceSub, Nat.reduceAdd, atI_0, atI_1, atI_2, call_W5, call_W4, call_W2, call_W2o, call_W1, call_W1o, call_W0, call_W3, call_L0, call_L1, call_L1o, call_L2, call_L3, Option.some.injEq, sp_is_from, w_is_from, decide_eq_true h0, Bool.not_true, Bool.false_eq_true, if_false]
  exact h
def w_check_teeth : WF
  | [.int x], k => 1 ≤ x ∧ k (.d .none)
  | _, _ => False
theorem m_check_teeth : w_check_teeth.Mono := by
  intro xs k k' h q
  unfold w_check_teeth at q ⊢
  split <;> simp_all
def sp_check_teeth : ASp := spW w_check_teeth m_check_teeth
def b_check_teeth : Ss := (.cons (.ite (.not (.call "is_from" sp_is_from (.cons (.int 1) (.cons (.var 0) .nil)))) (.cons (.raise "InvalidTeeth")
  .nil) .nil)
  .nil)
theorem p_check_teeth : Body 1 1 [] b_check_teeth sp_check_teeth := by
  refine body_W (fun xs k h => ?_) fun xs k h => ?_
  · unfold w_check_teeth at h; split at h <;> simp_all
  unfold w_check_teeth at h
  split at h
  case h_2 => exact h.elim
  rename_i x
  obtain ⟨h0, h⟩ := h
  unfold b_check_teeth
  simp only [initE, List.map_cons, List.map_nil, List.length_cons, List.length_nil, Nat.reduceAdd, Nat.reduceSub, List.replicate, List.cons_append, List.nil_append]
  simp -implicitDefEqProofs only [V.rd_d, V.rd_o, V.rd_b, V.da_d, V.da_o, V.das_n, V.das_c, V.rds_n, V.rds_c, V.tr_b, V.tr_i, V.tr_n, V.tr_l, V.tr_t, V.tr_o, V.bn_add, V.bn_sub, V.bn_mul, V.bn_fdiv, V.bn_mod, V.bn_pow, V.bn_cat, V.cp_eq, V.cp_ne, V.cp_lt, V.cp_le, V.cp_gt, V.cp_ge, V.cp_in, V.cp_nin, V.is_n, V.isn_n, V.is_b, V.isn_b, V.is_i, V.isn_i, V.is_s, V.isn_s, V.is_l, V.isn_l, V.is_t, V.isn_t, V.is_bb, V.isn_bb, V.ix_l, V.ix_t, V.sl_l, V.bi_len, V.bi_lent, V.bi_abs, V.bi_max2, V.bi_min2, V.bi_int, V.bi_intb, V.bi_list, V.bi_listt, V.bi_tup, V.bi_tupt, V.bi_sum, V.bi_any, V.bi_all, V.bi_min1, V.bi_max1, V.bi_sorted, V.bi_repr, V.sq_d, V.sq_t, V.sq_o, V.ls_d, V.ls_o, V.tg_n, V.tg_t, V.vd_0, V.vo_0, V.vd_1, V.vo_1, V.vd_2, V.vo_2, V.vd_3, V.vo_3, V.vd_4, V.vo_4, V.vd_5, V.vo_5, V.vd_6, V.vo_6, V.vd_7, V.vo_7, V.vd_8, V.vo_8, V.vd_9, V.vo_9, V.vd_10, V.vo_10, V.vd_11, V.vo_11, V.vd_12, V.vo_12, V.vd_13, V.vo_13, V.vd_14, V.vo_14, V.vd_15, V.vo_15, V.e_int, V.e_bool, V.e_none, V.e_str, V.e_glob, V.e_bin, V.e_not, V.e_and, V.e_or, V.e_cmp, V.e_chain, V.e_ife, V.e_tup, V.e_lst, V.e_ix, V.e_call, V.e_callK, V.e_bi, V.e_inst, V.e_comp, V.ng, V.e_neg, V.e_slU, V.e_slL, V.e_lrg1, V.e_lrg3, V.es_n, V.es_c, V.it_seq, V.it_r1, V.it_r2, V.it_en, V.it_zip, V.ss_n, V.ss_c, V.s_asgF, V.kp_d, V.kp_o, V.s_asg, V.s_par, V.s_parN, V.tp_d, V.s_unp, V.s_expr, V.s_ret, V.s_retN, V.s_ite, V.s_for, V.s_pass, V.s_brk, V.s_cont, V.fz_0, V.ow_0, V.ap_0, V.fz_1, V.ow_1, V.ap_1, V.fz_2, V.ow_2, V.ap_2, V.fz_3, V.ow_3, V.ap_3, V.fz_4, V.ow_4, V.ap_4, V.fz_5, V.ow_5, V.ap_5, V.fz_6, V.ow_6, V.ap_6, V.fz_7, V.ow_7, V.ap_7, V.fz_8, V.ow_8, V.ap_8, V.fz_9, V.ow_9, V.ap_9, V.fz_10, V.ow_10, V.ap_10, V.fz_11, V.ow_11, V.ap_11, V.fz_12, V.ow_12, V.ap_12, V.fz_13, V.ow_13, V.ap_13, V.fz_14, V.ow_14, V.ap_14, V.fz_15, V.ow_15, V.ap_15, getE, setE, setMany, setNils, isTy, tyOf, List.map_cons, List.map_nil, List.length_cons, List.length_nil, List.cons_append, List.nil_append, List.append_nil, Nat.reduceSub, Nat.reduceAdd, atI_0, atI_1, atI_2, call_W5, call_W4, call_W2, call_W2o, call_W1, call_W1o, call_W0, call_W3, call_L0, call_L1, call_L1o, call_L2, call_L3, Option.some.injEq, sp_is_from, w_is_from, decide_eq_true h0, Bool.not_true, Bool.false_eq_true, if_false]
  exact h
def w_check_tooth : WF
  | [.int t, .int x], k => (0 ≤ x ∧ x < t) ∧ k (.d .none)
  | _, _ => False
theorem m_check_tooth : w_check_tooth.Mono := by
  intro xs k k' h q
  unfold w_check_tooth at q ⊢
  split <;> simp_all
def sp_check_tooth : ASp := spW w_check_tooth m_check_tooth
def b_check_tooth : Ss := (.cons (.ite (.not (.call "is_between" sp_is_between (.cons (.int 0) (.cons (.var 1) (.cons (.bin .sub (.var 0) (.int 1)) .nil))))) (.cons (.raise "InvalidTooth")
  .nil) .nil)
  .nil)
theorem p_check_tooth : Body 2 2 [] b_check_tooth sp_check_tooth := by
  refine body_W (fun xs k h => ?_) fun xs k h => ?_
  · unfold w_check_tooth at h; split at h <;> simp_all
  unfold w_check_tooth at h
  split at h
  case h_2 => exact h.elim
  rename_i t x
  obtain ⟨⟨h0, h1⟩, h⟩ := h
  unfold b_check_tooth
  simp only [initE, List.map_cons, List.map_nil, List.length_cons, List.length_nil, Nat.reduceAdd, Nat.reduceSub, List.replicate, List.cons_append, List.nil_append]
  simp -implicitDefEqProofs only [V.rd_d, V.rd_o, V.rd_b, V.da_d, V.da_o, V.das_n, V.das_c, V.rds_n, V.rds_c, V.tr_b, V.tr_i, V.tr_n, V.tr_l, V.tr_t, V.tr_o, V.bn_add, V.bn_sub, V.bn_mul, V.bn_fdiv, V.bn_mod, V.bn_pow, V.bn_cat, V.cp_eq, V.cp_ne, V.cp_lt, V.cp_le, V.cp_gt, V.cp_ge, V.cp_in, V.cp_nin, V.is_n, V.isn_n, V.is_b, V.isn_b, V.is_i, V.isn_i, V.is_s, V.isn_s, V.is_l, V.isn_l, V.is_t, V.isn_t, V.is_bb, V.isn_bb, V.ix_l, V.ix_t, V.sl_l, V.bi_len, V.bi_lent, V.bi_abs, V.bi_max2, V.bi_min2, V.bi_int, V.bi_intb, V.bi_list, V.bi_listt, V.bi_tup, V.bi_tupt, V.bi_sum, V.bi_any, V.bi_all, V.bi_min1, V.bi_max1, V.bi_sorted, V.bi_repr, V.sq_d, V.sq_t, V.sq_o, V.ls_d, V.ls_o, V.tg_n, V.tg_t, V.vd_0, V.vo_0, V.vd_1, V.vo_1, V.vd_2, V.vo_2, V.vd_3, V.vo_3, V.vd_4, V.vo_4, V.vd_5, V.vo_5, V.vd_6, V.vo_6, V.vd_7, V.vo_7, V.vd_8, V.vo_8, V.vd_9, V.vo_9, V.vd_10, V.vo_10, V.vd_11, V.vo_11, V.vd_12, V.vo_12, V.vd_13, V.vo_13, V.vd_14, V.vo_14, V.vd_15, V.vo_15, V.e_int, V.e_bool, V.e_none, V.e_str, V.e_glob, V.e_bin, V.e_not, V.e_and, V.e_or, V.e_cmp, V.e_chain, V.e_ife, V.e_tup, V.e_lst, V.e_ix, V.e_call, V.e_callK, V.e_bi, V.e_inst, V.e_comp, V.ng, V.e_neg, V.e_slU, V.e_slL, V.e_lrg1, V.e_lrg3, V.es_n, V.es_c, V.it_seq, V.it_r1, V.it_r2, V.it_en, V.it_zip, V.ss_n, V.ss_c, V.s_asgF, V.kp_d, V.kp_o, V.s_asg, V.s_par, V.s_parN, V.tp_d, V.s_unp, V.s_expr, V.s_ret, V.s_retN, V.s_ite, V.s_for, V.s_pass, V.s_brk, V.s_cont, V.fz_0, V.ow_0, V.ap_0, V.fz_1, V.ow_1, V.ap_1, V.fz_2, V.ow_2, V.ap_2, V.fz_3, V.ow_3, V.ap_3, V.fz_4, V.ow_4, V.ap_4, V.fz_5, V.ow_5, V.ap_5, V.fz_6, V.ow_6, V.ap_6, V.fz_7, V.ow_7, V.ap_7, V.fz_8, V.ow_8, V.ap_8, V.fz_9, V.ow_9, V.ap_9, V.fz_10, V.ow_10, V.ap_10, V.fz_11, V.ow_11, V.ap_11, V.fz_12, V.ow_12, V.ap_12, V.fz_13, V.ow_13, V.ap_13, V.fz_14, V.ow_14, V.ap_14, V.fz_15, V.ow_15, V.ap_15, getE, setE, setMany, setNils, isTy, tyOf, List.map_cons, List.map_nil, List.length_cons, List.length_nil, List.cons_append, List.nil_append, List.append_nil, Nat.reduceSub, Nat.reduceAdd, atI_0, atI_1, atI_2, call_W5, call_W4, call_W2, call_W2o, call_W1, call_W1o, call_W0, call_W3, call_L0, call_L1, call_L1o, call_L2, call_L3, Option.some.injEq, sp_is_between, w_is_between, decide_eq_true h0, decide_eq_true (show x ≤ t - 1 by omega), Bool.and_self, Bool.not_true, Bool.false_eq_true, if_false]
  exact h
def w_check_begin : WF
  | [.int s, .int t, .tuple [.int i, .int j]], k => ((0 ≤ i ∧ i < s) ∧ 0 ≤ j ∧ j < t) ∧ k (.d .none)
  | _, _ => False
theorem m_check_begin : w_check_begin.Mono := by
  intro xs k k' h q
  unfold w_check_begin at q ⊢
  split <;> simp_all
def sp_check_begin : ASp := spW w_check_begin m_check_begin
def b_check_begin_3 : Ss := (.cons (.expr (.call "check_tooth" sp_check_tooth (.cons (.var 1) (.cons (.ix (.var 2) (.int 1)) .nil)))) .nil)
def b_check_begin_2 : Ss := (.cons (.expr (.call "check_tooth" sp_check_tooth (.cons (.var 0) (.cons (.ix (.var 2) (.int 0)) .nil)))) b_check_begin_3)
def b_check_begin : Ss := (.cons (.ite (.or (.not (.inst (.var 2) [.tuple])) (.cmp .ne (.bi .len (.cons (.var 2) .nil)) (.int 2))) (.cons (.raise "InvalidTooth")
  .nil) .nil) b_check_begin_2)
theorem p_check_begin : Body 3 3 [] b_check_begin sp_check_begin := by
  refine body_W (fun xs k h => ?_) fun xs k h => ?_
  · unfold w_check_begin at h; split at h <;> simp_all
  unfold w_check_begin at h
  split at h
  case h_2 => exact h.elim
  rename_i s t i j
  obtain ⟨⟨h0, h1⟩, h⟩ := h
  unfold b_check_begin
  simp only [initE, List.map_cons, List.map_nil, List.length_cons, List.length_nil, Nat.reduceAdd, Nat.reduceSub, List.replicate, List.cons_append, List.nil_append]
  simp -implicitDefEqProofs only [V.rd_d, V.rd_o, V.rd_b, V.da_d, V.da_o, V.das_n, V.das_c, V.rds_n, V.rds_c, V.tr_b, V.tr_i, V.tr_n, V.tr_l, V.tr_t, V.tr_o, V.bn_add, V.bn_sub, V.bn_mul, V.bn_fdiv, V.bn_mod, V.bn_pow, V.bn_cat, V.cp_eq, V.cp_ne, V.cp_lt, V.cp_le, V.cp_gt, V.cp_ge, V.cp_in, V.cp_nin, V.is_n, V.isn_n, V.is_b, V.isn_b, V.is_i, V.isn_i, V.is_s, V.isn_s, V.is_l, V.isn_l, V.is_t, V.isn_t, V.is_bb, V.isn_bb, V.ix_l, V.ix_t, V.sl_l, V.bi_len, V.bi_lent, V.bi_abs, V.bi_max2, V.bi_min2, V.bi_int, V.bi_intb, V.bi_list, V.bi_listt, V.bi_tup, V.bi_tupt, V.bi_sum, V.bi_any, V.bi_all, V.bi_min1, V.bi_max1, V.bi_sorted, V.bi_repr, V.sq_d, V.sq_t, V.sq_o, V.ls_d, V.ls_o, V.tg_n, V.tg_t, V.vd_0, V.vo_0, V.vd_1, V.vo_1, V.vd_2, V.vo_2, V.vd_3, V.vo_3, V.vd_4, V.vo_4, V.vd_5, V.vo_5, V.vd_6, V.vo_6, V.vd_7, V.vo_7, V.vd_8, V.vo_8, V.vd_9, V.vo_9, V.vd_10, V.vo_10, V.vd_11, V.vo_11, V.vd_12, V.vo_12, V.vd_13, V.vo_13, V.vd_14, V.vo_14, V.vd_15, V.vo_15, V.e_int, V.e_bool, V.e_none, V.e_str, V.e_glob, V.e_bin, V.e_not, V.e_and, V.e_or, V.e_cmp, V.e_chain, V.e_ife, V.e_tup, V.e_lst, V.e_ix, V.e_call, V.e_callK, V.e_bi, V.e_inst, V.e_comp, V.ng, V.e_neg, V.e_slU, V.e_slL, V.e_lrg1, V.e_lrg3, V.es_n, V.es_c, V.it_seq, V.it_r1, V.it_r2, V.it_en, V.it_zip, V.ss_n, V.ss_c, V.s_asgF, V.kp_d, V.kp_o, V.s_asg, V.s_par, V.s_parN, V.tp_d, V.s_unp, V.s_expr, V.s_ret, V.s_retN, V.s_ite, V.s_for, V.s_pass, V.s_brk, V.s_cont, V.fz_0, V.ow_0, V.ap_0, V.fz_1, V.ow_1, V.ap_1, V.fz_2, V.ow_2, V.ap_2, V.fz_3, V.ow_3, V.ap_3, V.fz_4, V.ow_4, V.ap_4, V.fz_5, V.ow_5, V.ap_5, V.fz_6, V.ow_6, V.ap_6, V.fz_7, V.ow_7, V.ap_7, V.fz_8, V.ow_8, V.ap_8, V.fz_9, V.ow_9, V.ap_9, V.fz_10, V.ow_10, V.ap_10, V.fz_11, V.ow_11, V.ap_11, V.fz_12, V.ow_12, V.ap_12, V.fz_13, V.ow_13, V.ap_13, V.fz_14, V.ow_14, V.ap_14, V.fz_15, V.ow_15, V.ap_15, getE, setE, setMany, setNils, isTy, tyOf, List.map_cons, List.map_nil, List.length_cons, List.length_nil, List.cons_append, List.nil_append, List.append_nil, Nat.reduceSub, Nat.reduceAdd, atI_0, atI_1, atI_2, call_W5, call_W4, call_W2, call_W2o, call_W1, call_W1o, call_W0, call_W3, call_L0, call_L1, call_L1o, call_L2, call_L3, Option.some.injEq]
  rw [if_neg (by decide)]
  refine ⟨rfl, rfl, ?_⟩
  rw [if_neg (by simp [PyData.eqv])]
  unfold b_check_begin_2
  simp -implicitDefEqProofs only [V.rd_d, V.rd_o, V.rd_b, V.da_d, V.da_o, V.das_n, V.das_c, V.rds_n, V.rds_c, V.tr_b, V.tr_i, V.tr_n, V.tr_l, V.tr_t, V.tr_o, V.bn_add, V.bn_sub, V.bn_mul, V.bn_fdiv, V.bn_mod, V.bn_pow, V.bn_cat, V.cp_eq, V.cp_ne, V.cp_lt, V.cp_le, V.cp_gt, V.cp_ge, V.cp_in, V.cp_nin, V.is_n, V.isn_n, V.is_b, V.isn_b, V.is_i, V.isn_i, V.is_s, V.isn_s, V.is_l, V.isn_l, V.is_t, V.isn_t, V.is_bb, V.isn_bb, V.ix_l, V.ix_t, V.sl_l, V.bi_len, V.bi_lent, V.bi_abs, V.bi_max2, V.bi_min2, V.bi_int, V.bi_intb, V.bi_list, V.bi_listt, V.bi_tup, V.bi_tupt, V.bi_sum, V.bi_any, V.bi_all, V.bi_min1, V.bi_max1, V.bi_sorted, V.bi_repr, V.sq_d, V.sq_t, V.sq_o, V.ls_d, V.ls_o, V.tg_n, V.tg_t, V.vd_0, V.vo_0, V.vd_1, V.vo_1, V.vd_2, V.vo_2, V.vd_3, V.vo_3, V.vd_4, V.vo_4, V.vd_5, V.vo_5, V.vd_6, V.vo_6, V.vd_7, V.vo_7, V.vd_8, V.vo_8, V.vd_9, V.vo_9, V.vd_10, V.vo_10, V.vd_11, V.vo_11, V.vd_12, V.vo_12, V.vd_13, V.vo_13, V.vd_14, V.vo_14, V.vd_15, V.vo_15, V.e_int, V.e_bool, V.e_none, V.e_str, V.e_glob, V.e_bin, V.e_not, V.e_and, V.e_or, V.e_cmp, V.e_chain, V.e_ife, V.e_tup, V.e_lst, V.e_ix, V.e_call, V.e_callK, V.e_bi, V.e_inst, V.e_comp, V.ng, V.e_neg, V.e_slU, V.e_slL, V.e_lrg1, V.e_lrg3, V.es_n, V.es_c, V.it_seq, V.it_r1, V.it_r2, V.it_en, V.it_zip, V.ss_n, V.ss_c, V.s_asgF, V.kp_d, V.kp_o, V.s_asg, V.s_par, V.s_parN, V.tp_d, V.s_unp, V.s_expr, V.s_ret, V.s_retN, V.s_ite, V.s_for, V.s_pass, V.s_brk, V.s_cont, V.fz_0, V.ow_0, V.ap_0, V.fz_1, V.ow_1, V.ap_1, V.fz_2, V.ow_2, V.ap_2, V.fz_3, V.ow_3, V.ap_3, V.fz_4, V.ow_4, V.ap_4, V.fz_5, V.ow_5, V.ap_5, V.fz_6, V.ow_6, V.ap_6, V.fz_7, V.ow_7, V.ap_7, V.fz_8, V.ow_8, V.ap_8, V.fz_9, V.ow_9, V.ap_9, V.fz_10, V.ow_10, V.ap_10, V.fz_11, V.ow_11, V.ap_11, V.fz_12, V.ow_12, V.ap_12, V.fz_13, V.ow_13, V.ap_13, V.fz_14, V.ow_14, V.ap_14, V.fz_15, V.ow_15, V.ap_15, getE, setE, setMany, setNils, isTy, tyOf, List.map_cons, List.map_nil, List.length_cons, List.length_nil, List.cons_append, List.nil_append, List.append_nil, Nat.reduceSub, Nat.reduceAdd, atI_0, atI_1, atI_2, call_W5, call_W4, call_W2, call_W2o, call_W1, call_W1o, call_W0, call_W3, call_L0, call_L1, call_L1o, call_L2, call_L3, Option.some.injEq, sp_check_tooth, w_check_tooth]
  refine ⟨h0, ?_⟩
  unfold b_check_begin_3
  simp -implicitDefEqProofs only [V.rd_d, V.rd_o, V.rd_b, V.da_d, V.da_o, V.das_n, V.das_c, V.rds_n, V.rds_c, V.tr_b, V.tr_i, V.tr_n, V.tr_l, V.tr_t, V.tr_o, V.bn_add, V.bn_sub, V.bn_mul, V.bn_fdiv, V.bn_mod, V.bn_pow, V.bn_cat, V.cp_eq, V.cp_ne, V.cp_lt, V.cp_le, V.cp_gt, V.cp_ge, V.cp_in, V.cp_nin, V.is_n, V.isn_n, V.is_b, V.isn_b, V.is_i, V.isn_i, V.is_s, V.isn_s, V.is_l, V.isn_l, V.is_t, V.isn_t, V.is_bb, V.isn_bb, V.ix_l, V.ix_t, V.sl_l, V.bi_len, V.bi_lent, V.bi_abs, V.bi_max2, V.bi_min2, V.bi_int, V.bi_intb, V.bi_list, V.bi_listt, V.bi_tup, V.bi_tupt, V.bi_sum, V.bi_any, V.bi_all, V.bi_min1, V.bi_max1, V.bi_sorted, V.bi_repr, V.sq_d, V.sq_t, V.sq_o, V.ls_d, V.ls_o, V.tg_n, V.tg_t, V.vd_0, V.vo_0, V.vd_1, V.vo_1, V.vd_2, V.vo_2, V.vd_3, V.vo_3, V.vd_4, V.vo_4, V.vd_5, V.vo_5, V.vd_6, V.vo_6, V.vd_7, V.vo_7, V.vd_8, V.vo_8, V.vd_9, V.vo_9, V.vd_10, V.vo_10, V.vd_11, V.vo_11, V.vd_12, V.vo_12, V.vd_13, V.vo_13, V.vd_14, V.vo_14, V.vd_15, V.vo_15, V.e_int, V.e_bool, V.e_none, V.e_str, V.e_glob, V.e_bin, V.e_not, V.e_and, V.e_or, V.e_cmp, V.e_chain, V.e_ife, V.e_tup, V.e_lst, V.e_ix, V.e_call, V.e_callK, V.e_bi, V.e_inst, V.e_comp, V.ng, V.e_neg, V.e_slU, V.e_slL, V.e_lrg1, V.e_lrg3, V.es_n, V.es_c, V.it_seq, V.it_r1, V.it_r2, V.it_en, V.it_zip, V.ss_n, V.ss_c, V.s_asgF, V.kp_d, V.kp_o, V.s_asg, V.s_par, V.s_parN, V.tp_d, V.s_unp, V.s_expr, V.s_ret, V.s_retN, V.s_ite, V.s_for, V.s_pass, V.s_brk, V.s_cont, V.fz_0, V.ow_0, V.ap_0, V.fz_1, V.ow_1, V.ap_1, V.fz_2, V.ow_2, V.ap_2, V.fz_3, V.ow_3, V.ap_3, V.fz_4, V.ow_4, V.ap_4, V.fz_5, V.ow_5, V.ap_5, V.fz_6, V.ow_6, V.ap_6, V.fz_7, V.ow_7, V.ap_7, V.fz_8, V.ow_8, V.ap_8, V.fz_9, V.ow_9, V.ap_9, V.fz_10, V.ow_10, V.ap_10, V.fz_11, V.ow_11, V.ap_11, V.fz_12, V.ow_12, V.ap_12, V.fz_13, V.ow_13, V.ap_13, V.fz_14, V.ow_14, V.ap_14, V.fz_15, V.ow_15, V.ap_15, getE, setE, setMany, setNils, isTy, tyOf, List.map_cons, List.map_nil, List.length_cons, List.length_nil, List.cons_append, List.nil_append, List.append_nil, Nat.reduceSub, Nat.reduceAdd, atI_0, atI_1, atI_2, call_W5, call_W4, call_W2, call_W2o, call_W1, call_W1o, call_W0, call_W3, call_L0, call_L1, call_L1o, call_L2, call_L3, Option.some.injEq, sp_check_tooth, w_check_tooth]
  exact ⟨h1, h⟩
def w_check_wheels : WF
  | [.int s, .int t], k => (1 ≤ s ∧ 1 ≤ t) ∧ k (.d .none)
  | _, _ => False
theorem m_check_wheels : w_check_wheels.Mono := by
  intro xs k k' h q
  unfold w_check_wheels at q ⊢
  split <;> simp_all
def sp_check_wheels : ASp := spW w_check_wheels m_check_wheels
def b_check_wheels : Ss := (.cons (.expr (.call "check_teeth" sp_check_teeth (.cons (.var 0) .nil)))
  (.cons (.expr (.call "check_teeth" sp_check_teeth (.cons (.var 1) .nil)))
  .nil))
theorem p_check_wheels : Body 2 2 [] b_check_wheels sp_check_wheels := by
  refine body_W (fun xs k h => ?_) fun xs k h => ?_
  · unfold w_check_wheels at h; split at h <;> simp_all
  unfold w_check_wheels at h
  split at h
  case h_2 => exact h.elim
  rename_i s t
  obtain ⟨⟨h0, h1⟩, h⟩ := h
  unfold b_check_wheels
  simp only [initE, List.map_cons, List.map_nil, List.length_cons, List.length_nil, Nat.reduceAdd, Nat.reduceSub, List.replicate, List.cons_append, List.nil_append]
  simp -implicitDefEqProofs only [V.rd_d, V.rd_o, V.rd_b, V.da_d, V.da_o, V.das_n, V.das_c, V.rds_n, V.rds_c, V.tr_b, V.tr_i, V.tr_n, V.tr_l, V.tr_t, V.tr_o, V.bn_add, V.bn_sub, V.bn_mul, V.bn_fdiv, V.bn_mod, V.bn_pow, V.bn_cat, V.cp_eq, V.cp_ne, V.cp_lt, V.cp_le, V.cp_gt, V.cp_ge, V.cp_in, V.cp_nin, V.is_n, V.isn_n, V.is_b, V.isn_b, V.is_i, V.isn_i, V.is_s, V.isn_s, V.is_l, V.isn_l, V.is_t, V.isn_t, V.is_bb, V.isn_bb, V.ix_l, V.ix_t, V.sl_l, V.bi_len, V.bi_lent, V.bi_abs, V.bi_max2, V.bi_min2, V.bi_int, V.bi_intb, V.bi_list, V.bi_listt, V.bi_tup, V.bi_tupt, V.bi_sum, V.bi_any, V.bi_all, V.bi_min1, V.bi_max1, V.bi_sorted, V.bi_repr, V.sq_d, V.sq_t, V.sq_o, V.ls_d, V.ls_o, V.tg_n, V.tg_t, V.vd_0, V.vo_0, V.vd_1, V.vo_1, V.vd_2, V.vo_2, V.vd_3, V.vo_3, V.vd_4, V.vo_4, V.vd_5, V.vo_5, V.vd_6, V.vo_6, V.vd_7, V.vo_7, V.vd_8, V.vo_8, V.vd_9, V.vo_9, V.vd_10, V.vo_10, V.vd_11, V.vo_11, V.vd_12, V.vo_12, V.vd_13, V.vo_13, V.vd_14, V.vo_14, V.vd_15, V.vo_15, V.e_int, V.e_bool, V.e_none, V.e_str, V.e_glob, V.e_bin, V.e_not, V.e_and, V.e_or, V.e_cmp, V.e_chain, V.e_ife, V.e_tup, V.e_lst, V.e_ix, V.e_call, V.e_callK, V.e_bi, V.e_inst, V.e_comp, V.ng, V.e_neg, V.e_slU, V.e_slL, V.e_lrg1, V.e_lrg3, V.es_n, V.es_c, V.it_seq, V.it_r1, V.it_r2, V.it_en, V.it_zip, V.ss_n, V.ss_c, V.s_asgF, V.kp_d, V.kp_o, V.s_asg, V.s_par, V.s_parN, V.tp_d, V.s_unp, V.s_expr, V.s_ret, V.s_retN, V.s_ite, V.s_for, V.s_pass, V.s_brk, V.s_cont, V.fz_0, V.ow_0, V.ap_0, V.fz_1, V.ow_1, V.ap_1, V.fz_2, V.ow_2, V.ap_2, V.fz_3, V.ow_3, V.ap_3, V.fz_4, V.ow_4, V.ap_4, V.fz_5, V.ow_5, V.ap_5, V.fz_6, V.ow_6, V.ap_6, V.fz_7, V.ow_7, V.ap_7, V.fz_8, V.ow_8, V.ap_8, V.fz_9, V.ow_9, V.ap_9, V.fz_10, V.ow_10, V.ap_10, V.fz_11, V.ow_11, V.ap_11, V.fz_12, V.ow_12, V.ap_12, V.fz_13, V.ow_13, V.ap_13, V.fz_14, V.ow_14, V.ap_14, V.fz_15, V.ow_15, V.ap_15, getE, setE, setMany, setNils, isTy, tyOf, List.map_cons, List.map_nil, List.length_cons, List.length_nil, List.cons_append, List.nil_append, List.append_nil, Nat.reduceSub, Nat.reduceAdd, atI_0, atI_1, atI_2, call_W5, call_W4, call_W2, call_W2o, call_W1, call_W1o, call_W0, call_W3, call_L0, call_L1, call_L1o, call_L2, call_L3, Option.some.injEq, sp_check_teeth, w_check_teeth]
  exact ⟨h0, h1, h⟩
def okM (s t i j a b : Int) : Prop := (1 ≤ s ∧ s ≤ 1000) ∧ (1 ≤ t ∧ t ≤ 1000) ∧ (0 ≤ i ∧ i < s) ∧ (0 ≤ j ∧ j < t) ∧ (0 ≤ a ∧ a < s) ∧ 0 ≤ b ∧ b < t
def w_check_meeting : WF
  | [.int s, .int t, .tuple [.int i, .int j], .int a, .int b], k => okM s t i j a b ∧ k (.d .none)
  | _, _ => False
theorem m_check_meeting : w_check_meeting.Mono := by
  intro xs k k' h q
  unfold w_check_meeting at q ⊢
  split <;> simp_all
def sp_check_meeting : ASp := spW w_check_meeting m_check_meeting
def b_check_meeting_4 : Ss := (.cons (.expr (.call "check_tooth" sp_check_tooth (.cons (.var 1) (.cons (.var 4) .nil)))) .nil)
def b_check_meeting_3 : Ss := (.cons (.expr (.call "check_tooth" sp_check_tooth (.cons (.var 0) (.cons (.var 3) .nil)))) b_check_meeting_4)
def b_check_meeting_2 : Ss := (.cons (.expr (.call "check_begin" sp_check_begin (.cons (.var 0) (.cons (.var 1) (.cons (.var 2) .nil))))) b_check_meeting_3)
def b_check_meeting : Ss := (.cons (.expr (.call "check_wheels" sp_check_wheels (.cons (.var 0) (.cons (.var 1) .nil)))) b_check_meeting_2)
theorem p_check_meeting : Body 5 5 [] b_check_meeting sp_check_meeting := by
  refine body_W (fun xs k h => ?_) fun xs k h => ?_
  · unfold w_check_meeting at h; split at h <;> simp_all
  unfold w_check_meeting at h
  split at h
  case h_2 => exact h.elim
  rename_i s t i j a b
  obtain ⟨⟨h1, h2, h3, h4, h5, h6⟩, h⟩ := h
  unfold b_check_meeting
  simp only [initE, List.map_cons, List.map_nil, List.length_cons, List.length_nil, Nat.reduceAdd, Nat.reduceSub, List.replicate, List.cons_append, List.nil_append]
  simp -implicitDefEqProofs only [V.rd_d, V.rd_o, V.rd_b, V.da_d, V.da_o, V.das_n, V.das_c, V.rds_n, V.rds_c, V.tr_b, V.tr_i, V.tr_n, V.tr_l, V.tr_t, V.tr_o, V.bn_add, V.bn_sub, V.bn_mul, V.bn_fdiv, V.bn_mod, V.bn_pow, V.bn_cat, V.cp_eq, V.cp_ne, V.cp_lt, V.cp_le, V.cp_gt, V.cp_ge, V.cp_in, V.cp_nin, V.is_n, V.isn_n, V.is_b, V.isn_b, V.is_i, V.isn_i, V.is_s, V.isn_s, V.is_l, V.isn_l, V.is_t, V.isn_t, V.is_bb, V.isn_bb, V.ix_l, V.ix_t, V.sl_l, V.bi_len, V.bi_lent, V.bi_abs, V.bi_max2, V.bi_min2, V.bi_int, V.bi_intb, V.bi_list, V.bi_listt, V.bi_tup, V.bi_tupt, V.bi_sum, V.bi_any, V.bi_all, V.bi_min1, V.bi_max1, V.bi_sorted, V.bi_repr, V.sq_d, V.sq_t, V.sq_o, V.ls_d, V.ls_o, V.tg_n, V.tg_t, V.vd_0, V.vo_0, V.vd_1, V.vo_1, V.vd_2, V.vo_2, V.vd_3, V.vo_3, V.vd_4, V.vo_4, V.vd_5, V.vo_5, V.vd_6, V.vo_6, V.vd_7, V.vo_7, V.vd_8, V.vo_8, V.vd_9, V.vo_9, V.vd_10, V.vo_10, V.vd_11, V.vo_11, V.vd_12, V.vo_12, V.vd_13, V.vo_13, V.vd_14, V.vo_14, V.vd_15, V.vo_15, V.e_int, V.e_bool, V.e_none, V.e_str, V.e_glob, V.e_bin, V.e_not, V.e_and, V.e_or, V.e_cmp, V.e_chain, V.e_ife, V.e_tup, V.e_lst, V.e_ix, V.e_call, V.e_callK, V.e_bi, V.e_inst, V.e_comp, V.ng, V.e_neg, V.e_slU, V.e_slL, V.e_lrg1, V.e_lrg3, V.es_n, V.es_c, V.it_seq, V.it_r1, V.it_r2, V.it_en, V.it_zip, V.ss_n, V.ss_c, V.s_asgF, V.kp_d, V.kp_o, V.s_asg, V.s_par, V.s_parN, V.tp_d, V.s_unp, V.s_expr, V.s_ret, V.s_retN, V.s_ite, V.s_for, V.s_pass, V.s_brk, V.s_cont, V.fz_0, V.ow_0, V.ap_0, V.fz_1, V.ow_1, V.ap_1, V.fz_2, V.ow_2, V.ap_2, V.fz_3, V.ow_3, V.ap_3, V.fz_4, V.ow_4, V.ap_4, V.fz_5, V.ow_5, V.ap_5, V.fz_6, V.ow_6, V.ap_6, V.fz_7, V.ow_7, V.ap_7, V.fz_8, V.ow_8, V.ap_8, V.fz_9, V.ow_9, V.ap_9, V.fz_10, V.ow_10, V.ap_10, V.fz_11, V.ow_11, V.ap_11, V.fz_12, V.ow_12, V.ap_12, V.fz_13, V.ow_13, V.ap_13, V.fz_14, V.ow_14, V.ap_14, V.fz_15, V.ow_15, V.ap_15, getE, setE, setMany, setNils, isTy, tyOf, List.map_cons, List.map_nil, List.length_cons, List.length_nil, List.cons_append, List.nil_append, List.append_nil, Nat.reduceSub, Nat.reduceAdd, atI_0, atI_1, atI_2, call_W5, call_W4, call_W2, call_W2o, call_W1, call_W1o, call_W0, call_W3, call_L0, call_L1, call_L1o, call_L2, call_L3, Option.some.injEq, sp_check_wheels, w_check_wheels]
  refine ⟨⟨h1.1, h2.1⟩, ?_⟩
  unfold b_check_meeting_2
  simp -implicitDefEqProofs only [V.rd_d, V.rd_o, V.rd_b, V.da_d, V.da_o, V.das_n, V.das_c, V.rds_n, V.rds_c, V.tr_b, V.tr_i, V.tr_n, V.tr_l, V.tr_t, V.tr_o, V.bn_add, V.bn_sub, V.bn_mul, V.bn_fdiv, V.bn_mod, V.bn_pow, V.bn_cat, V.cp_eq, V.cp_ne, V.cp_lt, V.cp_le, V.cp_gt, V.cp_ge, V.cp_in, V.cp_nin, V.is_n, V.isn_n, V.is_b, V.isn_b, V.is_i, V.isn_i, V.is_s, V.isn_s, V.is_l, V.isn_l, V.is_t, V.isn_t, V.is_bb, V.isn_bb, V.ix_l, V.ix_t, V.sl_l, V.bi_len, V.bi_lent, V.bi_abs, V.bi_max2, V.bi_min2, V.bi_int, V.bi_intb, V.bi_list, V.bi_listt, V.bi_tup, V.bi_tupt, V.bi_sum, V.bi_any, V.bi_all, V.bi_min1, V.bi_max1, V.bi_sorted, V.bi_repr, V.sq_d, V.sq_t, V.sq_o, V.ls_d, V.ls_o, V.tg_n, V.tg_t, V.vd_0, V.vo_0, V.vd_1, V.vo_1, V.vd_2, V.vo_2, V.vd_3, V.vo_3, V.vd_4, V.vo_4, V.vd_5, V.vo_5, V.vd_6, V.vo_6, V.vd_7, V.vo_7, V.vd_8, V.vo_8, V.vd_9, V.vo_9, V.vd_10, V.vo_10, V.vd_11, V.vo_11, V.vd_12, V.vo_12, V.vd_13, V.vo_13, V.vd_14, V.vo_14, V.vd_15, V.vo_15, V.e_int, V.e_bool, V.e_none, V.e_str, V.e_glob, V.e_bin, V.e_not, V.e_and, V.e_or, V.e_cmp, V.e_chain, V.e_ife, V.e_tup, V.e_lst, V.e_ix, V.e_call, V.e_callK, V.e_bi, V.e_inst, V.e_comp, V.ng, V.e_neg, V.e_slU, V.e_slL, V.e_lrg1, V.e_lrg3, V.es_n, V.es_c, V.it_seq, V.it_r1, V.it_r2, V.it_en, V.it_zip, V.ss_n, V.ss_c, V.s_asgF, V.kp_d, V.kp_o, V.s_asg, V.s_par, V.s_parN, V.tp_d, V.s_unp, V.s_expr, V.s_ret, V.s_retN, V.s_ite, V.s_for, V.s_pass, V.s_brk, V.s_cont, V.fz_0, V.ow_0, V.ap_0, V.fz_1, V.ow_1, V.ap_1, V.fz_2, V.ow_2, V.ap_2, V.fz_3, V.ow_3, V.ap_3, V.fz_4, V.ow_4, V.ap_4, V.fz_5, V.ow_5, V.ap_5, V.fz_6, V.ow_6, V.ap_6, V.fz_7, V.ow_7, V.ap_7, V.fz_8, V.ow_8, V.ap_8, V.fz_9, V.ow_9, V.ap_9, V.fz_10, V.ow_10, V.ap_10, V.fz_11, V.ow_11, V.ap_11, V.fz_12, V.ow_12, V.ap_12, V.fz_13, V.ow_13, V.ap_13, V.fz_14, V.ow_14, V.ap_14, V.fz_15, V.ow_15, V.ap_15, getE, setE, setMany, setNils, isTy, tyOf, List.map_cons, List.map_nil, List.length_cons, List.length_nil, List.cons_append, List.nil_append, List.append_nil, Nat.reduceSub, Nat.reduceAdd, atI_0, atI_1, atI_2, call_W5, call_W4, call_W2, call_W2o, call_W1, call_W1o, call_W0, call_W3, call_L0, call_L1, call_L1o, call_L2, call_L3, Option.some.injEq, sp_check_begin, w_check_begin]
  refine ⟨⟨h3, h4⟩, ?_⟩
  unfold b_check_meeting_3
  simp -implicitDefEqProofs only [V.rd_d, V.rd_o, V.rd_b, V.da_d, V.da_o, V.das_n, V.das_c, V.rds_n, V.rds_c, V.tr_b, V.tr_i, V.tr_n, V.tr_l, V.tr_t, V.tr_o, V.bn_add, V.bn_sub, V.bn_mul, V.bn_fdiv, V.bn_mod, V.bn_pow, V.bn_cat, V.cp_eq, V.cp_ne, V.cp_lt, V.cp_le, V.cp_gt, V.cp_ge, V.cp_in, V.cp_nin, V.is_n, V.isn_n, V.is_b, V.isn_b, V.is_i, V.isn_i, V.is_s, V.isn_s, V.is_l, V.isn_l, V.is_t, V.isn_t, V.is_bb, V.isn_bb, V.ix_l, V.ix_t, V.sl_l, V.bi_len, V.bi_lent, V.bi_abs, V.bi_max2, V.bi_min2, V.bi_int, V.bi_intb, V.bi_list, V.bi_listt, V.bi_tup, V.bi_tupt, V.bi_sum, V.bi_any, V.bi_all, V.bi_min1, V.bi_max1, V.bi_sorted, V.bi_repr, V.sq_d, V.sq_t, V.sq_o, V.ls_d, V.ls_o, V.tg_n, V.tg_t, V.vd_0, V.vo_0, V.vd_1, V.vo_1, V.vd_2, V.vo_2, V.vd_3, V.vo_3, V.vd_4, V.vo_4, V.vd_5, V.vo_5, V.vd_6, V.vo_6, V.vd_7, V.vo_7, V.vd_8, V.vo_8, V.vd_9, V.vo_9, V.vd_10, V.vo_10, V.vd_11, V.vo_11, V.vd_12, V.vo_12, V.vd_13, V.vo_13, V.vd_14, V.vo_14, V.vd_15, V.vo_15, V.e_int, V.e_bool, V.e_none, V.e_str, V.e_glob, V.e_bin, V.e_not, V.e_and, V.e_or, V.e_cmp, V.e_chain, V.e_ife, V.e_tup, V.e_lst, V.e_ix, V.e_call, V.e_callK, V.e_bi, V.e_inst, V.e_comp, V.ng, V.e_neg, V.e_slU, V.e_slL, V.e_lrg1, V.e_lrg3, V.es_n, V.es_c, V.it_seq, V.it_r1, V.it_r2, V.it_en, V.it_zip, V.ss_n, V.ss_c, V.s_asgF, V.kp_d, V.kp_o, V.s_asg, V.s_par, V.s_parN, V.tp_d, V.s_unp, V.s_expr, V.s_ret, V.s_retN, V.s_ite, V.s_for, V.s_pass, V.s_brk, V.s_cont, V.fz_0, V.ow_0, V.ap_0, V.fz_1, V.ow_1, V.ap_1, V.fz_2, V.ow_2, V.ap_2, V.fz_3, V.ow_3, V.ap_3, V.fz_4, V.ow_4, V.ap_4, V.fz_5, V.ow_5, V.ap_5, V.fz_6, V.ow_6, V.ap_6, V.fz_7, V.ow_7, V.ap_7, V.fz_8, V.ow_8, V.ap_8, V.fz_9, V.ow_9, V.ap_9, V.fz_10, V.ow_10, V.ap_10, V.fz_11, V.ow_11, V.ap_11, V.fz_12, V.ow_12, V.ap_12, V.fz_13, V.ow_13, V.ap_13, V.fz_14, V.ow_14, V.ap_14, V.fz_15, V.ow_15, V.ap_15, getE, setE, setMany, setNils, isTy, tyOf, List.map_cons, List.map_nil, List.length_cons, List.length_nil, List.cons_append, List.nil_append, List.append_nil, Nat.reduceSub, Nat.reduceAdd, atI_0, atI_1, atI_2, call_W5, call_W4, call_W2, call_W2o, call_W1, call_W1o, call_W0, call_W3, call_L0, call_L1, call_L1o, call_L2, call_L3, Option.some.injEq, sp_check_tooth, w_check_tooth]
  refine ⟨h5, ?_⟩
  unfold b_check_meeting_4
  simp -implicitDefEqProofs only [V.rd_d, V.rd_o, V.rd_b, V.da_d, V.da_o, V.das_n, V.das_c, V.rds_n, V.rds_c, V.tr_b, V.tr_i, V.tr_n, V.tr_l, V.tr_t, V.tr_o, V.bn_add, V.bn_sub, V.bn_mul, V.bn_fdiv, V.bn_mod, V.bn_pow, V.bn_cat, V.cp_eq, V.cp_ne, V.cp_lt, V.cp_le, V.cp_gt, V.cp_ge, V.cp_in, V.cp_nin, V.is_n, V.isn_n, V.is_b, V.isn_b, V.is_i, V.isn_i, V.is_s, V.isn_s, V.is_l, V.isn_l, V.is_t, V.isn_t, V.is_bb, V.isn_bb, V.ix_l, V.ix_t, V.sl_l, V.bi_len, V.bi_lent, V.bi_abs, V.bi_max2, V.bi_min2, V.bi_int, V.bi_intb, V.bi_list, V.bi_listt, V.bi_tup, V.bi_tupt, V.bi_sum, V.bi_any, V.bi_all, V.bi_min1, V.bi_max1, V.bi_sorted, V.bi_repr, V.sq_d, V.sq_t, V.sq_o, V.ls_d, V.ls_o, V.tg_n, V.tg_t, V.vd_0, V.vo_0, V.vd_1, V.vo_1, V.vd_2, V.vo_2, V.vd_3, V.vo_3, V.vd_4, V.vo_4, V.vd_5, V.vo_5, V.vd_6, V.vo_6, V.vd_7, V.vo_7, V.vd_8, V.vo_8, V.vd_9, V.vo_9, V.vd_10, V.vo_10, V.vd_11, V.vo_11, V.vd_12, V.vo_12, V.vd_13, V.vo_13, V.vd_14, V.vo_14, V.vd_15, V.vo_15, V.e_int, V.e_bool, V.e_none, V.e_str, V.e_glob, V.e_bin, V.e_not, V.e_and, V.e_or, V.e_cmp, V.e_chain, V.e_ife, V.e_tup, V.e_lst, V.e_ix, V.e_call, V.e_callK, V.e_bi, V.e_inst, V.e_comp, V.ng, V.e_neg, V.e_slU, V.e_slL, V.e_lrg1, V.e_lrg3, V.es_n, V.es_c, V.it_seq, V.it_r1, V.it_r2, V.it_en, V.it_zip, V.ss_n, V.ss_c, V.s_asgF, V.kp_d, V.kp_o, V.s_asg, V.s_par, V.s_parN, V.tp_d, V.s_unp, V.s_expr, V.s_ret, V.s_retN, V.s_ite, V.s_for, V.s_pass, V.s_brk, V.s_cont, V.fz_0, V.ow_0, V.ap_0, V.fz_1, V.ow_1, V.ap_1, V.fz_2, V.ow_2, V.ap_2, V.fz_3, V.ow_3, V.ap_3, V.fz_4, V.ow_4, V.ap_4, V.fz_5, V.ow_5, V.ap_5, V.fz_6, V.ow_6, V.ap_6, V.fz_7, V.ow_7, V.ap_7, V.fz_8, V.ow_8, V.ap_8, V.fz_9, V.ow_9, V.ap_9, V.fz_10, V.ow_10, V.ap_10, V.fz_11, V.ow_11, V.ap_11, V.fz_12, V.ow_12, V.ap_12, V.fz_13, V.ow_13, V.ap_13, V.fz_14, V.ow_14, V.ap_14, V.fz_15, V.ow_15, V.ap_15, getE, setE, setMany, setNils, isTy, tyOf, List.map_cons, List.map_nil, List.length_cons, List.length_nil, List.cons_append, List.nil_append, List.append_nil, Nat.reduceSub, Nat.reduceAdd, atI_0, atI_1, atI_2, call_W5, call_W4, call_W2, call_W2o, call_W1, call_W1o, call_W0, call_W3, call_L0, call_L1, call_L1o, call_L2, call_L3, Option.some.injEq, sp_check_tooth, w_check_tooth]
  exact ⟨h6, h⟩
/-! ### two wheels -/
def M (s t i j a b x : Int) : Prop := (i + x) % s = a ∧ (j - x) % t = b
theorem mod_is {s z a : Int} (h0 : 0 ≤ a) (h1 : a < s) : z % s = a ↔ s ∣ z - a := by
  constructor
  · rintro rfl
    have := Int.emod_add_mul_ediv z s
    exact ⟨z / s, by omega⟩
  · rintro ⟨k, hk⟩
    have e : z = a + s * k := by omega
    rw [e, Int.add_mul_emod_self_left]
    exact Int.emod_eq_of_lt h0 h1
theorem M_iff {s t i j a b x : Int} (h : okM s t i j a b) : M s t i j a b x ↔ (s ∣ x - (a - i) ∧ t ∣ x - (j - b)) := by
  obtain ⟨h1, h2, h3, h4, h5, h6⟩ := h
  unfold M
  rw [mod_is h5.1 h5.2, mod_is h6.1 h6.2]
  have e1 : i + x - a = x - (a - i) := by omega
  have e2 : j - x - b = -(x - (j - b)) := by omega
  rw [e1, e2, Int.dvd_neg]
theorem lcm2_one (s : Int) : lcm2 1 s = s := by unfold lcm2; simp
def wMeets (s t i j a b : Int) (k : AV → Prop) : Prop := ((∀ x, ¬ M s t i j a b x) → k (.d .none)) ∧ ∀ F, Sol (M s t i j a b) F (lcm2 s t) → k (.d (tn F (lcm2 s t)))
def w_passes_at : WF
  | [.int s, .int t, .tuple [.int i, .int j], .int a, .int b], k => okM s t i j a b ∧ wMeets s t i j a b k
  | _, _ => False
theorem m_passes_at : w_passes_at.Mono := by
  intro xs k k' h q
  unfold w_passes_at at q ⊢
  split at q
  · exact ⟨q.1, fun z => h _ (q.2.1 z), fun F z => h _ (q.2.2 F z)⟩
  · exact q.elim
def sp_passes_at : ASp := spW w_passes_at m_passes_at
def b_passes_at_3 : Ss := (.cons (.ret (.call "joint_in" sp_joint_in (.cons (.lst (.cons (.tup (.cons (.var 5) (.cons (.var 0) .nil))) (.cons (.tup (.cons (.var 6) (.cons (.var 1) .nil))) .nil))) .nil))) .nil)
def b_passes_at_2 : Ss := (.cons (.asgF 6 (.bin .mod (.bi .int (.cons (.bin .sub (.ix (.var 2) (.int 1)) (.var 4)) .nil)) (.var 1))) b_passes_at_3)
def b_passes_at : Ss := (.cons (.asgF 5 (.bin .mod (.bi .int (.cons (.bin .sub (.var 3) (.ix (.var 2) (.int 0))) .nil)) (.var 0))) b_passes_at_2)
theorem p_passes_at : Body 5 7 [] b_passes_at sp_passes_at := by
  refine body_WT (fun xs k h => ?_) fun xs k h D hD _ _ => ?_
  · unfold w_passes_at at h; split at h
    · rfl
    · exact h.elim
  unfold w_passes_at at h
  split at h
  case h_2 => exact h.elim
  rename_i s t i j a b
  obtain ⟨ok, hn, hs⟩ := h
  have ok' := ok
  obtain ⟨h1, h2, h3, h4, h5, h6⟩ := ok
  unfold b_passes_at
  simp only [initE, List.map_cons, List.map_nil, List.length_cons, List.length_nil, Nat.reduceAdd, Nat.reduceSub, List.replicate, List.cons_append, List.nil_append]
  simp -implicitDefEqProofs only [V.rd_d, V.rd_o, V.rd_b, V.da_d, V.da_o, V.das_n, V.das_c, V.rds_n, V.rds_c, V.tr_b, V.tr_i, V.tr_n, V.tr_l, V.tr_t, V.tr_o, V.bn_add, V.bn_sub, V.bn_mul, V.bn_fdiv, V.bn_mod, V.bn_pow, V.bn_cat, V.cp_eq, V.cp_ne, V.cp_lt, V.cp_le, V.cp_gt, V.cp_ge, V.cp_in, V.cp_nin, V.is_n, V.isn_n, V.is_b, V.isn_b, V.is_i, V.isn_i, V.is_s, V.isn_s, V.is_l, V.isn_l, V.is_t, V.isn_t, V.is_bb, V.isn_bb, V.ix_l, V.ix_t, V.sl_l, V.bi_len, V.bi_lent, V.bi_abs, V.bi_max2, V.bi_min2, V.bi_int, V.bi_intb, V.bi_list, V.bi_listt, V.bi_tup, V.bi_tupt, V.bi_sum, V.bi_any, V.bi_all, V.bi_min1, V.bi_max1, V.bi_sorted, V.bi_repr, V.sq_d, V.sq_t, V.sq_o, V.ls_d, V.ls_o, V.tg_n, V.tg_t, V.vd_0, V.vo_0, V.vd_1, V.vo_1, V.vd_2, V.vo_2, V.vd_3, V.vo_3, V.vd_4, V.vo_4, V.vd_5, V.vo_5, V.vd_6, V.vo_6, V.vd_7, V.vo_7, V.vd_8, V.vo_8, V.vd_9, V.vo_9, V.vd_10, V.vo_10, V.vd_11, V.vo_11, V.vd_12, V.vo_12, V.vd_13, V.vo_13, V.vd_14, V.vo_14, V.vd_15, V.vo_15, V.e_int, V.e_bool, V.e_none, V.e_str, V.e_glob, V.e_bin, V.e_not, V.e_and, V.e_or, V.e_cmp, V.e_chain, V.e_ife, V.e_tup, V.e_lst, V.e_ix, V.e_call, V.e_callK, V.e_bi, V.e_inst, V.e_comp, V.ng, V.e_neg, V.e_slU, V.e_slL, V.e_lrg1, V.e_lrg3, V.es_n, V.es_c, V.it_seq, V.it_r1, V.it_r2, V.it_en, V.it_zip, V.ss_n, V.ss_c, V.s_asgF, V.kp_d, V.kp_o, V.s_asg, V.s_par, V.s_parN, V.tp_d, V.s_unp, V.s_expr, V.s_ret, V.s_retN, V.s_ite, V.s_for, V.s_pass, V.s_brk, V.s_cont, V.fz_0, V.ow_0, V.ap_0, V.fz_1, V.ow_1, V.ap_1, V.fz_2, V.ow_2, V.ap_2, V.fz_3, V.ow_3, V.ap_3, V.fz_4, V.ow_4, V.ap_4, V.fz_5, V.ow_5, V.ap_5, V.fz_6, V.ow_6, V.ap_6, V.fz_7, V.ow_7, V.ap_7, V.fz_8, V.ow_8, V.ap_8, V.fz_9, V.ow_9, V.ap_9, V.fz_10, V.ow_10, V.ap_10, V.fz_11, V.ow_11, V.ap_11, V.fz_12, V.ow_12, V.ap_12, V.fz_13, V.ow_13, V.ap_13, V.fz_14, V.ow_14, V.ap_14, V.fz_15, V.ow_15, V.ap_15, getE, setE, setMany, setNils, isTy, tyOf, List.map_cons, List.map_nil, List.length_cons, List.length_nil, List.cons_append, List.nil_append, List.append_nil, Nat.reduceSub, Nat.reduceAdd, atI_0, atI_1, atI_2, call_W5, call_W4, call_W2, call_W2o, call_W1, call_W1o, call_W0, call_W3, call_L0, call_L1, call_L1o, call_L2, call_L3, Option.some.injEq]
  refine ⟨by omega, ?_⟩
  rw [fmod_p (by omega)]
  unfold b_passes_at_2
  simp -implicitDefEqProofs only [V.rd_d, V.rd_o, V.rd_b, V.da_d, V.da_o, V.das_n, V.das_c, V.rds_n, V.rds_c, V.tr_b, V.tr_i, V.tr_n, V.tr_l, V.tr_t, V.tr_o, V.bn_add, V.bn_sub, V.bn_mul, V.bn_fdiv, V.bn_mod, V.bn_pow, V.bn_cat, V.cp_eq, V.cp_ne, V.cp_lt, V.cp_le, V.cp_gt, V.cp_ge, V.cp_in, V.cp_nin, V.is_n, V.isn_n, V.is_b, V.isn_b, V.is_i, V.isn_i, V.is_s, V.isn_s, V.is_l, V.isn_l, V.is_t, V.isn_t, V.is_bb, V.isn_bb, V.ix_l, V.ix_t, V.sl_l, V.bi_len, V.bi_lent, V.bi_abs, V.bi_max2, V.bi_min2, V.bi_int, V.bi_intb, V.bi_list, V.bi_listt, V.bi_tup, V.bi_tupt, V.bi_sum, V.bi_any, V.bi_all, V.bi_min1, V.bi_max1, V.bi_sorted, V.bi_repr, V.sq_d, V.sq_t, V.sq_o, V.ls_d, V.ls_o, V.tg_n, V.tg_t, V.vd_0, V.vo_0, V.vd_1, V.vo_1, V.vd_2, V.vo_2, V.vd_3, V.vo_3, V.vd_4, V.vo_4, V.vd_5, V.vo_5, V.vd_6, V.vo_6, V.vd_7, V.vo_7, V.vd_8, V.vo_8, V.vd_9, V.vo_9, V.vd_10, V.vo_10, V.vd_11, V.vo_11, V.vd_12, V.vo_12, V.vd_13, V.vo_13, V.vd_14, V.vo_14, V.vd_15, V.vo_15, V.e_int, V.e_bool, V.e_none, V.e_str, V.e_glob, V.e_bin, V.e_not, V.e_and, V.e_or, V.e_cmp, V.e_chain, V.e_ife, V.e_tup, V.e_lst, V.e_ix, V.e_call, V.e_callK, V.e_bi, V.e_inst, V.e_comp, V.ng, V.e_neg, V.e_slU, V.e_slL, V.e_lrg1, V.e_lrg3, V.es_n, V.es_c, V.it_seq, V.it_r1, V.it_r2, V.it_en, V.it_zip, V.ss_n, V.ss_c, V.s_asgF, V.kp_d, V.kp_o, V.s_asg, V.s_par, V.s_parN, V.tp_d, V.s_unp, V.s_expr, V.s_ret, V.s_retN, V.s_ite, V.s_for, V.s_pass, V.s_brk, V.s_cont, V.fz_0, V.ow_0, V.ap_0, V.fz_1, V.ow_1, V.ap_1, V.fz_2, V.ow_2, V.ap_2, V.fz_3, V.ow_3, V.ap_3, V.fz_4, V.ow_4, V.ap_4, V.fz_5, V.ow_5, V.ap_5, V.fz_6, V.ow_6, V.ap_6, V.fz_7, V.ow_7, V.ap_7, V.fz_8, V.ow_8, V.ap_8, V.fz_9, V.ow_9, V.ap_9, V.fz_10, V.ow_10, V.ap_10, V.fz_11, V.ow_11, V.ap_11, V.fz_12, V.ow_12, V.ap_12, V.fz_13, V.ow_13, V.ap_13, V.fz_14, V.ow_14, V.ap_14, V.fz_15, V.ow_15, V.ap_15, getE, setE, setMany, setNils, isTy, tyOf, List.map_cons, List.map_nil, List.length_cons, List.length_nil, List.cons_append, List.nil_append, List.append_nil, Nat.reduceSub, Nat.reduceAdd, atI_0, atI_1, atI_2, call_W5, call_W4, call_W2, call_W2o, call_W1, call_W1o, call_W0, call_W3, call_L0, call_L1, call_L1o, call_L2, call_L3, Option.some.injEq]
  refine ⟨by omega, ?_⟩
  rw [fmod_p (by omega)]
  unfold b_passes_at_3
  simp -implicitDefEqProofs only [V.rd_d, V.rd_o, V.rd_b, V.da_d, V.da_o, V.das_n, V.das_c, V.rds_n, V.rds_c, V.tr_b, V.tr_i, V.tr_n, V.tr_l, V.tr_t, V.tr_o, V.bn_add, V.bn_sub, V.bn_mul, V.bn_fdiv, V.bn_mod, V.bn_pow, V.bn_cat, V.cp_eq, V.cp_ne, V.cp_lt, V.cp_le, V.cp_gt, V.cp_ge, V.cp_in, V.cp_nin, V.is_n, V.isn_n, V.is_b, V.isn_b, V.is_i, V.isn_i, V.is_s, V.isn_s, V.is_l, V.isn_l, V.is_t, V.isn_t, V.is_bb, V.isn_bb, V.ix_l, V.ix_t, V.sl_l, V.bi_len, V.bi_lent, V.bi_abs, V.bi_max2, V.bi_min2, V.bi_int, V.bi_intb, V.bi_list, V.bi_listt, V.bi_tup, V.bi_tupt, V.bi_sum, V.bi_any, V.bi_all, V.bi_min1, V.bi_max1, V.bi_sorted, V.bi_repr, V.sq_d, V.sq_t, V.sq_o, V.ls_d, V.ls_o, V.tg_n, V.tg_t, V.vd_0, V.vo_0, V.vd_1, V.vo_1, V.vd_2, V.vo_2, V.vd_3, V.vo_3, V.vd_4, V.vo_4, V.vd_5, V.vo_5, V.vd_6, V.vo_6, V.vd_7, V.vo_7, V.vd_8, V.vo_8, V.vd_9, V.vo_9, V.vd_10, V.vo_10, V.vd_11, V.vo_11, V.vd_12, V.vo_12, V.vd_13, V.vo_13, V.vd_14, V.vo_14, V.vd_15, V.vo_15, V.e_int, V.e_bool, V.e_none, V.e_str, V.e_glob, V.e_bin, V.e_not, V.e_and, V.e_or, V.e_cmp, V.e_chain, V.e_ife, V.e_tup, V.e_lst, V.e_ix, V.e_call, V.e_callK, V.e_bi, V.e_inst, V.e_comp, V.ng, V.e_neg, V.e_slU, V.e_slL, V.e_lrg1, V.e_lrg3, V.es_n, V.es_c, V.it_seq, V.it_r1, V.it_r2, V.it_en, V.it_zip, V.ss_n, V.ss_c, V.s_asgF, V.kp_d, V.kp_o, V.s_asg, V.s_par, V.s_parN, V.tp_d, V.s_unp, V.s_expr, V.s_ret, V.s_retN, V.s_ite, V.s_for, V.s_pass, V.s_brk, V.s_cont, V.fz_0, V.ow_0, V.ap_0, V.fz_1, V.ow_1, V.ap_1, V.fz_2, V.ow_2, V.ap_2, V.fz_3, V.ow_3, V.ap_3, V.fz_4, V.ow_4, V.ap_4, V.fz_5, V.ow_5, V.ap_5, V.fz_6, V.ow_6, V.ap_6, V.fz_7, V.ow_7, V.ap_7, V.fz_8, V.ow_8, V.ap_8, V.fz_9, V.ow_9, V.ap_9, V.fz_10, V.ow_10, V.ap_10, V.fz_11, V.ow_11, V.ap_11, V.fz_12, V.ow_12, V.ap_12, V.fz_13, V.ow_13, V.ap_13, V.fz_14, V.ow_14, V.ap_14, V.fz_15, V.ow_15, V.ap_15, getE, setE, setMany, setNils, isTy, tyOf, List.map_cons, List.map_nil, List.length_cons, List.length_nil, List.cons_append, List.nil_append, List.append_nil, Nat.reduceSub, Nat.reduceAdd, atI_0, atI_1, atI_2, call_W5, call_W4, call_W2, call_W2o, call_W1, call_W1o, call_W0, call_W3, call_L0, call_L1, call_L1o, call_L2, call_L3, Option.some.injEq, sp_joint_in]
  have b1 := Int.emod_nonneg (a - i) (show s ≠ 0 by omega)
  have b2 := Int.emod_lt_of_pos (a - i) (show 0 < s by omega)
  have b3 := Int.emod_nonneg (j - b) (show t ≠ 0 by omega)
  have b4 := Int.emod_lt_of_pos (j - b) (show 0 < t by omega)
  have sm : ∀ x : Int, 0 ≤ x → x ≤ 1000 → sz 20 x := fun x h1 h2 => by unfold sz; omega
  have el : lcmL (lens [((a - i) % s, s), ((j - b) % t, t)]) = lcm2 s t := by
    show lcm2 (lcm2 1 s) t = _
    rw [lcm2_one]
  have ea : ∀ x, allP [((a - i) % s, s), ((j - b) % t, t)] x ↔ M s t i j a b x := fun x => by
    rw [M_iff ok']
    unfold allP inP
    simp only [List.forall_mem_cons, List.not_mem_nil, false_implies, implies_true, and_true]
    rw [dvd_mod, dvd_mod]
  refine ⟨[((a - i) % s, s), ((j - b) % t, t)], rfl, ?_, ?_, fun z => hD _ _ (hn fun x hx => z x ((ea x).mpr hx)), fun F so => ?_⟩
  · intro p hp
    simp only [List.mem_cons, List.not_mem_nil, or_false] at hp
    rcases hp with rfl | rfl
    · exact ⟨by simp only; omega, (sm _ b1 (by omega)).mono (by decide)⟩
    · exact ⟨by simp only; omega, (sm _ b3 (by omega)).mono (by decide)⟩
  · show sz 1949 (s * (t * 1))
    rw [Int.mul_one]
    exact ((sm s (by omega) (by omega)).mul (sm t (by omega) (by omega))).mono (by decide)
  · rw [el] at so ⊢
    exact hD _ _ (hs F ⟨so.1, so.2.1, fun x => (ea x).symm.trans (so.2.2 x)⟩)
def w_meets : WF := w_passes_at
theorem m_meets : w_meets.Mono := m_passes_at
def sp_meets : ASp := spW w_meets m_meets
def b_meets : Ss := (.cons (.expr (.call "check_meeting" sp_check_meeting (.cons (.var 0) (.cons (.var 1) (.cons (.var 2) (.cons (.var 3) (.cons (.var 4) .nil)))))))
  (.cons (.ret (.call "passes_at" sp_passes_at (.cons (.var 0) (.cons (.var 1) (.cons (.var 2) (.cons (.var 3) (.cons (.var 4) .nil)))))))
  .nil))
theorem p_meets : Body 5 5 [] b_meets sp_meets := by
  refine body_WT (fun xs k h => ?_) fun xs k h D hD _ _ => ?_
  · unfold w_meets w_passes_at at h; split at h
    · rfl
    · exact h.elim
  unfold w_meets w_passes_at at h
  split at h
  case h_2 => exact h.elim
  rename_i s t i j a b
  obtain ⟨ok, hn, hs⟩ := h
  unfold b_meets
  simp only [initE, List.map_cons, List.map_nil, List.length_cons, List.length_nil, Nat.reduceAdd, Nat.reduceSub, List.replicate, List.cons_append, List.nil_append]
  simp -implicitDefEqProofs only [V.rd_d, V.rd_o, V.rd_b, V.da_d, V.da_o, V.das_n, V.das_c, V.rds_n, V.rds_c, V.tr_b, V.tr_i, V.tr_n, V.tr_l, V.tr_t, V.tr_o, V.bn_add, V.bn_sub, V.bn_mul, V.bn_fdiv, V.bn_mod, V.bn_pow, V.bn_cat, V.cp_eq, V.cp_ne, V.cp_lt, V.cp_le, V.cp_gt, V.cp_ge, V.cp_in, V.cp_nin, V.is_n, V.isn_n, V.is_b, V.isn_b, V.is_i, V.isn_i, V.is_s, V.isn_s, V.is_l, V.isn_l, V.is_t, V.isn_t, V.is_bb, V.isn_bb, V.ix_l, V.ix_t, V.sl_l, V.bi_len, V.bi_lent, V.bi_abs, V.bi_max2, V.bi_min2, V.bi_int, V.bi_intb, V.bi_list, V.bi_listt, V.bi_tup, V.bi_tupt, V.bi_sum, V.bi_any, V.bi_all, V.bi_min1, V.bi_max1, V.bi_sorted, V.bi_repr, V.sq_d, V.sq_t, V.sq_o, V.ls_d, V.ls_o, V.tg_n, V.tg_t, V.vd_0, V.vo_0, V.vd_1, V.vo_1, V.vd_2, V.vo_2, V.vd_3, V.vo_3, V.vd_4, V.vo_4, V.vd_5, V.vo_5, V.vd_6, V.vo_6, V.vd_7, V.vo_7, V.vd_8, V.vo_8, V.vd_9, V.vo_9, V.vd_10, V.vo_10, V.vd_11, V.vo_11, V.vd_12, V.vo_12, V.vd_13, V.vo_13, V.vd_14, V.vo_14, V.vd_15, V.vo_15, V.e_int, V.e_bool, V.e_none, V.e_str, V.e_glob, V.e_bin, V.e_not, V.e_and, V.e_or, V.e_cmp, V.e_chain, V.e_ife, V.e_tup, V.e_lst, V.e_ix, V.e_call, V.e_callK, V.e_bi, V.e_inst, V.e_comp, V.ng, V.e_neg, V.e_slU, V.e_slL, V.e_lrg1, V.e_lrg3, V.es_n, V.es_c, V.it_seq, V.it_r1, V.it_r2, V.it_en, V.it_zip, V.ss_n, V.ss_c, V.s_asgF, V.kp_d, V.kp_o, V.s_asg, V.s_par, V.s_parN, V.tp_d, V.s_unp, V.s_expr, V.s_ret, V.s_retN, V.s_ite, V.s_for, V.s_pass, V.s_brk, V.s_cont, V.fz_0, V.ow_0, V.ap_0, V.fz_1, V.ow_1, V.ap_1, V.fz_2, V.ow_2, V.ap_2, V.fz_3, V.ow_3, V.ap_3, V.fz_4, V.ow_4, V.ap_4, V.fz_5, V.ow_5, V.ap_5, V.fz_6, V.ow_6, V.ap_6, V.fz_7, V.ow_7, V.ap_7, V.fz_8, V.ow_8, V.ap_8, V.fz_9, V.ow_9, V.ap_9, V.fz_10, V.ow_10, V.ap_10, V.fz_11, V.ow_11, V.ap_11, V.fz_12, V.ow_12, V.ap_12, V.fz_13, V.ow_13, V.ap_13, V.fz_14, V.ow_14, V.ap_14, V.fz_15, V.ow_15, V.ap_15, getE, setE, setMany, setNils, isTy, tyOf, List.map_cons, List.map_nil, List.length_cons, List.length_nil, List.cons_append, List.nil_append, List.append_nil, Nat.reduceSub, Nat.reduceAdd, atI_0, atI_1, atI_2, call_W5, call_W4, call_W2, call_W2o, call_W1, call_W1o, call_W0, call_W3, call_L0, call_L1, call_L1o, call_L2, call_L3, Option.some.injEq, sp_check_meeting, w_check_meeting, sp_passes_at, w_passes_at]
  exact ⟨ok, ok, fun z => hD _ _ (hn z), fun F z => hD _ _ (hs F z)⟩
def w_partners : WF
  | [.int s, .int t, .tuple [.int i, .int j], .int a], k => okM s t i j a 0 ∧ k (.o (rangeCL ((i + j - a) % (Int.gcd s t : Int)) t (Int.gcd s t)))
  | _, _ => False
theorem m_partners : w_partners.Mono := by
  intro xs k k' h q
  unfold w_partners at q ⊢
  split <;> simp_all
def sp_partners : ASp := spW w_partners m_partners
def b_partners_5 : Ss := (.cons (.ret (.lrg3 (.bin .mod (.bi .int (.cons (.bin .sub (.bin .add (.ix (.var 2) (.int 0)) (.ix (.var 2) (.int 1))) (.var 3)) .nil)) (.var 4)) (.var 1) (.var 4))) .nil)
def b_partners_4 : Ss := (.cons (.asgF 4 (.call "common_divisor" sp_common_divisor (.cons (.var 0) (.cons (.var 1) .nil)))) b_partners_5)
def b_partners_3 : Ss := (.cons (.expr (.call "check_tooth" sp_check_tooth (.cons (.var 0) (.cons (.var 3) .nil)))) b_partners_4)
def b_partners_2 : Ss := (.cons (.expr (.call "check_begin" sp_check_begin (.cons (.var 0) (.cons (.var 1) (.cons (.var 2) .nil))))) b_partners_3)
def b_partners : Ss := (.cons (.expr (.call "check_wheels" sp_check_wheels (.cons (.var 0) (.cons (.var 1) .nil)))) b_partners_2)
theorem p_partners : Body 4 5 [] b_partners sp_partners := by
  refine body_WT (fun xs k h => ?_) fun xs k h D _ hD _ => ?_
  · unfold w_partners at h; split at h
    · rfl
    · exact h.elim
  unfold w_partners at h
  split at h
  case h_2 => exact h.elim
  rename_i s t i j a
  obtain ⟨⟨h1, h2, h3, h4, h5, h6⟩, h⟩ := h
  have gp := gcd_posR (u := s) (show 0 < t by omega)
  have gl := gcd_leR (u := s) (show 0 < t by omega)
  unfold b_partners
  simp only [initE, List.map_cons, List.map_nil, List.length_cons, List.length_nil, Nat.reduceAdd, Nat.reduceSub, List.replicate, List.cons_append, List.nil_append]
  simp -implicitDefEqProofs only [V.rd_d, V.rd_o, V.rd_b, V.da_d, V.da_o, V.das_n, V.das_c, V.rds_n, V.rds_c, V.tr_b, V.tr_i, V.tr_n, V.tr_l, V.tr_t, V.tr_o, V.bn_add, V.bn_sub, V.bn_mul, V.bn_fdiv, V.bn_mod, V.bn_pow, V.bn_cat, V.cp_eq, V.cp_ne, V.cp_lt, V.cp_le, V.cp_gt, V.cp_ge, V.cp_in, V.cp_nin, V.is_n, V.isn_n, V.is_b, V.isn_b, V.is_i, V.isn_i, V.is_s, V.isn_s, V.is_l, V.isn_l, V.is_t, V.isn_t, V.is_bb, V.isn_bb, V.ix_l, V.ix_t, V.sl_l, V.bi_len, V.bi_lent, V.bi_abs, V.bi_max2, V.bi_min2, V.bi_int, V.bi_intb, V.bi_list, V.bi_listt, V.bi_tup, V.bi_tupt, V.bi_sum, V.bi_any, V.bi_all, V.bi_min1, V.bi_max1, V.bi_sorted, V.bi_repr, V.sq_d, V.sq_t, V.sq_o, V.ls_d, V.ls_o, V.tg_n, V.tg_t, V.vd_0, V.vo_0, V.vd_1, V.vo_1, V.vd_2, V.vo_2, V.vd_3, V.vo_3, V.vd_4, V.vo_4, V.vd_5, V.vo_5, V.vd_6, V.vo_6, V.vd_7, V.vo_7, V.vd_8, V.vo_8, V.vd_9, V.vo_9, V.vd_10, V.vo_10, V.vd_11, V.vo_11, V.vd_12, V.vo_12, V.vd_13, V.vo_13, V.vd_14, V.vo_14, V.vd_15, V.vo_15, V.e_int, V.e_bool, V.e_none, V.e_str, V.e_glob, V.e_bin, V.e_not, V.e_and, V.e_or, V.e_cmp, V.e_chain, V.e_ife, V.e_tup, V.e_lst, V.e_ix, V.e_call, V.e_callK, V.e_bi, V.e_inst, V.e_comp, V.ng, V.e_neg, V.e_slU, V.e_slL, V.e_lrg1, V.e_lrg3, V.es_n, V.es_c, V.it_seq, V.it_r1, V.it_r2, V.it_en, V.it_zip, V.ss_n, V.ss_c, V.s_asgF, V.kp_d, V.kp_o, V.s_asg, V.s_par, V.s_parN, V.tp_d, V.s_unp, V.s_expr, V.s_ret, V.s_retN, V.s_ite, V.s_for, V.s_pass, V.s_brk, V.s_cont, V.fz_0, V.ow_0, V.ap_0, V.fz_1, V.ow_1, V.ap_1, V.fz_2, V.ow_2, V.ap_2, V.fz_3, V.ow_3, V.ap_3, V.fz_4, V.ow_4, V.ap_4, V.fz_5, V.ow_5, V.ap_5, V.fz_6, V.ow_6, V.ap_6, V.fz_7, V.ow_7, V.ap_7, V.fz_8, V.ow_8, V.ap_8, V.fz_9, V.ow_9, V.ap_9, V.fz_10, V.ow_10, V.ap_10, V.fz_11, V.ow_11, V.ap_11, V.fz_12, V.ow_12, V.ap_12, V.fz_13, V.ow_13, V.ap_13, V.fz_14, V.ow_14, V.ap_14, V.fz_15, V.ow_15, V.ap_15, getE, setE, setMany, setNils, isTy, tyOf, List.map_cons, List.map_nil, List.length_cons, List.length_nil, List.cons_append, List.nil_append, List.append_nil, Nat.reduceSub, Nat.reduceAdd, atI_0, atI_1, atI_2, call_W5, call_W4, call_W2, call_W2o, call_W1, call_W1o, call_W0, call_W3, call_L0, call_L1, call_L1o, call_L2, call_L3, Option.some.injEq, sp_check_wheels, w_check_wheels]
  refine ⟨⟨h1.1, h2.1⟩, ?_⟩
  unfold b_partners_2
  simp -implicitDefEqProofs only [V.rd_d, V.rd_o, V.rd_b, V.da_d, V.da_o, V.das_n, V.das_c, V.rds_n, V.rds_c, V.tr_b, V.tr_i, V.tr_n, V.tr_l, V.tr_t, V.tr_o, V.bn_add, V.bn_sub, V.bn_mul, V.bn_fdiv, V.bn_mod, V.bn_pow, V.bn_cat, V.cp_eq, V.cp_ne, V.cp_lt, V.cp_le, V.cp_gt, V.cp_ge, V.cp_in, V.cp_nin, V.is_n, V.isn_n, V.is_b, V.isn_b, V.is_i, V.isn_i, V.is_s, V.isn_s, V.is_l, V.isn_l, V.is_t, V.isn_t, V.is_bb, V.isn_bb, V.ix_l, V.ix_t, V.sl_l, V.bi_len, V.bi_lent, V.bi_abs, V.bi_max2, V.bi_min2, V.bi_int, V.bi_intb, V.bi_list, V.bi_listt, V.bi_tup, V.bi_tupt, V.bi_sum, V.bi_any, V.bi_all, V.bi_min1, V.bi_max1, V.bi_sorted, V.bi_repr, V.sq_d, V.sq_t, V.sq_o, V.ls_d, V.ls_o, V.tg_n, V.tg_t, V.vd_0, V.vo_0, V.vd_1, V.vo_1, V.vd_2, V.vo_2, V.vd_3, V.vo_3, V.vd_4, V.vo_4, V.vd_5, V.vo_5, V.vd_6, V.vo_6, V.vd_7, V.vo_7, V.vd_8, V.vo_8, V.vd_9, V.vo_9, V.vd_10, V.vo_10, V.vd_11, V.vo_11, V.vd_12, V.vo_12, V.vd_13, V.vo_13, V.vd_14, V.vo_14, V.vd_15, V.vo_15, V.e_int, V.e_bool, V.e_none, V.e_str, V.e_glob, V.e_bin, V.e_not, V.e_and, V.e_or, V.e_cmp, V.e_chain, V.e_ife, V.e_tup, V.e_lst, V.e_ix, V.e_call, V.e_callK, V.e_bi, V.e_inst, V.e_comp, V.ng, V.e_neg, V.e_slU, V.e_slL, V.e_lrg1, V.e_lrg3, V.es_n, V.es_c, V.it_seq, V.it_r1, V.it_r2, V.it_en, V.it_zip, V.ss_n, V.ss_c, V.s_asgF, V.kp_d, V.kp_o, V.s_asg, V.s_par, V.s_parN, V.tp_d, V.s_unp, V.s_expr, V.s_ret, V.s_retN, V.s_ite, V.s_for, V.s_pass, V.s_brk, V.s_cont, V.fz_0, V.ow_0, V.ap_0, V.fz_1, V.ow_1, V.ap_1, V.fz_2, V.ow_2, V.ap_2, V.fz_3, V.ow_3, V.ap_3, V.fz_4, V.ow_4, V.ap_4, V.fz_5, V.ow_5, V.ap_5, V.fz_6, V.ow_6, V.ap_6, V.fz_7, V.ow_7, V.ap_7, V.fz_8, V.ow_8, V.ap_8, V.fz_9, V.ow_9, V.ap_9, V.fz_10, V.ow_10, V.ap_10, V.fz_11, V.ow_11, V.ap_11, V.fz_12, V.ow_12, V.ap_12, V.fz_13, V.ow_13, V.ap_13, V.fz_14, V.ow_14, V.ap_14, V.fz_15, V.ow_15, V.ap_15, getE, setE, setMany, setNils, isTy, tyOf, List.map_cons, List.map_nil, List.length_cons, List.length_nil, List.cons_append, List.nil_append, List.append_nil, Nat.reduceSub, Nat.reduceAdd, atI_0, atI_1, atI_2, call_W5, call_W4, call_W2, call_W2o, call_W1, call_W1o, call_W0, call_W3, call_L0, call_L1, call_L1o, call_L2, call_L3, Option.some.injEq, sp_check_begin, w_check_begin]
  refine ⟨⟨h3, h4⟩, ?_⟩
  unfold b_partners_3
  simp -implicitDefEqProofs only [V.rd_d, V.rd_o, V.rd_b, V.da_d, V.da_o, V.das_n, V.das_c, V.rds_n, V.rds_c, V.tr_b, V.tr_i, V.tr_n, V.tr_l, V.tr_t, V.tr_o, V.bn_add, V.bn_sub, V.bn_mul, V.bn_fdiv, V.bn_mod, V.bn_pow, V.bn_cat, V.cp_eq, V.cp_ne, V.cp_lt, V.cp_le, V.cp_gt, V.cp_ge, V.cp_in, V.cp_nin, V.is_n, V.isn_n, V.is_b, V.isn_b, V.is_i, V.isn_i, V.is_s, V.isn_s, V.is_l, V.isn_l, V.is_t, V.isn_t, V.is_bb, V.isn_bb, V.ix_l, V.ix_t, V.sl_l, V.bi_len, V.bi_lent, V.bi_abs, V.bi_max2, V.bi_min2, V.bi_int, V.bi_intb, V.bi_list, V.bi_listt, V.bi_tup, V.bi_tupt, V.bi_sum, V.bi_any, V.bi_all, V.bi_min1, V.bi_max1, V.bi_sorted, V.bi_repr, V.sq_d, V.sq_t, V.sq_o, V.ls_d, V.ls_o, V.tg_n, V.tg_t, V.vd_0, V.vo_0, V.vd_1, V.vo_1, V.vd_2, V.vo_2, V.vd_3, V.vo_3, V.vd_4, V.vo_4, V.vd_5, V.vo_5, V.vd_6, V.vo_6, V.vd_7, V.vo_7, V.vd_8, V.vo_8, V.vd_9, V.vo_9, V.vd_10, V.vo_10, V.vd_11, V.vo_11, V.vd_12, V.vo_12, V.vd_13, V.vo_13, V.vd_14, V.vo_14, V.vd_15, V.vo_15, V.e_int, V.e_bool, V.e_none, V.e_str, V.e_glob, V.e_bin, V.e_not, V.e_and, V.e_or, V.e_cmp, V.e_chain, V.e_ife, V.e_tup, V.e_lst, V.e_ix, V.e_call, V.e_callK, V.e_bi, V.e_inst, V.e_comp, V.ng, V.e_neg, V.e_slU, V.e_slL, V.e_lrg1, V.e_lrg3, V.es_n, V.es_c, V.it_seq, V.it_r1, V.it_r2, V.it_en, V.it_zip, V.ss_n, V.ss_c, V.s_asgF, V.kp_d, V.kp_o, V.s_asg, V.s_par, V.s_parN, V.tp_d, V.s_unp, V.s_expr, V.s_ret, V.s_retN, V.s_ite, V.s_for, V.s_pass, V.s_brk, V.s_cont, V.fz_0, V.ow_0, V.ap_0, V.fz_1, V.ow_1, V.ap_1, V.fz_2, V.ow_2, V.ap_2, V.fz_3, V.ow_3, V.ap_3, V.fz_4, V.ow_4, V.ap_4, V.fz_5, V.ow_5, V.ap_5, V.fz_6, V.ow_6, V.ap_6, V.fz_7, V.ow_7, V.ap_7, V.fz_8, V.ow_8, V.ap_8, V.fz_9, V.ow_9, V.ap_9, V.fz_10, V.ow_10, V.ap_10, V.fz_11, V.ow_11, V.ap_11, V.fz_12, V.ow_12, V.ap_12, V.fz_13, V.ow_13, V.ap_13, V.fz_14, V.ow_14, V.ap_14, V.fz_15, V.ow_15, V.ap_15, getE, setE, setMany, setNils, isTy, tyOf, List.map_cons, List.map_nil, List.length_cons, List.length_nil, List.cons_append, List.nil_append, List.append_nil, Nat.reduceSub, Nat.reduceAdd, atI_0, atI_1, atI_2, call_W5, call_W4, call_W2, call_W2o, call_W1, call_W1o, call_W0, call_W3, call_L0, call_L1, call_L1o, call_L2, call_L3, Option.some.injEq, sp_check_tooth, w_check_tooth]
  refine ⟨h5, ?_⟩
  unfold b_partners_4
  simp -implicitDefEqProofs only [V.rd_d, V.rd_o, V.rd_b, V.da_d, V.da_o, V.das_n, V.das_c, V.rds_n, V.rds_c, V.tr_b, V.tr_i, V.tr_n, V.tr_l, V.tr_t, V.tr_o, V.bn_add, V.bn_sub, V.bn_mul, V.bn_fdiv, V.bn_mod, V.bn_pow, V.bn_cat, V.cp_eq, V.cp_ne, V.cp_lt, V.cp_le, V.cp_gt, V.cp_ge, V.cp_in, V.cp_nin, V.is_n, V.isn_n, V.is_b, V.isn_b, V.is_i, V.isn_i, V.is_s, V.isn_s, V.is_l, V.isn_l, V.is_t, V.isn_t, V.is_bb, V.isn_bb, V.ix_l, V.ix_t, V.sl_l, V.bi_len, V.bi_lent, V.bi_abs, V.bi_max2, V.bi_min2, V.bi_int, V.bi_intb, V.bi_list, V.bi_listt, V.bi_tup, V.bi_tupt, V.bi_sum, V.bi_any, V.bi_all, V.bi_min1, V.bi_max1, V.bi_sorted, V.bi_repr, V.sq_d, V.sq_t, V.sq_o, V.ls_d, V.ls_o, V.tg_n, V.tg_t, V.vd_0, V.vo_0, V.vd_1, V.vo_1, V.vd_2, V.vo_2, V.vd_3, V.vo_3, V.vd_4, V.vo_4, V.vd_5, V.vo_5, V.vd_6, V.vo_6, V.vd_7, V.vo_7, V.vd_8, V.vo_8, V.vd_9, V.vo_9, V.vd_10, V.vo_10, V.vd_11, V.vo_11, V.vd_12, V.vo_12, V.vd_13, V.vo_13, V.vd_14, V.vo_14, V.vd_15, V.vo_15, V.e_int, V.e_bool, V.e_none, V.e_str, V.e_glob, V.e_bin, V.e_not, V.e_and, V.e_or, V.e_cmp, V.e_chain, V.e_ife, V.e_tup, V.e_lst, V.e_ix, V.e_call, V.e_callK, V.e_bi, V.e_inst, V.e_comp, V.ng, V.e_neg, V.e_slU, V.e_slL, V.e_lrg1, V.e_lrg3, V.es_n, V.es_c, V.it_seq, V.it_r1, V.it_r2, V.it_en, V.it_zip, V.ss_n, V.ss_c, V.s_asgF, V.kp_d, V.kp_o, V.s_asg, V.s_par, V.s_parN, V.tp_d, V.s_unp, V.s_expr, V.s_ret, V.s_retN, V.s_ite, V.s_for, V.s_pass, V.s_brk, V.s_cont, V.fz_0, V.ow_0, V.ap_0, V.fz_1, V.ow_1, V.ap_1, V.fz_2, V.ow_2, V.ap_2, V.fz_3, V.ow_3, V.ap_3, V.fz_4, V.ow_4, V.ap_4, V.fz_5, V.ow_5, V.ap_5, V.fz_6, V.ow_6, V.ap_6, V.fz_7, V.ow_7, V.ap_7, V.fz_8, V.ow_8, V.ap_8, V.fz_9, V.ow_9, V.ap_9, V.fz_10, V.ow_10, V.ap_10, V.fz_11, V.ow_11, V.ap_11, V.fz_12, V.ow_12, V.ap_12, V.fz_13, V.ow_13, V.ap_13, V.fz_14, V.ow_14, V.ap_14, V.fz_15, V.ow_15, V.ap_15, getE, setE, setMany, setNils, isTy, tyOf, List.map_cons, List.map_nil, List.length_cons, List.length_nil, List.cons_append, List.nil_append, List.append_nil, Nat.reduceSub, Nat.reduceAdd, atI_0, atI_1, atI_2, call_W5, call_W4, call_W2, call_W2o, call_W1, call_W1o, call_W0, call_W3, call_L0, call_L1, call_L1o, call_L2, call_L3, Option.some.injEq, sp_common_divisor, w_common_divisor]
  unfold b_partners_5
  simp -implicitDefEqProofs only [V.rd_d, V.rd_o, V.rd_b, V.da_d, V.da_o, V.das_n, V.das_c, V.rds_n, V.rds_c, V.tr_b, V.tr_i, V.tr_n, V.tr_l, V.tr_t, V.tr_o, V.bn_add, V.bn_sub, V.bn_mul, V.bn_fdiv, V.bn_mod, V.bn_pow, V.bn_cat, V.cp_eq, V.cp_ne, V.cp_lt, V.cp_le, V.cp_gt, V.cp_ge, V.cp_in, V.cp_nin, V.is_n, V.isn_n, V.is_b, V.isn_b, V.is_i, V.isn_i, V.is_s, V.isn_s, V.is_l, V.isn_l, V.is_t, V.isn_t, V.is_bb, V.isn_bb, V.ix_l, V.ix_t, V.sl_l, V.bi_len, V.bi_lent, V.bi_abs, V.bi_max2, V.bi_min2, V.bi_int, V.bi_intb, V.bi_list, V.bi_listt, V.bi_tup, V.bi_tupt, V.bi_sum, V.bi_any, V.bi_all, V.bi_min1, V.bi_max1, V.bi_sorted, V.bi_repr, V.sq_d, V.sq_t, V.sq_o, V.ls_d, V.ls_o, V.tg_n, V.tg_t, V.vd_0, V.vo_0, V.vd_1, V.vo_1, V.vd_2, V.vo_2, V.vd_3, V.vo_3, V.vd_4, V.vo_4, V.vd_5, V.vo_5, V.vd_6, V.vo_6, V.vd_7, V.vo_7, V.vd_8, V.vo_8, V.vd_9, V.vo_9, V.vd_10, V.vo_10, V.vd_11, V.vo_11, V.vd_12, V.vo_12, V.vd_13, V.vo_13, V.vd_14, V.vo_14, V.vd_15, V.vo_15, V.e_int, V.e_bool, V.e_none, V.e_str, V.e_glob, V.e_bin, V.e_not, V.e_and, V.e_or, V.e_cmp, V.e_chain, V.e_ife, V.e_tup, V.e_lst, V.e_ix, V.e_call, V.e_callK, V.e_bi, V.e_inst, V.e_comp, V.ng, V.e_neg, V.e_slU, V.e_slL, V.e_lrg1, V.e_lrg3, V.es_n, V.es_c, V.it_seq, V.it_r1, V.it_r2, V.it_en, V.it_zip, V.ss_n, V.ss_c, V.s_asgF, V.kp_d, V.kp_o, V.s_asg, V.s_par, V.s_parN, V.tp_d, V.s_unp, V.s_expr, V.s_ret, V.s_retN, V.s_ite, V.s_for, V.s_pass, V.s_brk, V.s_cont, V.fz_0, V.ow_0, V.ap_0, V.fz_1, V.ow_1, V.ap_1, V.fz_2, V.ow_2, V.ap_2, V.fz_3, V.ow_3, V.ap_3, V.fz_4, V.ow_4, V.ap_4, V.fz_5, V.ow_5, V.ap_5, V.fz_6, V.ow_6, V.ap_6, V.fz_7, V.ow_7, V.ap_7, V.fz_8, V.ow_8, V.ap_8, V.fz_9, V.ow_9, V.ap_9, V.fz_10, V.ow_10, V.ap_10, V.fz_11, V.ow_11, V.ap_11, V.fz_12, V.ow_12, V.ap_12, V.fz_13, V.ow_13, V.ap_13, V.fz_14, V.ow_14, V.ap_14, V.fz_15, V.ow_15, V.ap_15, getE, setE, setMany, setNils, isTy, tyOf, List.map_cons, List.map_nil, List.length_cons, List.length_nil, List.cons_append, List.nil_append, List.append_nil, Nat.reduceSub, Nat.reduceAdd, atI_0, atI_1, atI_2, call_W5, call_W4, call_W2, call_W2o, call_W1, call_W1o, call_W0, call_W3, call_L0, call_L1, call_L1o, call_L2, call_L3, Option.some.injEq]
  refine ⟨by omega, ?_⟩
  rw [fmod_p gp]
  have b1 := Int.emod_nonneg (i + j - a) (show ((Int.gcd s t : Nat) : Int) ≠ 0 by omega)
  have b2 := Int.emod_lt_of_pos (i + j - a) gp
  refine ⟨⟨gp, by omega, by omega, by omega, by omega, by omega, ?_⟩, hD _ _ h⟩
  unfold rangeCn
  rw [sizeLine_eq]
  split
  · have : (t - (i + j - a) % ((Int.gcd s t : Nat) : Int) - 1) / ((Int.gcd s t : Nat) : Int) ≤ t - (i + j - a) % ((Int.gcd s t : Nat) : Int) - 1 := Int.ediv_le_self _ (by omega)
    omega
  · decide
def w_is_even : WF
  | [.int s, .int t], k => (1 ≤ s ∧ 1 ≤ t) ∧ k (.d (.bool (((Int.gcd s t : Nat) : Int) == 1)))
  | _, _ => False
theorem m_is_even : w_is_even.Mono := by
  intro xs k k' h q
  unfold w_is_even at q ⊢
  split <;> simp_all
def sp_is_even : ASp := spW w_is_even m_is_even
def b_is_even : Ss := (.cons (.expr (.call "check_wheels" sp_check_wheels (.cons (.var 0) (.cons (.var 1) .nil))))
  (.cons (.ret (.cmp .eq (.call "common_divisor" sp_common_divisor (.cons (.var 0) (.cons (.var 1) .nil))) (.int 1)))
  .nil))
theorem p_is_even : Body 2 2 [] b_is_even sp_is_even := by
  refine body_W (fun xs k h => ?_) fun xs k h => ?_
  · unfold w_is_even at h; split at h <;> simp_all
  unfold w_is_even at h
  split at h
  case h_2 => exact h.elim
  rename_i s t
  obtain ⟨h0, h⟩ := h
  unfold b_is_even
  simp only [initE, List.map_cons, List.map_nil, List.length_cons, List.length_nil, Nat.reduceAdd, Nat.reduceSub, List.replicate, List.cons_append, List.nil_append]
  simp -implicitDefEqProofs only [V.rd_d, V.rd_o, V.rd_b, V.da_d, V.da_o, V.das_n, V.das_c, V.rds_n, V.rds_c, V.tr_b, V.tr_i, V.tr_n, V.tr_l, V.tr_t, V.tr_o, V.bn_add, V.bn_sub, V.bn_mul, V.bn_fdiv, V.bn_mod, V.bn_pow, V.bn_cat, V.cp_eq, V.cp_ne, V.cp_lt, V.cp_le, V.cp_gt, V.cp_ge, V.cp_in, V.cp_nin, V.is_n, V.isn_n, V.is_b, V.isn_b, V.is_i, V.isn_i, V.is_s, V.isn_s, V.is_l, V.isn_l, V.is_t, V.isn_t, V.is_bb, V.isn_bb, V.ix_l, V.ix_t, V.sl_l, V.bi_len, V.bi_lent, V.bi_abs, V.bi_max2, V.bi_min2, V.bi_int, V.bi_intb, V.bi_list, V.bi_listt, V.bi_tup, V.bi_tupt, V.bi_sum, V.bi_any, V.bi_all, V.bi_min1, V.bi_max1, V.bi_sorted, V.bi_repr, V.sq_d, V.sq_t, V.sq_o, V.ls_d, V.ls_o, V.tg_n, V.tg_t, V.vd_0, V.vo_0, V.vd_1, V.vo_1, V.vd_2, V.vo_2, V.vd_3, V.vo_3, V.vd_4, V.vo_4, V.vd_5, V.vo_5, V.vd_6, V.vo_6, V.vd_7, V.vo_7, V.vd_8, V.vo_8, V.vd_9, V.vo_9, V.vd_10, V.vo_10, V.vd_11, V.vo_11, V.vd_12, V.vo_12, V.vd_13, V.vo_13, V.vd_14, V.vo_14, V.vd_15, V.vo_15, V.e_int, V.e_bool, V.e_none, V.e_str, V.e_glob, V.e_bin, V.e_not, V.e_and, V.e_or, V.e_cmp, V.e_chain, V.e_ife, V.e_tup, V.e_lst, V.e_ix, V.e_call, V.e_callK, V.e_bi, V.e_inst, V.e_comp, V.ng, V.e_neg, V.e_slU, V.e_slL, V.e_lrg1, V.e_lrg3, V.es_n, V.es_c, V.it_seq, V.it_r1, V.it_r2, V.it_en, V.it_zip, V.ss_n, V.ss_c, V.s_asgF, V.kp_d, V.kp_o, V.s_asg, V.s_par, V.s_parN, V.tp_d, V.s_unp, V.s_expr, V.s_ret, V.s_retN, V.s_ite, V.s_for, V.s_pass, V.s_brk, V.s_cont, V.fz_0, V.ow_0, V.ap_0, V.fz_1, V.ow_1, V.ap_1, V.fz_2, V.ow_2, V.ap_2, V.fz_3, V.ow_3, V.ap_3, V.fz_4, V.ow_4, V.ap_4, V.fz_5, V.ow_5, V.ap_5, V.fz_6, V.ow_6, V.ap_6, V.fz_7, V.ow_7, V.ap_7, V.fz_8, V.ow_8, V.ap_8, V.fz_9, V.ow_9, V.ap_9, V.fz_10, V.ow_10, V.ap_10, V.fz_11, V.ow_11, V.ap_11, V.fz_12, V.ow_12, V.ap_12, V.fz_13, V.ow_13, V.ap_13, V.fz_14, V.ow_14, V.ap_14, V.fz_15, V.ow_15, V.ap_15, getE, setE, setMany, setNils, isTy, tyOf, List.map_cons, List.map_nil, List.length_cons, List.length_nil, List.cons_append, List.nil_append, List.append_nil, Nat.reduceSub, Nat.reduceAdd, atI_0, atI_1, atI_2, call_W5, call_W4, call_W2, call_W2o, call_W1, call_W1o, call_W0, call_W3, call_L0, call_L1, call_L1o, call_L2, call_L3, Option.some.injEq, sp_check_wheels, w_check_wheels, sp_common_divisor, w_common_divisor]
  exact ⟨h0, rfl, rfl, h⟩
def w_pairs_met : WF
  | [.int s, .int t], k => ((1 ≤ s ∧ s ≤ 1000) ∧ 1 ≤ t ∧ t ≤ 1000) ∧ k (.d (.int (lcm2 s t)))
  | _, _ => False
theorem m_pairs_met : w_pairs_met.Mono := by
  intro xs k k' h q
  unfold w_pairs_met at q ⊢
  split <;> simp_all
def sp_pairs_met : ASp := spW w_pairs_met m_pairs_met
def b_pairs_met : Ss := (.cons (.expr (.call "check_wheels" sp_check_wheels (.cons (.var 0) (.cons (.var 1) .nil))))
  (.cons (.ret (.bin .fdiv (.bin .mul (.var 0) (.var 1)) (.call "common_divisor" sp_common_divisor (.cons (.var 0) (.cons (.var 1) .nil)))))
  .nil))
theorem lcm2_div {s t : Int} (ht : 0 < t) : s * t / (Int.gcd s t : Int) = lcm2 s t := by
  obtain ⟨g, N, K, gp, hg, h1, hN, h2, h3, h4, co⟩ := lcm2_eq (w := s) ht
  rw [h2, ← hg]
  conv => lhs; rw [h1]
  rw [show s * (g * N) = g * (s * N) by grind, Int.mul_ediv_cancel_left _ (by omega)]
theorem p_pairs_met : Body 2 2 [] b_pairs_met sp_pairs_met := by
  refine body_W (fun xs k h => ?_) fun xs k h => ?_
  · unfold w_pairs_met at h; split at h <;> simp_all
  unfold w_pairs_met at h
  split at h
  case h_2 => exact h.elim
  rename_i s t
  obtain ⟨⟨h0, h1⟩, h⟩ := h
  have gp := gcd_posR (u := s) (show 0 < t by omega)
  have sm : ∀ x : Int, 0 ≤ x → x ≤ 1000 → sz 20 x := fun x h1 h2 => by unfold sz; omega
  have gl := gcd_leR (u := s) (show 0 < t by omega)
  unfold b_pairs_met
  simp only [initE, List.map_cons, List.map_nil, List.length_cons, List.length_nil, Nat.reduceAdd, Nat.reduceSub, List.replicate, List.cons_append, List.nil_append]
  simp -implicitDefEqProofs only [V.rd_d, V.rd_o, V.rd_b, V.da_d, V.da_o, V.das_n, V.das_c, V.rds_n, V.rds_c, V.tr_b, V.tr_i, V.tr_n, V.tr_l, V.tr_t, V.tr_o, V.bn_add, V.bn_sub, V.bn_mul, V.bn_fdiv, V.bn_mod, V.bn_pow, V.bn_cat, V.cp_eq, V.cp_ne, V.cp_lt, V.cp_le, V.cp_gt, V.cp_ge, V.cp_in, V.cp_nin, V.is_n, V.isn_n, V.is_b, V.isn_b, V.is_i, V.isn_i, V.is_s, V.isn_s, V.is_l, V.isn_l, V.is_t, V.isn_t, V.is_bb, V.isn_bb, V.ix_l, V.ix_t, V.sl_l, V.bi_len, V.bi_lent, V.bi_abs, V.bi_max2, V.bi_min2, V.bi_int, V.bi_intb, V.bi_list, V.bi_listt, V.bi_tup, V.bi_tupt, V.bi_sum, V.bi_any, V.bi_all, V.bi_min1, V.bi_max1, V.bi_sorted, V.bi_repr, V.sq_d, V.sq_t, V.sq_o, V.ls_d, V.ls_o, V.tg_n, V.tg_t, V.vd_0, V.vo_0, V.vd_1, V.vo_1, V.vd_2, V.vo_2, V.vd_3, V.vo_3, V.vd_4, V.vo_4, V.vd_5, V.vo_5, V.vd_6, V.vo_6, V.vd_7, V.vo_7, V.vd_8, V.vo_8, V.vd_9, V.vo_9, V.vd_10, V.vo_10, V.vd_11, V.vo_11, V.vd_12, V.vo_12, V.vd_13, V.vo_13, V.vd_14, V.vo_14, V.vd_15, V.vo_15, V.e_int, V.e_bool, V.e_none, V.e_str, V.e_glob, V.e_bin, V.e_not, V.e_and, V.e_or, V.e_cmp, V.e_chain, V.e_ife, V.e_tup, V.e_lst, V.e_ix, V.e_call, V.e_callK, V.e_bi, V.e_inst, V.e_comp, V.ng, V.e_neg, V.e_slU, V.e_slL, V.e_lrg1, V.e_lrg3, V.es_n, V.es_c, V.it_seq, V.it_r1, V.it_r2, V.it_en, V.it_zip, V.ss_n, V.ss_c, V.s_asgF, V.kp_d, V.kp_o, V.s_asg, V.s_par, V.s_parN, V.tp_d, V.s_unp, V.s_expr, V.s_ret, V.s_retN, V.s_ite, V.s_for, V.s_pass, V.s_brk, V.s_cont, V.fz_0, V.ow_0, V.ap_0, V.fz_1, V.ow_1, V.ap_1, V.fz_2, V.ow_2, V.ap_2, V.fz_3, V.ow_3, V.ap_3, V.fz_4, V.ow_4, V.ap_4, V.fz_5, V.ow_5, V.ap_5, V.fz_6, V.ow_6, V.ap_6, V.fz_7, V.ow_7, V.ap_7, V.fz_8, V.ow_8, V.ap_8, V.fz_9, V.ow_9, V.ap_9, V.fz_10, V.ow_10, V.ap_10, V.fz_11, V.ow_11, V.ap_11, V.fz_12, V.ow_12, V.ap_12, V.fz_13, V.ow_13, V.ap_13, V.fz_14, V.ow_14, V.ap_14, V.fz_15, V.ow_15, V.ap_15, getE, setE, setMany, setNils, isTy, tyOf, List.map_cons, List.map_nil, List.length_cons, List.length_nil, List.cons_append, List.nil_append, List.append_nil, Nat.reduceSub, Nat.reduceAdd, atI_0, atI_1, atI_2, call_W5, call_W4, call_W2, call_W2o, call_W1, call_W1o, call_W0, call_W3, call_L0, call_L1, call_L1o, call_L2, call_L3, Option.some.injEq, sp_check_wheels, w_check_wheels, sp_common_divisor, w_common_divisor]
  rw [fdiv_p gp, lcm2_div (by omega)]
  exact ⟨⟨h0.1, h1.1⟩, (sm s (by omega) (by omega)).mulOk (sm t (by omega) (by omega)) (by decide), (sm _ (by omega) (by omega)).divOk (by decide) (by omega), h⟩
def cntF (c F L : Int) : Int := if (c - F + L - 1) / L > 0 then (c - F + L - 1) / L else 0
def w_times_met : WF
  | [.int s, .int t, .tuple [.int i, .int j], .int a, .int b, .int c], k => (okM s t i j a b ∧ 0 ≤ c) ∧ ((∀ x, ¬ M s t i j a b x) → k (.d (.int 0))) ∧ ∀ F, Sol (M s t i j a b) F (lcm2 s t) → k (.d (.int (cntF c F (lcm2 s t))))
  | _, _ => False
theorem m_times_met : w_times_met.Mono := by
  intro xs k k' h q
  unfold w_times_met at q ⊢
  split at q
  · exact ⟨q.1, fun z => h _ (q.2.1 z), fun F z => h _ (q.2.2 F z)⟩
  · exact q.elim
def sp_times_met : ASp := spW w_times_met m_times_met
def b_times_met_6 : Ss := (.cons (.ret (.bi .max2 (.cons (.int 0) (.cons (.bin .fdiv (.bin .sub (.bin .add (.bin .sub (.var 5) (.var 7)) (.var 8)) (.int 1)) (.var 8)) .nil)))) .nil)
def b_times_met_5 : Ss := (.cons (.unp [7, 8] (.var 6)) b_times_met_6)
def b_times_met_4 : Ss := (.cons (.ite (.cmp .is (.var 6) .none) (.cons (.ret (.int 0))
  .nil) .nil) b_times_met_5)
def b_times_met_3 : Ss := (.cons (.asgF 6 (.call "passes_at" sp_passes_at (.cons (.var 0) (.cons (.var 1) (.cons (.var 2) (.cons (.var 3) (.cons (.var 4) .nil))))))) b_times_met_4)
def b_times_met_2 : Ss := (.cons (.expr (.call "check_count" sp_check_count (.cons (.var 5) .nil))) b_times_met_3)
def b_times_met : Ss := (.cons (.expr (.call "check_meeting" sp_check_meeting (.cons (.var 0) (.cons (.var 1) (.cons (.var 2) (.cons (.var 3) (.cons (.var 4) .nil))))))) b_times_met_2)
theorem call_W6 {f : WF} {m : f.Mono} {a b c d e g : PyData} {env : AEnv} {Q : AV → AEnv → Prop} {X : XQ} : callK (spW f m) [.d a, .d b, .d c, .d d, .d e, .d g] env Q X ↔ f [a, b, c, d, e, g] fun r => Q r env := call_W rfl
theorem p_times_met : Body 6 9 [] b_times_met sp_times_met := by
  refine body_WT (fun xs k h => ?_) fun xs k h D hD _ _ => ?_
  · unfold w_times_met at h; split at h
    · rfl
    · exact h.elim
  unfold w_times_met at h
  split at h
  case h_2 => exact h.elim
  rename_i s t i j a b c
  obtain ⟨⟨ok, c0⟩, hn, hs⟩ := h
  have ok' := ok
  obtain ⟨h1, h2, h3, h4, h5, h6⟩ := ok
  have sm : ∀ x : Int, 0 ≤ x → x ≤ 1000 → sz 20 x := fun x h1 h2 => by unfold sz; omega
  have Lp := lcm2_pos (show 0 < s by omega) (show 0 < t by omega)
  have sL : sz 40 (lcm2 s t) := ((sm s (by omega) (by omega)).mul (sm t (by omega) (by omega))).le (by omega) (lcm2_le (by omega) (by omega))
  unfold b_times_met
  simp only [initE, List.map_cons, List.map_nil, List.length_cons, List.length_nil, Nat.reduceAdd, Nat.reduceSub, List.replicate, List.cons_append, List.nil_append]
  simp -implicitDefEqProofs only [V.rd_d, V.rd_o, V.rd_b, V.da_d, V.da_o, V.das_n, V.das_c, V.rds_n, V.rds_c, V.tr_b, V.tr_i, V.tr_n, V.tr_l, V.tr_t, V.tr_o, V.bn_add, V.bn_sub, V.bn_mul, V.bn_fdiv, V.bn_mod, V.bn_pow, V.bn_cat, V.cp_eq, V.cp_ne, V.cp_lt, V.cp_le, V.cp_gt, V.cp_ge, V.cp_in, V.cp_nin, V.is_n, V.isn_n, V.is_b, V.isn_b, V.is_i, V.isn_i, V.is_s, V.isn_s, V.is_l, V.isn_l, V.is_t, V.isn_t, V.is_bb, V.isn_bb, V.ix_l, V.ix_t, V.sl_l, V.bi_len, V.bi_lent, V.bi_abs, V.bi_max2, V.bi_min2, V.bi_int, V.bi_intb, V.bi_list, V.bi_listt, V.bi_tup, V.bi_tupt, V.bi_sum, V.bi_any, V.bi_all, V.bi_min1, V.bi_max1, V.bi_sorted, V.bi_repr, V.sq_d, V.sq_t, V.sq_o, V.ls_d, V.ls_o, V.tg_n, V.tg_t, V.vd_0, V.vo_0, V.vd_1, V.vo_1, V.vd_2, V.vo_2, V.vd_3, V.vo_3, V.vd_4, V.vo_4, V.vd_5, V.vo_5, V.vd_6, V.vo_6, V.vd_7, V.vo_7, V.vd_8, V.vo_8, V.vd_9, V.vo_9, V.vd_10, V.vo_10, V.vd_11, V.vo_11, V.vd_12, V.vo_12, V.vd_13, V.vo_13, V.vd_14, V.vo_14, V.vd_15, V.vo_15, V.e_int, V.e_bool, V.e_none, V.e_str, V.e_glob, V.e_bin, V.e_not, V.e_and, V.e_or, V.e_cmp, V.e_chain, V.e_ife, V.e_tup, V.e_lst, V.e_ix, V.e_call, V.e_callK, V.e_bi, V.e_inst, V.e_comp, V.ng, V.e_neg, V.e_slU, V.e_slL, V.e_lrg1, V.e_lrg3, V.es_n, V.es_c, V.it_seq, V.it_r1, V.it_r2, V.it_en, V.it_zip, V.ss_n, V.ss_c, V.s_asgF, V.kp_d, V.kp_o, V.s_asg, V.s_par, V.s_parN, V.tp_d, V.s_unp, V.s_expr, V.s_ret, V.s_retN, V.s_ite, V.s_for, V.s_pass, V.s_brk, V.s_cont, V.fz_0, V.ow_0, V.ap_0, V.fz_1, V.ow_1, V.ap_1, V.fz_2, V.ow_2, V.ap_2, V.fz_3, V.ow_3, V.ap_3, V.fz_4, V.ow_4, V.ap_4, V.fz_5, V.ow_5, V.ap_5, V.fz_6, V.ow_6, V.ap_6, V.fz_7, V.ow_7, V.ap_7, V.fz_8, V.ow_8, V.ap_8, V.fz_9, V.ow_9, V.ap_9, V.fz_10, V.ow_10, V.ap_10, V.fz_11, V.ow_11, V.ap_11, V.fz_12, V.ow_12, V.ap_12, V.fz_13, V.ow_13, V.ap_13, V.fz_14, V.ow_14, V.ap_14, V.fz_15, V.ow_15, V.ap_15, getE, setE, setMany, setNils, isTy, tyOf, List.map_cons, List.map_nil, List.length_cons, List.length_nil, List.cons_append, List.nil_append, List.append_nil, Nat.reduceSub, Nat.reduceAdd, atI_0, atI_1, atI_2, call_W5, call_W4, call_W2, call_W2o, call_W1, call_W1o, call_W0, call_W3, call_L0, call_L1, call_L1o, call_L2, call_L3, Option.some.injEq, sp_check_meeting, w_check_meeting]
  refine ⟨ok', ?_⟩
  unfold b_times_met_2
  simp -implicitDefEqProofs only [V.rd_d, V.rd_o, V.rd_b, V.da_d, V.da_o, V.das_n, V.das_c, V.rds_n, V.rds_c, V.tr_b, V.tr_i, V.tr_n, V.tr_l, V.tr_t, V.tr_o, V.bn_add, V.bn_sub, V.bn_mul, V.bn_fdiv, V.bn_mod, V.bn_pow, V.bn_cat, V.cp_eq, V.cp_ne, V.cp_lt, V.cp_le, V.cp_gt, V.cp_ge, V.cp_in, V.cp_nin, V.is_n, V.isn_n, V.is_b, V.isn_b, V.is_i, V.isn_i, V.is_s, V.isn_s, V.is_l, V.isn_l, V.is_t, V.isn_t, V.is_bb, V.isn_bb, V.ix_l, V.ix_t, V.sl_l, V.bi_len, V.bi_lent, V.bi_abs, V.bi_max2, V.bi_min2, V.bi_int, V.bi_intb, V.bi_list, V.bi_listt, V.bi_tup, V.bi_tupt, V.bi_sum, V.bi_any, V.bi_all, V.bi_min1, V.bi_max1, V.bi_sorted, V.bi_repr, V.sq_d, V.sq_t, V.sq_o, V.ls_d, V.ls_o, V.tg_n, V.tg_t, V.vd_0, V.vo_0, V.vd_1, V.vo_1, V.vd_2, V.vo_2, V.vd_3, V.vo_3, V.vd_4, V.vo_4, V.vd_5, V.vo_5, V.vd_6, V.vo_6, V.vd_7, V.vo_7, V.vd_8, V.vo_8, V.vd_9, V.vo_9, V.vd_10, V.vo_10, V.vd_11, V.vo_11, V.vd_12, V.vo_12, V.vd_13, V.vo_13, V.vd_14, V.vo_14, V.vd_15, V.vo_15, V.e_int, V.e_bool, V.e_none, V.e_str, V.e_glob, V.e_bin, V.e_not, V.e_and, V.e_or, V.e_cmp, V.e_chain, V.e_ife, V.e_tup, V.e_lst, V.e_ix, V.e_call, V.e_callK, V.e_bi, V.e_inst, V.e_comp, V.ng, V.e_neg, V.e_slU, V.e_slL, V.e_lrg1, V.e_lrg3, V.es_n, V.es_c, V.it_seq, V.it_r1, V.it_r2, V.it_en, V.it_zip, V.ss_n, V.ss_c, V.s_asgF, V.kp_d, V.kp_o, V.s_asg, V.s_par, V.s_parN, V.tp_d, V.s_unp, V.s_expr, V.s_ret, V.s_retN, V.s_ite, V.s_for, V.s_pass, V.s_brk, V.s_cont, V.fz_0, V.ow_0, V.ap_0, V.fz_1, V.ow_1, V.ap_1, V.fz_2, V.ow_2, V.ap_2, V.fz_3, V.ow_3, V.ap_3, V.fz_4, V.ow_4, V.ap_4, V.fz_5, V.ow_5, V.ap_5, V.fz_6, V.ow_6, V.ap_6, V.fz_7, V.ow_7, V.ap_7, V.fz_8, V.ow_8, V.ap_8, V.fz_9, V.ow_9, V.ap_9, V.fz_10, V.ow_10, V.ap_10, V.fz_11, V.ow_11, V.ap_11, V.fz_12, V.ow_12, V.ap_12, V.fz_13, V.ow_13, V.ap_13, V.fz_14, V.ow_14, V.ap_14, V.fz_15, V.ow_15, V.ap_15, getE, setE, setMany, setNils, isTy, tyOf, List.map_cons, List.map_nil, List.length_cons, List.length_nil, List.cons_append, List.nil_append, List.append_nil, Nat.reduceSub, Nat.reduceAdd, atI_0, atI_1, atI_2, call_W5, call_W4, call_W2, call_W2o, call_W1, call_W1o, call_W0, call_W3, call_L0, call_L1, call_L1o, call_L2, call_L3, Option.some.injEq, sp_check_count, w_check_count]
  refine ⟨c0, ?_⟩
  unfold b_times_met_3
  simp -implicitDefEqProofs only [V.rd_d, V.rd_o, V.rd_b, V.da_d, V.da_o, V.das_n, V.das_c, V.rds_n, V.rds_c, V.tr_b, V.tr_i, V.tr_n, V.tr_l, V.tr_t, V.tr_o, V.bn_add, V.bn_sub, V.bn_mul, V.bn_fdiv, V.bn_mod, V.bn_pow, V.bn_cat, V.cp_eq, V.cp_ne, V.cp_lt, V.cp_le, V.cp_gt, V.cp_ge, V.cp_in, V.cp_nin, V.is_n, V.isn_n, V.is_b, V.isn_b, V.is_i, V.isn_i, V.is_s, V.isn_s, V.is_l, V.isn_l, V.is_t, V.isn_t, V.is_bb, V.isn_bb, V.ix_l, V.ix_t, V.sl_l, V.bi_len, V.bi_lent, V.bi_abs, V.bi_max2, V.bi_min2, V.bi_int, V.bi_intb, V.bi_list, V.bi_listt, V.bi_tup, V.bi_tupt, V.bi_sum, V.bi_any, V.bi_all, V.bi_min1, V.bi_max1, V.bi_sorted, V.bi_repr, V.sq_d, V.sq_t, V.sq_o, V.ls_d, V.ls_o, V.tg_n, V.tg_t, V.vd_0, V.vo_0, V.vd_1, V.vo_1, V.vd_2, V.vo_2, V.vd_3, V.vo_3, V.vd_4, V.vo_4, V.vd_5, V.vo_5, V.vd_6, V.vo_6, V.vd_7, V.vo_7, V.vd_8, V.vo_8, V.vd_9, V.vo_9, V.vd_10, V.vo_10, V.vd_11, V.vo_11, V.vd_12, V.vo_12, V.vd_13, V.vo_13, V.vd_14, V.vo_14, V.vd_15, V.vo_15, V.e_int, V.e_bool, V.e_none, V.e_str, V.e_glob, V.e_bin, V.e_not, V.e_and, V.e_or, V.e_cmp, V.e_chain, V.e_ife, V.e_tup, V.e_lst, V.e_ix, V.e_call, V.e_callK, V.e_bi, V.e_inst, V.e_comp, V.ng, V.e_neg, V.e_slU, V.e_slL, V.e_lrg1, V.e_lrg3, V.es_n, V.es_c, V.it_seq, V.it_r1, V.it_r2, V.it_en, V.it_zip, V.ss_n, V.ss_c, V.s_asgF, V.kp_d, V.kp_o, V.s_asg, V.s_par, V.s_parN, V.tp_d, V.s_unp, V.s_expr, V.s_ret, V.s_retN, V.s_ite, V.s_for, V.s_pass, V.s_brk, V.s_cont, V.fz_0, V.ow_0, V.ap_0, V.fz_1, V.ow_1, V.ap_1, V.fz_2, V.ow_2, V.ap_2, V.fz_3, V.ow_3, V.ap_3, V.fz_4, V.ow_4, V.ap_4, V.fz_5, V.ow_5, V.ap_5, V.fz_6, V.ow_6, V.ap_6, V.fz_7, V.ow_7, V.ap_7, V.fz_8, V.ow_8, V.ap_8, V.fz_9, V.ow_9, V.ap_9, V.fz_10, V.ow_10, V.ap_10, V.fz_11, V.ow_11, V.ap_11, V.fz_12, V.ow_12, V.ap_12, V.fz_13, V.ow_13, V.ap_13, V.fz_14, V.ow_14, V.ap_14, V.fz_15, V.ow_15, V.ap_15, getE, setE, setMany, setNils, isTy, tyOf, List.map_cons, List.map_nil, List.length_cons, List.length_nil, List.cons_append, List.nil_append, List.append_nil, Nat.reduceSub, Nat.reduceAdd, atI_0, atI_1, atI_2, call_W5, call_W4, call_W2, call_W2o, call_W1, call_W1o, call_W0, call_W3, call_L0, call_L1, call_L1o, call_L2, call_L3, Option.some.injEq, sp_passes_at, w_passes_at]
  refine ⟨ok', fun z => ?_, fun F so => ?_⟩
  · unfold b_times_met_4
    simp -implicitDefEqProofs only [V.rd_d, V.rd_o, V.rd_b, V.da_d, V.da_o, V.das_n, V.das_c, V.rds_n, V.rds_c, V.tr_b, V.tr_i, V.tr_n, V.tr_l, V.tr_t, V.tr_o, V.bn_add, V.bn_sub, V.bn_mul, V.bn_fdiv, V.bn_mod, V.bn_pow, V.bn_cat, V.cp_eq, V.cp_ne, V.cp_lt, V.cp_le, V.cp_gt, V.cp_ge, V.cp_in, V.cp_nin, V.is_n, V.isn_n, V.is_b, V.isn_b, V.is_i, V.isn_i, V.is_s, V.isn_s, V.is_l, V.isn_l, V.is_t, V.isn_t, V.is_bb, V.isn_bb, V.ix_l, V.ix_t, V.sl_l, V.bi_len, V.bi_lent, V.bi_abs, V.bi_max2, V.bi_min2, V.bi_int, V.bi_intb, V.bi_list, V.bi_listt, V.bi_tup, V.bi_tupt, V.bi_sum, V.bi_any, V.bi_all, V.bi_min1, V.bi_max1, V.bi_sorted, V.bi_repr, V.sq_d, V.sq_t, V.sq_o, V.ls_d, V.ls_o, V.tg_n, V.tg_t, V.vd_0, V.vo_0, V.vd_1, V.vo_1, V.vd_2, V.vo_2, V.vd_3, V.vo_3, V.vd_4, V.vo_4, V.vd_5, V.vo_5, V.vd_6, V.vo_6, V.vd_7, V.vo_7, V.vd_8, V.vo_8, V.vd_9, V.vo_9, V.vd_10, V.vo_10, V.vd_11, V.vo_11, V.vd_12, V.vo_12, V.vd_13, V.vo_13, V.vd_14, V.vo_14, V.vd_15, V.vo_15, V.e_int, V.e_bool, V.e_none, V.e_str, V.e_glob, V.e_bin, V.e_not, V.e_and, V.e_or, V.e_cmp, V.e_chain, V.e_ife, V.e_tup, V.e_lst, V.e_ix, V.e_call, V.e_callK, V.e_bi, V.e_inst, V.e_comp, V.ng, V.e_neg, V.e_slU, V.e_slL, V.e_lrg1, V.e_lrg3, V.es_n, V.es_c, V.it_seq, V.it_r1, V.it_r2, V.it_en, V.it_zip, V.ss_n, V.ss_c, V.s_asgF, V.kp_d, V.kp_o, V.s_asg, V.s_par, V.s_parN, V.tp_d, V.s_unp, V.s_expr, V.s_ret, V.s_retN, V.s_ite, V.s_for, V.s_pass, V.s_brk, V.s_cont, V.fz_0, V.ow_0, V.ap_0, V.fz_1, V.ow_1, V.ap_1, V.fz_2, V.ow_2, V.ap_2, V.fz_3, V.ow_3, V.ap_3, V.fz_4, V.ow_4, V.ap_4, V.fz_5, V.ow_5, V.ap_5, V.fz_6, V.ow_6, V.ap_6, V.fz_7, V.ow_7, V.ap_7, V.fz_8, V.ow_8, V.ap_8, V.fz_9, V.ow_9, V.ap_9, V.fz_10, V.ow_10, V.ap_10, V.fz_11, V.ow_11, V.ap_11, V.fz_12, V.ow_12, V.ap_12, V.fz_13, V.ow_13, V.ap_13, V.fz_14, V.ow_14, V.ap_14, V.fz_15, V.ow_15, V.ap_15, getE, setE, setMany, setNils, isTy, tyOf, List.map_cons, List.map_nil, List.length_cons, List.length_nil, List.cons_append, List.nil_append, List.append_nil, Nat.reduceSub, Nat.reduceAdd, atI_0, atI_1, atI_2, call_W5, call_W4, call_W2, call_W2o, call_W1, call_W1o, call_W0, call_W3, call_L0, call_L1, call_L1o, call_L2, call_L3, Option.some.injEq, if_true]
    exact hD _ _ (hn z)
  · unfold b_times_met_4 tn
    simp -implicitDefEqProofs only [V.rd_d, V.rd_o, V.rd_b, V.da_d, V.da_o, V.das_n, V.das_c, V.rds_n, V.rds_c, V.tr_b, V.tr_i, V.tr_n, V.tr_l, V.tr_t, V.tr_o, V.bn_add, V.bn_sub, V.bn_mul, V.bn_fdiv, V.bn_mod, V.bn_pow, V.bn_cat, V.cp_eq, V.cp_ne, V.cp_lt, V.cp_le, V.cp_gt, V.cp_ge, V.cp_in, V.cp_nin, V.is_n, V.isn_n, V.is_b, V.isn_b, V.is_i, V.isn_i, V.is_s, V.isn_s, V.is_l, V.isn_l, V.is_t, V.isn_t, V.is_bb, V.isn_bb, V.ix_l, V.ix_t, V.sl_l, V.bi_len, V.bi_lent, V.bi_abs, V.bi_max2, V.bi_min2, V.bi_int, V.bi_intb, V.bi_list, V.bi_listt, V.bi_tup, V.bi_tupt, V.bi_sum, V.bi_any, V.bi_all, V.bi_min1, V.bi_max1, V.bi_sorted, V.bi_repr, V.sq_d, V.sq_t, V.sq_o, V.ls_d, V.ls_o, V.tg_n, V.tg_t, V.vd_0, V.vo_0, V.vd_1, V.vo_1, V.vd_2, V.vo_2, V.vd_3, V.vo_3, V.vd_4, V.vo_4, V.vd_5, V.vo_5, V.vd_6, V.vo_6, V.vd_7, V.vo_7, V.vd_8, V.vo_8, V.vd_9, V.vo_9, V.vd_10, V.vo_10, V.vd_11, V.vo_11, V.vd_12, V.vo_12, V.vd_13, V.vo_13, V.vd_14, V.vo_14, V.vd_15, V.vo_15, V.e_int, V.e_bool, V.e_none, V.e_str, V.e_glob, V.e_bin, V.e_not, V.e_and, V.e_or, V.e_cmp, V.e_chain, V.e_ife, V.e_tup, V.e_lst, V.e_ix, V.e_call, V.e_callK, V.e_bi, V.e_inst, V.e_comp, V.ng, V.e_neg, V.e_slU, V.e_slL, V.e_lrg1, V.e_lrg3, V.es_n, V.es_c, V.it_seq, V.it_r1, V.it_r2, V.it_en, V.it_zip, V.ss_n, V.ss_c, V.s_asgF, V.kp_d, V.kp_o, V.s_asg, V.s_par, V.s_parN, V.tp_d, V.s_unp, V.s_expr, V.s_ret, V.s_retN, V.s_ite, V.s_for, V.s_pass, V.s_brk, V.s_cont, V.fz_0, V.ow_0, V.ap_0, V.fz_1, V.ow_1, V.ap_1, V.fz_2, V.ow_2, V.ap_2, V.fz_3, V.ow_3, V.ap_3, V.fz_4, V.ow_4, V.ap_4, V.fz_5, V.ow_5, V.ap_5, V.fz_6, V.ow_6, V.ap_6, V.fz_7, V.ow_7, V.ap_7, V.fz_8, V.ow_8, V.ap_8, V.fz_9, V.ow_9, V.ap_9, V.fz_10, V.ow_10, V.ap_10, V.fz_11, V.ow_11, V.ap_11, V.fz_12, V.ow_12, V.ap_12, V.fz_13, V.ow_13, V.ap_13, V.fz_14, V.ow_14, V.ap_14, V.fz_15, V.ow_15, V.ap_15, getE, setE, setMany, setNils, isTy, tyOf, List.map_cons, List.map_nil, List.length_cons, List.length_nil, List.cons_append, List.nil_append, List.append_nil, Nat.reduceSub, Nat.reduceAdd, atI_0, atI_1, atI_2, call_W5, call_W4, call_W2, call_W2o, call_W1, call_W1o, call_W0, call_W3, call_L0, call_L1, call_L1o, call_L2, call_L3, Option.some.injEq, Bool.false_eq_true, if_false]
    unfold b_times_met_5
    simp -implicitDefEqProofs only [V.rd_d, V.rd_o, V.rd_b, V.da_d, V.da_o, V.das_n, V.das_c, V.rds_n, V.rds_c, V.tr_b, V.tr_i, V.tr_n, V.tr_l, V.tr_t, V.tr_o, V.bn_add, V.bn_sub, V.bn_mul, V.bn_fdiv, V.bn_mod, V.bn_pow, V.bn_cat, V.cp_eq, V.cp_ne, V.cp_lt, V.cp_le, V.cp_gt, V.cp_ge, V.cp_in, V.cp_nin, V.is_n, V.isn_n, V.is_b, V.isn_b, V.is_i, V.isn_i, V.is_s, V.isn_s, V.is_l, V.isn_l, V.is_t, V.isn_t, V.is_bb, V.isn_bb, V.ix_l, V.ix_t, V.sl_l, V.bi_len, V.bi_lent, V.bi_abs, V.bi_max2, V.bi_min2, V.bi_int, V.bi_intb, V.bi_list, V.bi_listt, V.bi_tup, V.bi_tupt, V.bi_sum, V.bi_any, V.bi_all, V.bi_min1, V.bi_max1, V.bi_sorted, V.bi_repr, V.sq_d, V.sq_t, V.sq_o, V.ls_d, V.ls_o, V.tg_n, V.tg_t, V.vd_0, V.vo_0, V.vd_1, V.vo_1, V.vd_2, V.vo_2, V.vd_3, V.vo_3, V.vd_4, V.vo_4, V.vd_5, V.vo_5, V.vd_6, V.vo_6, V.vd_7, V.vo_7, V.vd_8, V.vo_8, V.vd_9, V.vo_9, V.vd_10, V.vo_10, V.vd_11, V.vo_11, V.vd_12, V.vo_12, V.vd_13, V.vo_13, V.vd_14, V.vo_14, V.vd_15, V.vo_15, V.e_int, V.e_bool, V.e_none, V.e_str, V.e_glob, V.e_bin, V.e_not, V.e_and, V.e_or, V.e_cmp, V.e_chain, V.e_ife, V.e_tup, V.e_lst, V.e_ix, V.e_call, V.e_callK, V.e_bi, V.e_inst, V.e_comp, V.ng, V.e_neg, V.e_slU, V.e_slL, V.e_lrg1, V.e_lrg3, V.es_n, V.es_c, V.it_seq, V.it_r1, V.it_r2, V.it_en, V.it_zip, V.ss_n, V.ss_c, V.s_asgF, V.kp_d, V.kp_o, V.s_asg, V.s_par, V.s_parN, V.tp_d, V.s_unp, V.s_expr, V.s_ret, V.s_retN, V.s_ite, V.s_for, V.s_pass, V.s_brk, V.s_cont, V.fz_0, V.ow_0, V.ap_0, V.fz_1, V.ow_1, V.ap_1, V.fz_2, V.ow_2, V.ap_2, V.fz_3, V.ow_3, V.ap_3, V.fz_4, V.ow_4, V.ap_4, V.fz_5, V.ow_5, V.ap_5, V.fz_6, V.ow_6, V.ap_6, V.fz_7, V.ow_7, V.ap_7, V.fz_8, V.ow_8, V.ap_8, V.fz_9, V.ow_9, V.ap_9, V.fz_10, V.ow_10, V.ap_10, V.fz_11, V.ow_11, V.ap_11, V.fz_12, V.ow_12, V.ap_12, V.fz_13, V.ow_13, V.ap_13, V.fz_14, V.ow_14, V.ap_14, V.fz_15, V.ow_15, V.ap_15, getE, setE, setMany, setNils, isTy, tyOf, List.map_cons, List.map_nil, List.length_cons, List.length_nil, List.cons_append, List.nil_append, List.append_nil, Nat.reduceSub, Nat.reduceAdd, atI_0, atI_1, atI_2, call_W5, call_W4, call_W2, call_W2o, call_W1, call_W1o, call_W0, call_W3, call_L0, call_L1, call_L1o, call_L2, call_L3, Option.some.injEq]
    refine ⟨trivial, ?_⟩
    unfold b_times_met_6
    simp -implicitDefEqProofs only [V.rd_d, V.rd_o, V.rd_b, V.da_d, V.da_o, V.das_n, V.das_c, V.rds_n, V.rds_c, V.tr_b, V.tr_i, V.tr_n, V.tr_l, V.tr_t, V.tr_o, V.bn_add, V.bn_sub, V.bn_mul, V.bn_fdiv, V.bn_mod, V.bn_pow, V.bn_cat, V.cp_eq, V.cp_ne, V.cp_lt, V.cp_le, V.cp_gt, V.cp_ge, V.cp_in, V.cp_nin, V.is_n, V.isn_n, V.is_b, V.isn_b, V.is_i, V.isn_i, V.is_s, V.isn_s, V.is_l, V.isn_l, V.is_t, V.isn_t, V.is_bb, V.isn_bb, V.ix_l, V.ix_t, V.sl_l, V.bi_len, V.bi_lent, V.bi_abs, V.bi_max2, V.bi_min2, V.bi_int, V.bi_intb, V.bi_list, V.bi_listt, V.bi_tup, V.bi_tupt, V.bi_sum, V.bi_any, V.bi_all, V.bi_min1, V.bi_max1, V.bi_sorted, V.bi_repr, V.sq_d, V.sq_t, V.sq_o, V.ls_d, V.ls_o, V.tg_n, V.tg_t, V.vd_0, V.vo_0, V.vd_1, V.vo_1, V.vd_2, V.vo_2, V.vd_3, V.vo_3, V.vd_4, V.vo_4, V.vd_5, V.vo_5, V.vd_6, V.vo_6, V.vd_7, V.vo_7, V.vd_8, V.vo_8, V.vd_9, V.vo_9, V.vd_10, V.vo_10, V.vd_11, V.vo_11, V.vd_12, V.vo_12, V.vd_13, V.vo_13, V.vd_14, V.vo_14, V.vd_15, V.vo_15, V.e_int, V.e_bool, V.e_none, V.e_str, V.e_glob, V.e_bin, V.e_not, V.e_and, V.e_or, V.e_cmp, V.e_chain, V.e_ife, V.e_tup, V.e_lst, V.e_ix, V.e_call, V.e_callK, V.e_bi, V.e_inst, V.e_comp, V.ng, V.e_neg, V.e_slU, V.e_slL, V.e_lrg1, V.e_lrg3, V.es_n, V.es_c, V.it_seq, V.it_r1, V.it_r2, V.it_en, V.it_zip, V.ss_n, V.ss_c, V.s_asgF, V.kp_d, V.kp_o, V.s_asg, V.s_par, V.s_parN, V.tp_d, V.s_unp, V.s_expr, V.s_ret, V.s_retN, V.s_ite, V.s_for, V.s_pass, V.s_brk, V.s_cont, V.fz_0, V.ow_0, V.ap_0, V.fz_1, V.ow_1, V.ap_1, V.fz_2, V.ow_2, V.ap_2, V.fz_3, V.ow_3, V.ap_3, V.fz_4, V.ow_4, V.ap_4, V.fz_5, V.ow_5, V.ap_5, V.fz_6, V.ow_6, V.ap_6, V.fz_7, V.ow_7, V.ap_7, V.fz_8, V.ow_8, V.ap_8, V.fz_9, V.ow_9, V.ap_9, V.fz_10, V.ow_10, V.ap_10, V.fz_11, V.ow_11, V.ap_11, V.fz_12, V.ow_12, V.ap_12, V.fz_13, V.ow_13, V.ap_13, V.fz_14, V.ow_14, V.ap_14, V.fz_15, V.ow_15, V.ap_15, getE, setE, setMany, setNils, isTy, tyOf, List.map_cons, List.map_nil, List.length_cons, List.length_nil, List.cons_append, List.nil_append, List.append_nil, Nat.reduceSub, Nat.reduceAdd, atI_0, atI_1, atI_2, call_W5, call_W4, call_W2, call_W2o, call_W1, call_W1o, call_W0, call_W3, call_L0, call_L1, call_L1o, call_L2, call_L3, Option.some.injEq]
    rw [fdiv_p Lp]
    exact ⟨sL.divOk (by decide) (by omega), hD _ _ (hs F so)⟩
end K50

set_option maxRecDepth 100000
set_option maxHeartbeats 1000000
namespace K50
open PySem PF NL
def Urn (n : Nat) (l : List PyData) : Prop := ∃ a b c : Int, l = [.int a, .int b, .int c] ∧ 0 ≤ a ∧ (0 ≤ b ∧ b < 10 ^ 40) ∧ 0 ≤ c ∧ c ≤ n
theorem Urn.mono {n m : Nat} {l : List PyData} (h : Urn n l) (e : n ≤ m) : Urn m l := by
  obtain ⟨a, b, c, h1, h2, h3, h4, h5⟩ := h
  exact ⟨a, b, c, h1, h2, h3, h4, by omega⟩
def w__law_urn : WF
  | [.list xs, .int i], k => ((∃ ns : List Int, xs = ns.map .int) ∧ 0 ≤ i ∧ i ≤ 100) ∧ ∀ l, Urn 0 l → k (.o l)
  | _, _ => False
theorem m__law_urn : w__law_urn.Mono := by
  intro xs k k' h q
  unfold w__law_urn at q ⊢
  split at q
  · exact ⟨q.1, fun l hl => h _ (q.2 l hl)⟩
  · exact q.elim
def sp__law_urn : ASp := spW w__law_urn m__law_urn
def b__law_urn : Ss := (.cons (.asgF 2 (.ife (.cmp .lt (.var 1) (.bi .len (.cons (.var 0) .nil))) (.ix (.var 0) (.var 1)) (.bin .add (.bin .mul (.int 61) (.var 1)) (.int 43))))
  (.cons (.ret (.lst (.cons (.bi .max2 (.cons (.int 0) (.cons (.bin .sub (.bi .abs (.cons (.var 2) .nil)) (.bin .pow (.int 10) (.int 18))) .nil))) (.cons (.bin .add (.bin .add (.bin .mul (.bin .mod (.bi .int (.cons (.var 2) .nil)) (.bin .add (.bin .pow (.int 10) (.int 27)) (.int 103))) (.int 7)) (.bin .mul (.int 3) (.var 1))) (.int 2)) (.cons (.int 0) .nil)))))
  .nil))
theorem urn_end {k : AV → Prop} {z i : Int} (hi : 0 ≤ i ∧ i ≤ 100) (h : ∀ l, Urn 0 l → k (.o l)) (A : Int) : k (.o [.int (if A > 0 then A else 0), .int (z % 1000000000000000000000000103 * 7 + 3 * i + 2), .int 0]) := by
  refine h _ ⟨_, _, _, rfl, ?_, ⟨?_, ?_⟩, by omega, by omega⟩
  · split <;> omega
  · omega
  · omega
theorem p__law_urn : Body 2 3 [] b__law_urn sp__law_urn := by
  refine body_W (fun xs k h => ?_) fun xs k h => ?_
  · unfold w__law_urn at h; split at h <;> simp_all
  unfold w__law_urn at h
  split at h
  case h_2 => exact h.elim
  rename_i xs i
  obtain ⟨⟨⟨ns, rfl⟩, hi⟩, h⟩ := h
  have hi1 := hi.1
  have s3 : sz 7 i := by unfold sz; omega
  have s61 : sz 7 61 := by unfold sz; decide
  have s33 : sz 7 3 := by unfold sz; decide
  have s7 : sz 7 7 := by unfold sz; decide
  have sm : ∀ z : Int, sz 100 (z % 1000000000000000000000000103) := fun z => by
    unfold sz
    have : z % 1000000000000000000000000103 < 1000000000000000000000000103 := Int.emod_lt_of_pos _ (by decide)
    omega
  unfold b__law_urn
  simp only [initE, List.map_cons, List.map_nil, List.length_cons, List.length_nil, Nat.reduceAdd, Nat.reduceSub, List.replicate, List.cons_append, List.nil_append]
  simp only [wSs, wS, wEs, wE, wIt, getE, setE, rdsK, rdK, biK, datasK, dataK, setMany, setNils, cmpK, binK, truthK, truth, ixK, tgK, seqK, lstK, retK, isTy, tyOf, endL, List.map_cons, List.map_nil, List.length_cons, List.length_nil, List.cons_append, List.nil_append, List.append_nil, Nat.reduceSub, Nat.reduceAdd, atI_0, atI_1, atI_2, set_0, set_2, call_W5, call_W4, call_W2, call_W2o, call_W1, call_W1o, call_W0, call_W3, call_L0, call_L1, call_L1o, call_L2, call_L3, Option.some.injEq, List.length_map]
  by_cases hl : i < (ns.length : Int)
  · have e : L2.atI (ns.map PyData.int) i = some (.int (ns[i.toNat]'(by omega))) := by
      rw [atI_lt hi.1 (by rw [List.length_map]; exact hl), List.getElem?_map, List.getElem?_eq_getElem (by omega)]
      rfl
    simp only [decide_eq_true hl, if_true, e, wSs, wS, wEs, wE, wIt, getE, setE, rdsK, rdK, biK, datasK, dataK, setMany, setNils, cmpK, binK, truthK, truth, ixK, tgK, seqK, lstK, retK, isTy, tyOf, endL, List.map_cons, List.map_nil, List.length_cons, List.length_nil, List.cons_append, List.nil_append, List.append_nil, Nat.reduceSub, Nat.reduceAdd, atI_0, atI_1, atI_2, set_0, set_2, call_W5, call_W4, call_W2, call_W2o, call_W1, call_W1o, call_W0, call_W3, call_L0, call_L1, call_L1o, call_L2, call_L3, Option.some.injEq]
    refine ⟨s10.pow (by decide) (by decide), s10.pow (by decide) (by decide), by decide, ?_⟩
    rw [fmod_p (by decide)]
    exact ⟨(sm _).mulOk s7 (by decide), s33.mulOk s3 (by decide), urn_end hi h _⟩
  · simp only [decide_eq_false hl, Bool.false_eq_true, if_false, wSs, wS, wEs, wE, wIt, getE, setE, rdsK, rdK, biK, datasK, dataK, setMany, setNils, cmpK, binK, truthK, truth, ixK, tgK, seqK, lstK, retK, isTy, tyOf, endL, List.map_cons, List.map_nil, List.length_cons, List.length_nil, List.cons_append, List.nil_append, List.append_nil, Nat.reduceSub, Nat.reduceAdd, atI_0, atI_1, atI_2, set_0, set_2, call_W5, call_W4, call_W2, call_W2o, call_W1, call_W1o, call_W0, call_W3, call_L0, call_L1, call_L1o, call_L2, call_L3, Option.some.injEq]
    refine ⟨s61.mulOk s3 (by decide), s10.pow (by decide) (by decide), s10.pow (by decide) (by decide), by decide, ?_⟩
    rw [fmod_p (by decide)]
    exact ⟨(sm _).mulOk s7 (by decide), s33.mulOk s3 (by decide), urn_end hi h _⟩
def w__law_pick : LF := fun l xs k => ∃ (n : Nat) (many : Int), xs = [.int many] ∧ Urn n l ∧ n < 1000000000 ∧ 0 < many ∧ sz 2000 many ∧ ∀ r l', 0 ≤ r → r < many → Urn (n + 1) l' → k (.d (.int r)) l'
theorem m__law_pick : w__law_pick.Mono := fun l xs k k' h ⟨n, many, h1, h2, h3, h4, h5, h6⟩ => ⟨n, many, h1, h2, h3, h4, h5, fun r l' a b c => h _ _ (h6 r l' a b c)⟩
def sp__law_pick : ASp := spL w__law_pick m__law_pick
def b__law_pick : Ss := (.cons (.ite (.cmp .gt (.ix (.var 0) (.int 0)) (.int 0)) (.cons (.asgF 3 (.bin .mod (.bi .int (.cons (.ix (.var 0) (.int 0)) .nil)) (.var 1)))
  (.cons (.setIx 0 (.int 0) (.bin .fdiv (.ix (.var 0) (.int 0)) (.var 1)))
  (.cons (.ret (.var 3))
  .nil))) .nil)
  (.cons (.setIx 0 (.int 2) (.bin .add (.ix (.var 0) (.int 2)) (.int 1)))
  (.cons (.asgF 2 (.bin .mod (.bin .pow (.bi .int (.cons (.bin .add (.ix (.var 0) (.int 1)) (.bin .mul (.int 70001) (.ix (.var 0) (.int 2)))) .nil)) (.int 3)) (.bin .add (.bin .pow (.int 10) (.int 32)) (.int 49))))
  (.cons (.asgF 2 (.bin .mod (.bin .pow (.bi .int (.cons (.bin .add (.var 2) (.bin .mul (.int 60013) (.ix (.var 0) (.int 2)))) .nil)) (.int 2)) (.bin .add (.bin .pow (.int 10) (.int 31)) (.int 33))))
  (.cons (.ret (.bin .mod (.bi .int (.cons (.bin .fdiv (.var 2) (.int 524288)) .nil)) (.var 1)))
  .nil)))))
theorem p__law_pick : Body 2 4 [0] b__law_pick sp__law_pick := by
  refine body_L (fun l xs k h => ?_) fun l xs k h => ?_
  · obtain ⟨n, many, rfl, _⟩ := h; rfl
  obtain ⟨n, m, rfl, ⟨a, b, c, rfl, ha, hb, hc, hcn⟩, hn, hm, sm, h⟩ := h
  unfold b__law_pick
  simp only [initE, List.map_cons, List.map_nil, List.length_cons, List.length_nil, Nat.reduceAdd, Nat.reduceSub, List.replicate, List.cons_append, List.nil_append]
  simp only [wSs, wS, wEs, wE, wIt, getE, setE, rdsK, rdK, biK, datasK, dataK, setMany, setNils, cmpK, binK, truthK, truth, ixK, tgK, seqK, lstK, retK, isTy, tyOf, endL, List.map_cons, List.map_nil, List.length_cons, List.length_nil, List.cons_append, List.nil_append, List.append_nil, Nat.reduceSub, Nat.reduceAdd, atI_0, atI_1, atI_2, set_0, set_2, call_W5, call_W4, call_W2, call_W2o, call_W1, call_W1o, call_W0, call_W3, call_L0, call_L1, call_L1o, call_L2, call_L3, Option.some.injEq]
  by_cases h0 : 0 < a
  · simp only [decide_eq_true h0, if_true, wSs, wS, wEs, wE, wIt, getE, setE, rdsK, rdK, biK, datasK, dataK, setMany, setNils, cmpK, binK, truthK, truth, ixK, tgK, seqK, lstK, retK, isTy, tyOf, endL, List.map_cons, List.map_nil, List.length_cons, List.length_nil, List.cons_append, List.nil_append, List.append_nil, Nat.reduceSub, Nat.reduceAdd, atI_0, atI_1, atI_2, set_0, set_2, call_W5, call_W4, call_W2, call_W2o, call_W1, call_W1o, call_W0, call_W3, call_L0, call_L1, call_L1o, call_L2, call_L3, Option.some.injEq]
    refine ⟨by omega, sm.divOk (by decide) (by omega), ⟨by decide, by decide⟩, ?_⟩
    rw [fmod_p hm, fdiv_p hm]
    refine h _ _ (Int.emod_nonneg _ (by omega)) (Int.emod_lt_of_pos _ hm) ⟨_, _, _, rfl, Int.ediv_nonneg ha (by omega), hb, hc, by omega⟩
  · simp only [decide_eq_false h0, Bool.false_eq_true, if_false, wSs, wS, wEs, wE, wIt, getE, setE, rdsK, rdK, biK, datasK, dataK, setMany, setNils, cmpK, binK, truthK, truth, ixK, tgK, seqK, lstK, retK, isTy, tyOf, endL, List.map_cons, List.map_nil, List.length_cons, List.length_nil, List.cons_append, List.nil_append, List.append_nil, Nat.reduceSub, Nat.reduceAdd, atI_0, atI_1, atI_2, set_0, set_2, call_W5, call_W4, call_W2, call_W2o, call_W1, call_W1o, call_W0, call_W3, call_L0, call_L1, call_L1o, call_L2, call_L3, Option.some.injEq]
    have s7 : sz 17 70001 := by unfold sz; decide
    have s6 : sz 17 60013 := by unfold sz; decide
    have sc : sz 31 (c + 1) := by unfold sz; omega
    have sb : sz 133 b := by
      unfold sz
      have : (10 : Int) ^ 40 = 10000000000000000000000000000000000000000 := by decide
      omega
    have s1 : sz 134 (b + 70001 * (c + 1)) := sb.add ((s7.mul sc).mono (by decide))
    have s2 : ∀ z : Int, sz 110 (z.fmod (10 ^ Int.toNat 32 + 49)) := fun z => by
      rw [fmod_p (by decide)]
      have h1 := Int.emod_nonneg z (show (10 : Int) ^ Int.toNat 32 + 49 ≠ 0 by decide)
      have h2 := Int.emod_lt_of_pos z (show 0 < (10 : Int) ^ Int.toNat 32 + 49 by decide)
      have h3 : (10 : Int) ^ Int.toNat 32 + 49 = 100000000000000000000000000000049 := by decide
      unfold sz
      omega
    refine ⟨⟨by decide, by decide⟩, s7.mulOk sc (by decide), s1.pow (by decide) (by decide), s10.pow (by decide) (by decide), by decide, s6.mulOk sc (by decide), ((s2 _).add ((s6.mul sc).mono (by decide))).pow (by decide) (by decide), s10.pow (by decide) (by decide), by decide, ⟨by decide, by decide⟩, by omega, ?_⟩
    rw [fmod_p hm]
    exact h _ _ (Int.emod_nonneg _ (by omega)) (Int.emod_lt_of_pos _ hm) ⟨_, _, _, rfl, ha, hb, by omega, by omega⟩
/-! ### passes -/
def w__law_says : WF
  | [.bool a, .bool b], k => a = b ∧ k (.d (.bool true))
  | _, _ => False
theorem m__law_says : w__law_says.Mono := by
  intro xs k k' h q
  unfold w__law_says at q ⊢
  split <;> simp_all
def sp__law_says : ASp := spW w__law_says m__law_says
def b__law_says : Ss := (.cons (.ret (.ife (.var 1) (.cmp .is (.var 0) (.bool true)) (.cmp .is (.var 0) (.bool false))))
  .nil)
theorem p__law_says : Body 2 2 [] b__law_says sp__law_says := by
  refine body_W (fun xs k h => ?_) fun xs k h => ?_
  · unfold w__law_says at h; split at h <;> simp_all
  unfold w__law_says at h
  split at h
  case h_2 => exact h.elim
  rename_i a b
  obtain ⟨rfl, h⟩ := h
  unfold b__law_says
  simp only [initE, List.map_cons, List.map_nil, List.length_cons, List.length_nil, Nat.reduceAdd, Nat.reduceSub, List.replicate, List.cons_append, List.nil_append]
  simp -implicitDefEqProofs only [V.rd_d, V.rd_o, V.rd_b, V.da_d, V.da_o, V.das_n, V.das_c, V.rds_n, V.rds_c, V.tr_b, V.tr_i, V.tr_n, V.tr_l, V.tr_t, V.tr_o, V.bn_add, V.bn_sub, V.bn_mul, V.bn_fdiv, V.bn_mod, V.bn_pow, V.bn_cat, V.cp_eq, V.cp_ne, V.cp_lt, V.cp_le, V.cp_gt, V.cp_ge, V.cp_in, V.cp_nin, V.is_n, V.isn_n, V.is_b, V.isn_b, V.is_i, V.isn_i, V.is_s, V.isn_s, V.is_l, V.isn_l, V.is_t, V.isn_t, V.is_bb, V.isn_bb, V.ix_l, V.ix_t, V.sl_l, V.bi_len, V.bi_lent, V.bi_abs, V.bi_max2, V.bi_min2, V.bi_int, V.bi_intb, V.bi_list, V.bi_listt, V.bi_tup, V.bi_tupt, V.bi_sum, V.bi_any, V.bi_all, V.bi_min1, V.bi_max1, V.bi_sorted, V.bi_repr, V.sq_d, V.sq_t, V.sq_o, V.ls_d, V.ls_o, V.tg_n, V.tg_t, V.vd_0, V.vo_0, V.vd_1, V.vo_1, V.vd_2, V.vo_2, V.vd_3, V.vo_3, V.vd_4, V.vo_4, V.vd_5, V.vo_5, V.vd_6, V.vo_6, V.vd_7, V.vo_7, V.vd_8, V.vo_8, V.vd_9, V.vo_9, V.vd_10, V.vo_10, V.vd_11, V.vo_11, V.vd_12, V.vo_12, V.vd_13, V.vo_13, V.vd_14, V.vo_14, V.vd_15, V.vo_15, V.e_int, V.e_bool, V.e_none, V.e_str, V.e_glob, V.e_bin, V.e_not, V.e_and, V.e_or, V.e_cmp, V.e_chain, V.e_ife, V.e_tup, V.e_lst, V.e_ix, V.e_call, V.e_callK, V.e_bi, V.e_inst, V.e_comp, V.ng, V.e_neg, V.e_slU, V.e_slL, V.e_lrg1, V.e_lrg3, V.es_n, V.es_c, V.it_seq, V.it_r1, V.it_r2, V.it_en, V.it_zip, V.ss_n, V.ss_c, V.s_asgF, V.kp_d, V.kp_o, V.s_asg, V.s_par, V.s_parN, V.tp_d, V.s_unp, V.s_expr, V.s_ret, V.s_retN, V.s_ite, V.s_for, V.s_pass, V.s_brk, V.s_cont, V.fz_0, V.ow_0, V.ap_0, V.fz_1, V.ow_1, V.ap_1, V.fz_2, V.ow_2, V.ap_2, V.fz_3, V.ow_3, V.ap_3, V.fz_4, V.ow_4, V.ap_4, V.fz_5, V.ow_5, V.ap_5, V.fz_6, V.ow_6, V.ap_6, V.fz_7, V.ow_7, V.ap_7, V.fz_8, V.ow_8, V.ap_8, V.fz_9, V.ow_9, V.ap_9, V.fz_10, V.ow_10, V.ap_10, V.fz_11, V.ow_11, V.ap_11, V.fz_12, V.ow_12, V.ap_12, V.fz_13, V.ow_13, V.ap_13, V.fz_14, V.ow_14, V.ap_14, V.fz_15, V.ow_15, V.ap_15, getE, setE, setMany, setNils, isTy, tyOf, List.map_cons, List.map_nil, List.length_cons, List.length_nil, List.cons_append, List.nil_append, List.append_nil, Nat.reduceSub, Nat.reduceAdd, atI_0, atI_1, atI_2, call_W5, call_W4, call_W2, call_W2o, call_W1, call_W1o, call_W0, call_W3, call_L0, call_L1, call_L1o, call_L2, call_L3, Option.some.injEq]
  cases a <;> exact h
def row (s t i j k : Int) : PyData := tn ((i + k) % s) ((j - k) % t)
def rows (s t i j n : Int) : List PyData := (iv 0 n).map (row s t i j)
theorem iv_snoc {n : Int} (h : 0 ≤ n) : iv 0 (n + 1) = iv 0 n ++ [n] := by
  rw [iv_app h (show n ≤ n + 1 by omega), iv_cons (show n < n + 1 by omega), iv_nil (Int.le_refl _)]
theorem rows_snoc {s t i j n : Int} (h : 0 ≤ n) : rows s t i j (n + 1) = rows s t i j n ++ [row s t i j n] := by
  unfold rows
  rw [iv_snoc h, List.map_append]
  rfl
theorem mod_eq {s a b : Int} : a % s = b % s ↔ s ∣ a - b := by
  rw [Int.emod_eq_emod_iff_emod_sub_eq_zero]
  exact ⟨Int.dvd_of_emod_eq_zero, Int.emod_eq_zero_of_dvd⟩
theorem row_eq {s t i j m : Int} (ht : 0 < t) : ((i + m) % s = (i + 0) % s ∧ (j - m) % t = (j - 0) % t) ↔ lcm2 s t ∣ m := by
  rw [mod_eq, mod_eq]
  have e1 : i + m - (i + 0) = m := by omega
  have e2 : j - m - (j - 0) = -m := by omega
  rw [e1, e2, Int.dvd_neg]
  exact ⟨fun h => lcm2_dvd ht h.1 h.2, fun h => ⟨Int.dvd_trans (lcm2_left ht) h, Int.dvd_trans (lcm2_right ht) h⟩⟩
theorem eqv_tn2 {a b c d : Int} : PyData.eqv (.tuple [.int a, .int b]) (.tuple [.int c, .int d]) = (a == c && b == d) := by simp [PyData.eqv, PyData.eqvAll]
theorem cut_1 (xs : List PyData) : cutD xs none (some 1) = xs.take 1 := by
  unfold cutD
  show ((xs.drop (HT.sIx xs.length 0 none)).take (HT.sIx xs.length xs.length (some ((1 : Nat) : Int)) - HT.sIx xs.length 0 none)) = _
  rw [HT.sIx_none, HT.sIx_nat, List.drop_zero, Nat.sub_zero]
  cases xs with
  | nil => rfl
  | cons x xs => rw [Nat.min_eq_left (by simp)]
def w__law_passes : WF
  | [.int s, .int t, .tuple [.int i, .int j]], k => okM s t i j 0 0 ∧ k (.o (rows s t i j (lcm2 s t)))
  | _, _ => False
theorem m__law_passes : w__law_passes.Mono := by
  intro xs k k' h q
  unfold w__law_passes at q ⊢
  split <;> simp_all
def sp__law_passes : ASp := spW w__law_passes m__law_passes
def u__law_passes_1 : Ss := (.cons (.par [5, 6] (.cons (.bin .mod (.bi .int (.cons (.bin .add (.var 5) (.int 1)) .nil)) (.var 0)) (.cons (.bin .mod (.bi .int (.cons (.bin .sub (.var 6) (.int 1)) .nil)) (.var 1)) .nil)))
  .nil)
def u__law_passes_2 : Ss := (.cons (.append 3 (.tup (.cons (.var 5) (.cons (.var 6) .nil))))
  u__law_passes_1)
def lb__law_passes_3 : Ss := (.cons (.ite (.cmp .isin (.tup (.cons (.var 5) (.cons (.var 6) .nil))) (.slU (.var 3) (.int 1))) (.cons (.ret (.var 3))
  .nil) .nil)
  u__law_passes_2)
def b__law_passes_4 : Ss := (.cons (.ret (.var 3)) .nil)
def b__law_passes_3 : Ss := (.cons (.forS (.nm 4) (.range1 (.bin .mul (.var 0) (.var 1))) lb__law_passes_3) b__law_passes_4)
def b__law_passes_2 : Ss := (.cons (.unp [5, 6] (.var 2)) b__law_passes_3)
def b__law_passes : Ss := (.cons (.asg 3 (.lst .nil)) b__law_passes_2)
theorem p__law_passes : Body 3 7 [] b__law_passes sp__law_passes := by
  refine body_W (fun xs k h => ?_) fun xs k h => ?_
  · unfold w__law_passes at h; split at h
    · rfl
    · exact h.elim
  unfold w__law_passes at h
  split at h
  case h_2 => exact h.elim
  rename_i s t i j
  obtain ⟨ok, h⟩ := h
  obtain ⟨h1, h2, h3, h4, h5, h6⟩ := ok
  have sm : ∀ x : Int, 0 ≤ x → x ≤ 1000 → sz 20 x := fun x h1 h2 => by unfold sz; omega
  have sp : 0 < s := by omega
  have tp : 0 < t := by omega
  have Lp := lcm2_pos sp tp
  have Ll := lcm2_le sp tp
  have hst : s * t ≤ 1000 * 1000 := Int.mul_le_mul (by omega) (by omega) (by omega) (by omega)
  suffices H : ∀ D : AEnds, (∀ env, getE env 3 = some (.o (rows s t i j (lcm2 s t))) → D.rt (.b 3) env) → wSs X0 b__law_passes (initE 7 [AV.d (.int s), AV.d (.int t), AV.d (.tuple [.int i, .int j])]) D from H _ fun env he => by
    show retK [] (.b 3) env k
    simp only [retK, he]
    exact ⟨List.not_mem_nil, h⟩
  intro D hD
  unfold b__law_passes
  simp only [initE, List.map_cons, List.map_nil, List.length_cons, List.length_nil, Nat.reduceAdd, Nat.reduceSub, List.replicate, List.cons_append, List.nil_append]
  simp -implicitDefEqProofs only [V.rd_d, V.rd_o, V.rd_b, V.da_d, V.da_o, V.das_n, V.das_c, V.rds_n, V.rds_c, V.tr_b, V.tr_i, V.tr_n, V.tr_l, V.tr_t, V.tr_o, V.bn_add, V.bn_sub, V.bn_mul, V.bn_fdiv, V.bn_mod, V.bn_pow, V.bn_cat, V.cp_eq, V.cp_ne, V.cp_lt, V.cp_le, V.cp_gt, V.cp_ge, V.cp_in, V.cp_nin, V.is_n, V.isn_n, V.is_b, V.isn_b, V.is_i, V.isn_i, V.is_s, V.isn_s, V.is_l, V.isn_l, V.is_t, V.isn_t, V.is_bb, V.isn_bb, V.ix_l, V.ix_t, V.sl_l, V.bi_len, V.bi_lent, V.bi_abs, V.bi_max2, V.bi_min2, V.bi_int, V.bi_intb, V.bi_list, V.bi_listt, V.bi_tup, V.bi_tupt, V.bi_sum, V.bi_any, V.bi_all, V.bi_min1, V.bi_max1, V.bi_sorted, V.bi_repr, V.sq_d, V.sq_t, V.sq_o, V.ls_d, V.ls_o, V.tg_n, V.tg_t, V.vd_0, V.vo_0, V.vd_1, V.vo_1, V.vd_2, V.vo_2, V.vd_3, V.vo_3, V.vd_4, V.vo_4, V.vd_5, V.vo_5, V.vd_6, V.vo_6, V.vd_7, V.vo_7, V.vd_8, V.vo_8, V.vd_9, V.vo_9, V.vd_10, V.vo_10, V.vd_11, V.vo_11, V.vd_12, V.vo_12, V.vd_13, V.vo_13, V.vd_14, V.vo_14, V.vd_15, V.vo_15, V.e_int, V.e_bool, V.e_none, V.e_str, V.e_glob, V.e_bin, V.e_not, V.e_and, V.e_or, V.e_cmp, V.e_chain, V.e_ife, V.e_tup, V.e_lst, V.e_ix, V.e_call, V.e_callK, V.e_bi, V.e_inst, V.e_comp, V.ng, V.e_neg, V.e_slU, V.e_slL, V.e_lrg1, V.e_lrg3, V.es_n, V.es_c, V.it_seq, V.it_r1, V.it_r2, V.it_en, V.it_zip, V.ss_n, V.ss_c, V.s_asgF, V.kp_d, V.kp_o, V.s_asg, V.s_par, V.s_parN, V.tp_d, V.s_unp, V.s_expr, V.s_ret, V.s_retN, V.s_ite, V.s_for, V.s_pass, V.s_brk, V.s_cont, V.fz_0, V.ow_0, V.ap_0, V.fz_1, V.ow_1, V.ap_1, V.fz_2, V.ow_2, V.ap_2, V.fz_3, V.ow_3, V.ap_3, V.fz_4, V.ow_4, V.ap_4, V.fz_5, V.ow_5, V.ap_5, V.fz_6, V.ow_6, V.ap_6, V.fz_7, V.ow_7, V.ap_7, V.fz_8, V.ow_8, V.ap_8, V.fz_9, V.ow_9, V.ap_9, V.fz_10, V.ow_10, V.ap_10, V.fz_11, V.ow_11, V.ap_11, V.fz_12, V.ow_12, V.ap_12, V.fz_13, V.ow_13, V.ap_13, V.fz_14, V.ow_14, V.ap_14, V.fz_15, V.ow_15, V.ap_15, getE, setE, setMany, setNils, isTy, tyOf, List.map_cons, List.map_nil, List.length_cons, List.length_nil, List.cons_append, List.nil_append, List.append_nil, Nat.reduceSub, Nat.reduceAdd, atI_0, atI_1, atI_2, call_W5, call_W4, call_W2, call_W2o, call_W1, call_W1o, call_W0, call_W3, call_L0, call_L1, call_L1o, call_L2, call_L3, Option.some.injEq]
  unfold b__law_passes_2
  simp -implicitDefEqProofs only [V.rd_d, V.rd_o, V.rd_b, V.da_d, V.da_o, V.das_n, V.das_c, V.rds_n, V.rds_c, V.tr_b, V.tr_i, V.tr_n, V.tr_l, V.tr_t, V.tr_o, V.bn_add, V.bn_sub, V.bn_mul, V.bn_fdiv, V.bn_mod, V.bn_pow, V.bn_cat, V.cp_eq, V.cp_ne, V.cp_lt, V.cp_le, V.cp_gt, V.cp_ge, V.cp_in, V.cp_nin, V.is_n, V.isn_n, V.is_b, V.isn_b, V.is_i, V.isn_i, V.is_s, V.isn_s, V.is_l, V.isn_l, V.is_t, V.isn_t, V.is_bb, V.isn_bb, V.ix_l, V.ix_t, V.sl_l, V.bi_len, V.bi_lent, V.bi_abs, V.bi_max2, V.bi_min2, V.bi_int, V.bi_intb, V.bi_list, V.bi_listt, V.bi_tup, V.bi_tupt, V.bi_sum, V.bi_any, V.bi_all, V.bi_min1, V.bi_max1, V.bi_sorted, V.bi_repr, V.sq_d, V.sq_t, V.sq_o, V.ls_d, V.ls_o, V.tg_n, V.tg_t, V.vd_0, V.vo_0, V.vd_1, V.vo_1, V.vd_2, V.vo_2, V.vd_3, V.vo_3, V.vd_4, V.vo_4, V.vd_5, V.vo_5, V.vd_6, V.vo_6, V.vd_7, V.vo_7, V.vd_8, V.vo_8, V.vd_9, V.vo_9, V.vd_10, V.vo_10, V.vd_11, V.vo_11, V.vd_12, V.vo_12, V.vd_13, V.vo_13, V.vd_14, V.vo_14, V.vd_15, V.vo_15, V.e_int, V.e_bool, V.e_none, V.e_str, V.e_glob, V.e_bin, V.e_not, V.e_and, V.e_or, V.e_cmp, V.e_chain, V.e_ife, V.e_tup, V.e_lst, V.e_ix, V.e_call, V.e_callK, V.e_bi, V.e_inst, V.e_comp, V.ng, V.e_neg, V.e_slU, V.e_slL, V.e_lrg1, V.e_lrg3, V.es_n, V.es_c, V.it_seq, V.it_r1, V.it_r2, V.it_en, V.it_zip, V.ss_n, V.ss_c, V.s_asgF, V.kp_d, V.kp_o, V.s_asg, V.s_par, V.s_parN, V.tp_d, V.s_unp, V.s_expr, V.s_ret, V.s_retN, V.s_ite, V.s_for, V.s_pass, V.s_brk, V.s_cont, V.fz_0, V.ow_0, V.ap_0, V.fz_1, V.ow_1, V.ap_1, V.fz_2, V.ow_2, V.ap_2, V.fz_3, V.ow_3, V.ap_3, V.fz_4, V.ow_4, V.ap_4, V.fz_5, V.ow_5, V.ap_5, V.fz_6, V.ow_6, V.ap_6, V.fz_7, V.ow_7, V.ap_7, V.fz_8, V.ow_8, V.ap_8, V.fz_9, V.ow_9, V.ap_9, V.fz_10, V.ow_10, V.ap_10, V.fz_11, V.ow_11, V.ap_11, V.fz_12, V.ow_12, V.ap_12, V.fz_13, V.ow_13, V.ap_13, V.fz_14, V.ow_14, V.ap_14, V.fz_15, V.ow_15, V.ap_15, getE, setE, setMany, setNils, isTy, tyOf, List.map_cons, List.map_nil, List.length_cons, List.length_nil, List.cons_append, List.nil_append, List.append_nil, Nat.reduceSub, Nat.reduceAdd, atI_0, atI_1, atI_2, call_W5, call_W4, call_W2, call_W2o, call_W1, call_W1o, call_W0, call_W3, call_L0, call_L1, call_L1o, call_L2, call_L3, Option.some.injEq]
  refine ⟨trivial, ?_⟩
  unfold b__law_passes_3
  simp -implicitDefEqProofs only [V.rd_d, V.rd_o, V.rd_b, V.da_d, V.da_o, V.das_n, V.das_c, V.rds_n, V.rds_c, V.tr_b, V.tr_i, V.tr_n, V.tr_l, V.tr_t, V.tr_o, V.bn_add, V.bn_sub, V.bn_mul, V.bn_fdiv, V.bn_mod, V.bn_pow, V.bn_cat, V.cp_eq, V.cp_ne, V.cp_lt, V.cp_le, V.cp_gt, V.cp_ge, V.cp_in, V.cp_nin, V.is_n, V.isn_n, V.is_b, V.isn_b, V.is_i, V.isn_i, V.is_s, V.isn_s, V.is_l, V.isn_l, V.is_t, V.isn_t, V.is_bb, V.isn_bb, V.ix_l, V.ix_t, V.sl_l, V.bi_len, V.bi_lent, V.bi_abs, V.bi_max2, V.bi_min2, V.bi_int, V.bi_intb, V.bi_list, V.bi_listt, V.bi_tup, V.bi_tupt, V.bi_sum, V.bi_any, V.bi_all, V.bi_min1, V.bi_max1, V.bi_sorted, V.bi_repr, V.sq_d, V.sq_t, V.sq_o, V.ls_d, V.ls_o, V.tg_n, V.tg_t, V.vd_0, V.vo_0, V.vd_1, V.vo_1, V.vd_2, V.vo_2, V.vd_3, V.vo_3, V.vd_4, V.vo_4, V.vd_5, V.vo_5, V.vd_6, V.vo_6, V.vd_7, V.vo_7, V.vd_8, V.vo_8, V.vd_9, V.vo_9, V.vd_10, V.vo_10, V.vd_11, V.vo_11, V.vd_12, V.vo_12, V.vd_13, V.vo_13, V.vd_14, V.vo_14, V.vd_15, V.vo_15, V.e_int, V.e_bool, V.e_none, V.e_str, V.e_glob, V.e_bin, V.e_not, V.e_and, V.e_or, V.e_cmp, V.e_chain, V.e_ife, V.e_tup, V.e_lst, V.e_ix, V.e_call, V.e_callK, V.e_bi, V.e_inst, V.e_comp, V.ng, V.e_neg, V.e_slU, V.e_slL, V.e_lrg1, V.e_lrg3, V.es_n, V.es_c, V.it_seq, V.it_r1, V.it_r2, V.it_en, V.it_zip, V.ss_n, V.ss_c, V.s_asgF, V.kp_d, V.kp_o, V.s_asg, V.s_par, V.s_parN, V.tp_d, V.s_unp, V.s_expr, V.s_ret, V.s_retN, V.s_ite, V.s_for, V.s_pass, V.s_brk, V.s_cont, V.fz_0, V.ow_0, V.ap_0, V.fz_1, V.ow_1, V.ap_1, V.fz_2, V.ow_2, V.ap_2, V.fz_3, V.ow_3, V.ap_3, V.fz_4, V.ow_4, V.ap_4, V.fz_5, V.ow_5, V.ap_5, V.fz_6, V.ow_6, V.ap_6, V.fz_7, V.ow_7, V.ap_7, V.fz_8, V.ow_8, V.ap_8, V.fz_9, V.ow_9, V.ap_9, V.fz_10, V.ow_10, V.ap_10, V.fz_11, V.ow_11, V.ap_11, V.fz_12, V.ow_12, V.ap_12, V.fz_13, V.ow_13, V.ap_13, V.fz_14, V.ow_14, V.ap_14, V.fz_15, V.ow_15, V.ap_15, getE, setE, setMany, setNils, isTy, tyOf, List.map_cons, List.map_nil, List.length_cons, List.length_nil, List.cons_append, List.nil_append, List.append_nil, Nat.reduceSub, Nat.reduceAdd, atI_0, atI_1, atI_2, call_W5, call_W4, call_W2, call_W2o, call_W1, call_W1o, call_W0, call_W3, call_L0, call_L1, call_L1o, call_L2, call_L3, Option.some.injEq, rangeK]
  refine ⟨(sm s (by omega) (by omega)).mulOk (sm t (by omega) (by omega)) (by decide), ⟨by decide, by decide, by omega, by omega, by rw [sizeLine_eq]; omega⟩, ?_⟩
  refine for_inv (fun xs env => ∃ (m : Int) (s4 : Option AV), xs = rangeL m (s * t) ∧ 0 ≤ m ∧ m ≤ lcm2 s t ∧ env = [some (.d (.int s)), some (.d (.int t)), some (.d (.tuple [.int i, .int j])), some (.o (rows s t i j m)), s4, some (.d (.int ((i + m) % s))), some (.d (.int ((j - m) % t)))]) (fun env D D' => body_mono env D D') ?_ ?_ ⟨0, none, rfl, Int.le_refl _, by omega, ?_⟩
  · rintro env ⟨m, s4, hx, m0, mL, rfl⟩
    have : s * t ≤ m := by
      have := congrArg List.length hx
      rw [rangeL_iv, List.length_map, iv_len] at this
      simp only [List.length_nil] at this
      omega
    have e : m = lcm2 s t := by omega
    subst e
    unfold b__law_passes_4
    simp -implicitDefEqProofs only [V.rd_d, V.rd_o, V.rd_b, V.da_d, V.da_o, V.das_n, V.das_c, V.rds_n, V.rds_c, V.tr_b, V.tr_i, V.tr_n, V.tr_l, V.tr_t, V.tr_o, V.bn_add, V.bn_sub, V.bn_mul, V.bn_fdiv, V.bn_mod, V.bn_pow, V.bn_cat, V.cp_eq, V.cp_ne, V.cp_lt, V.cp_le, V.cp_gt, V.cp_ge, V.cp_in, V.cp_nin, V.is_n, V.isn_n, V.is_b, V.isn_b, V.is_i, V.isn_i, V.is_s, V.isn_s, V.is_l, V.isn_l, V.is_t, V.isn_t, V.is_bb, V.isn_bb, V.ix_l, V.ix_t, V.sl_l, V.bi_len, V.bi_lent, V.bi_abs, V.bi_max2, V.bi_min2, V.bi_int, V.bi_intb, V.bi_list, V.bi_listt, V.bi_tup, V.bi_tupt, V.bi_sum, V.bi_any, V.bi_all, V.bi_min1, V.bi_max1, V.bi_sorted, V.bi_repr, V.sq_d, V.sq_t, V.sq_o, V.ls_d, V.ls_o, V.tg_n, V.tg_t, V.vd_0, V.vo_0, V.vd_1, V.vo_1, V.vd_2, V.vo_2, V.vd_3, V.vo_3, V.vd_4, V.vo_4, V.vd_5, V.vo_5, V.vd_6, V.vo_6, V.vd_7, V.vo_7, V.vd_8, V.vo_8, V.vd_9, V.vo_9, V.vd_10, V.vo_10, V.vd_11, V.vo_11, V.vd_12, V.vo_12, V.vd_13, V.vo_13, V.vd_14, V.vo_14, V.vd_15, V.vo_15, V.e_int, V.e_bool, V.e_none, V.e_str, V.e_glob, V.e_bin, V.e_not, V.e_and, V.e_or, V.e_cmp, V.e_chain, V.e_ife, V.e_tup, V.e_lst, V.e_ix, V.e_call, V.e_callK, V.e_bi, V.e_inst, V.e_comp, V.ng, V.e_neg, V.e_slU, V.e_slL, V.e_lrg1, V.e_lrg3, V.es_n, V.es_c, V.it_seq, V.it_r1, V.it_r2, V.it_en, V.it_zip, V.ss_n, V.ss_c, V.s_asgF, V.kp_d, V.kp_o, V.s_asg, V.s_par, V.s_parN, V.tp_d, V.s_unp, V.s_expr, V.s_ret, V.s_retN, V.s_ite, V.s_for, V.s_pass, V.s_brk, V.s_cont, V.fz_0, V.ow_0, V.ap_0, V.fz_1, V.ow_1, V.ap_1, V.fz_2, V.ow_2, V.ap_2, V.fz_3, V.ow_3, V.ap_3, V.fz_4, V.ow_4, V.ap_4, V.fz_5, V.ow_5, V.ap_5, V.fz_6, V.ow_6, V.ap_6, V.fz_7, V.ow_7, V.ap_7, V.fz_8, V.ow_8, V.ap_8, V.fz_9, V.ow_9, V.ap_9, V.fz_10, V.ow_10, V.ap_10, V.fz_11, V.ow_11, V.ap_11, V.fz_12, V.ow_12, V.ap_12, V.fz_13, V.ow_13, V.ap_13, V.fz_14, V.ow_14, V.ap_14, V.fz_15, V.ow_15, V.ap_15, getE, setE, setMany, setNils, isTy, tyOf, List.map_cons, List.map_nil, List.length_cons, List.length_nil, List.cons_append, List.nil_append, List.append_nil, Nat.reduceSub, Nat.reduceAdd, atI_0, atI_1, atI_2, call_W5, call_W4, call_W2, call_W2o, call_W1, call_W1o, call_W0, call_W3, call_L0, call_L1, call_L1o, call_L2, call_L3, Option.some.injEq]
    exact hD _ rfl
  · rintro z xs env ⟨m, s4, hx, m0, mL, rfl⟩
    have hm : m < s * t := by
      have := congrArg List.length hx
      rw [rangeL_iv, List.length_map, iv_len] at this
      simp only [List.length_cons] at this
      omega
    rw [rangeL_iv, iv_cons hm, List.map_cons, ← rangeL_iv] at hx
    simp only [List.cons.injEq] at hx
    obtain ⟨rfl, rfl⟩ := hx
    simp -implicitDefEqProofs only [V.rd_d, V.rd_o, V.rd_b, V.da_d, V.da_o, V.das_n, V.das_c, V.rds_n, V.rds_c, V.tr_b, V.tr_i, V.tr_n, V.tr_l, V.tr_t, V.tr_o, V.bn_add, V.bn_sub, V.bn_mul, V.bn_fdiv, V.bn_mod, V.bn_pow, V.bn_cat, V.cp_eq, V.cp_ne, V.cp_lt, V.cp_le, V.cp_gt, V.cp_ge, V.cp_in, V.cp_nin, V.is_n, V.isn_n, V.is_b, V.isn_b, V.is_i, V.isn_i, V.is_s, V.isn_s, V.is_l, V.isn_l, V.is_t, V.isn_t, V.is_bb, V.isn_bb, V.ix_l, V.ix_t, V.sl_l, V.bi_len, V.bi_lent, V.bi_abs, V.bi_max2, V.bi_min2, V.bi_int, V.bi_intb, V.bi_list, V.bi_listt, V.bi_tup, V.bi_tupt, V.bi_sum, V.bi_any, V.bi_all, V.bi_min1, V.bi_max1, V.bi_sorted, V.bi_repr, V.sq_d, V.sq_t, V.sq_o, V.ls_d, V.ls_o, V.tg_n, V.tg_t, V.vd_0, V.vo_0, V.vd_1, V.vo_1, V.vd_2, V.vo_2, V.vd_3, V.vo_3, V.vd_4, V.vo_4, V.vd_5, V.vo_5, V.vd_6, V.vo_6, V.vd_7, V.vo_7, V.vd_8, V.vo_8, V.vd_9, V.vo_9, V.vd_10, V.vo_10, V.vd_11, V.vo_11, V.vd_12, V.vo_12, V.vd_13, V.vo_13, V.vd_14, V.vo_14, V.vd_15, V.vo_15, V.e_int, V.e_bool, V.e_none, V.e_str, V.e_glob, V.e_bin, V.e_not, V.e_and, V.e_or, V.e_cmp, V.e_chain, V.e_ife, V.e_tup, V.e_lst, V.e_ix, V.e_call, V.e_callK, V.e_bi, V.e_inst, V.e_comp, V.ng, V.e_neg, V.e_slU, V.e_slL, V.e_lrg1, V.e_lrg3, V.es_n, V.es_c, V.it_seq, V.it_r1, V.it_r2, V.it_en, V.it_zip, V.ss_n, V.ss_c, V.s_asgF, V.kp_d, V.kp_o, V.s_asg, V.s_par, V.s_parN, V.tp_d, V.s_unp, V.s_expr, V.s_ret, V.s_retN, V.s_ite, V.s_for, V.s_pass, V.s_brk, V.s_cont, V.fz_0, V.ow_0, V.ap_0, V.fz_1, V.ow_1, V.ap_1, V.fz_2, V.ow_2, V.ap_2, V.fz_3, V.ow_3, V.ap_3, V.fz_4, V.ow_4, V.ap_4, V.fz_5, V.ow_5, V.ap_5, V.fz_6, V.ow_6, V.ap_6, V.fz_7, V.ow_7, V.ap_7, V.fz_8, V.ow_8, V.ap_8, V.fz_9, V.ow_9, V.ap_9, V.fz_10, V.ow_10, V.ap_10, V.fz_11, V.ow_11, V.ap_11, V.fz_12, V.ow_12, V.ap_12, V.fz_13, V.ow_13, V.ap_13, V.fz_14, V.ow_14, V.ap_14, V.fz_15, V.ow_15, V.ap_15, getE, setE, setMany, setNils, isTy, tyOf, List.map_cons, List.map_nil, List.length_cons, List.length_nil, List.cons_append, List.nil_append, List.append_nil, Nat.reduceSub, Nat.reduceAdd, atI_0, atI_1, atI_2, call_W5, call_W4, call_W2, call_W2o, call_W1, call_W1o, call_W0, call_W3, call_L0, call_L1, call_L1o, call_L2, call_L3, Option.some.injEq]
    unfold lb__law_passes_3
    simp -implicitDefEqProofs only [V.rd_d, V.rd_o, V.rd_b, V.da_d, V.da_o, V.das_n, V.das_c, V.rds_n, V.rds_c, V.tr_b, V.tr_i, V.tr_n, V.tr_l, V.tr_t, V.tr_o, V.bn_add, V.bn_sub, V.bn_mul, V.bn_fdiv, V.bn_mod, V.bn_pow, V.bn_cat, V.cp_eq, V.cp_ne, V.cp_lt, V.cp_le, V.cp_gt, V.cp_ge, V.cp_in, V.cp_nin, V.is_n, V.isn_n, V.is_b, V.isn_b, V.is_i, V.isn_i, V.is_s, V.isn_s, V.is_l, V.isn_l, V.is_t, V.isn_t, V.is_bb, V.isn_bb, V.ix_l, V.ix_t, V.sl_l, V.bi_len, V.bi_lent, V.bi_abs, V.bi_max2, V.bi_min2, V.bi_int, V.bi_intb, V.bi_list, V.bi_listt, V.bi_tup, V.bi_tupt, V.bi_sum, V.bi_any, V.bi_all, V.bi_min1, V.bi_max1, V.bi_sorted, V.bi_repr, V.sq_d, V.sq_t, V.sq_o, V.ls_d, V.ls_o, V.tg_n, V.tg_t, V.vd_0, V.vo_0, V.vd_1, V.vo_1, V.vd_2, V.vo_2, V.vd_3, V.vo_3, V.vd_4, V.vo_4, V.vd_5, V.vo_5, V.vd_6, V.vo_6, V.vd_7, V.vo_7, V.vd_8, V.vo_8, V.vd_9, V.vo_9, V.vd_10, V.vo_10, V.vd_11, V.vo_11, V.vd_12, V.vo_12, V.vd_13, V.vo_13, V.vd_14, V.vo_14, V.vd_15, V.vo_15, V.e_int, V.e_bool, V.e_none, V.e_str, V.e_glob, V.e_bin, V.e_not, V.e_and, V.e_or, V.e_cmp, V.e_chain, V.e_ife, V.e_tup, V.e_lst, V.e_ix, V.e_call, V.e_callK, V.e_bi, V.e_inst, V.e_comp, V.ng, V.e_neg, V.e_slU, V.e_slL, V.e_lrg1, V.e_lrg3, V.es_n, V.es_c, V.it_seq, V.it_r1, V.it_r2, V.it_en, V.it_zip, V.ss_n, V.ss_c, V.s_asgF, V.kp_d, V.kp_o, V.s_asg, V.s_par, V.s_parN, V.tp_d, V.s_unp, V.s_expr, V.s_ret, V.s_retN, V.s_ite, V.s_for, V.s_pass, V.s_brk, V.s_cont, V.fz_0, V.ow_0, V.ap_0, V.fz_1, V.ow_1, V.ap_1, V.fz_2, V.ow_2, V.ap_2, V.fz_3, V.ow_3, V.ap_3, V.fz_4, V.ow_4, V.ap_4, V.fz_5, V.ow_5, V.ap_5, V.fz_6, V.ow_6, V.ap_6, V.fz_7, V.ow_7, V.ap_7, V.fz_8, V.ow_8, V.ap_8, V.fz_9, V.ow_9, V.ap_9, V.fz_10, V.ow_10, V.ap_10, V.fz_11, V.ow_11, V.ap_11, V.fz_12, V.ow_12, V.ap_12, V.fz_13, V.ow_13, V.ap_13, V.fz_14, V.ow_14, V.ap_14, V.fz_15, V.ow_15, V.ap_15, getE, setE, setMany, setNils, isTy, tyOf, List.map_cons, List.map_nil, List.length_cons, List.length_nil, List.cons_append, List.nil_append, List.append_nil, Nat.reduceSub, Nat.reduceAdd, atI_0, atI_1, atI_2, call_W5, call_W4, call_W2, call_W2o, call_W1, call_W1o, call_W0, call_W3, call_L0, call_L1, call_L1o, call_L2, call_L3, Option.some.injEq, cut_1]
    have shr : ∀ n : Int, SeqAt.shaped (.list ((rows s t i j n).take 1)) = true := fun n => shp_list fun x hx => by
      obtain ⟨q, _, rfl⟩ := List.mem_map.mp (List.mem_of_mem_take hx)
      exact ⟨rfl, by simp [row, tn, PyData.depth, PyData.depthAll]⟩
    refine ⟨rfl, shr m, ?_⟩
    have nxt : ∀ D : AEnds, (D.nx [some (.d (.int s)), some (.d (.int t)), some (.d (.tuple [.int i, .int j])), some (.o (rows s t i j (m + 1))), some (.d (.int m)), some (.d (.int ((i + (m + 1)) % s))), some (.d (.int ((j - (m + 1)) % t)))]) →
        wSs X0 u__law_passes_2 [some (.d (.int s)), some (.d (.int t)), some (.d (.tuple [.int i, .int j])), some (.o (rows s t i j m)), some (.d (.int m)), some (.d (.int ((i + m) % s))), some (.d (.int ((j - m) % t)))] D := fun D hd => by
      unfold u__law_passes_2
      simp -implicitDefEqProofs only [V.rd_d, V.rd_o, V.rd_b, V.da_d, V.da_o, V.das_n, V.das_c, V.rds_n, V.rds_c, V.tr_b, V.tr_i, V.tr_n, V.tr_l, V.tr_t, V.tr_o, V.bn_add, V.bn_sub, V.bn_mul, V.bn_fdiv, V.bn_mod, V.bn_pow, V.bn_cat, V.cp_eq, V.cp_ne, V.cp_lt, V.cp_le, V.cp_gt, V.cp_ge, V.cp_in, V.cp_nin, V.is_n, V.isn_n, V.is_b, V.isn_b, V.is_i, V.isn_i, V.is_s, V.isn_s, V.is_l, V.isn_l, V.is_t, V.isn_t, V.is_bb, V.isn_bb, V.ix_l, V.ix_t, V.sl_l, V.bi_len, V.bi_lent, V.bi_abs, V.bi_max2, V.bi_min2, V.bi_int, V.bi_intb, V.bi_list, V.bi_listt, V.bi_tup, V.bi_tupt, V.bi_sum, V.bi_any, V.bi_all, V.bi_min1, V.bi_max1, V.bi_sorted, V.bi_repr, V.sq_d, V.sq_t, V.sq_o, V.ls_d, V.ls_o, V.tg_n, V.tg_t, V.vd_0, V.vo_0, V.vd_1, V.vo_1, V.vd_2, V.vo_2, V.vd_3, V.vo_3, V.vd_4, V.vo_4, V.vd_5, V.vo_5, V.vd_6, V.vo_6, V.vd_7, V.vo_7, V.vd_8, V.vo_8, V.vd_9, V.vo_9, V.vd_10, V.vo_10, V.vd_11, V.vo_11, V.vd_12, V.vo_12, V.vd_13, V.vo_13, V.vd_14, V.vo_14, V.vd_15, V.vo_15, V.e_int, V.e_bool, V.e_none, V.e_str, V.e_glob, V.e_bin, V.e_not, V.e_and, V.e_or, V.e_cmp, V.e_chain, V.e_ife, V.e_tup, V.e_lst, V.e_ix, V.e_call, V.e_callK, V.e_bi, V.e_inst, V.e_comp, V.ng, V.e_neg, V.e_slU, V.e_slL, V.e_lrg1, V.e_lrg3, V.es_n, V.es_c, V.it_seq, V.it_r1, V.it_r2, V.it_en, V.it_zip, V.ss_n, V.ss_c, V.s_asgF, V.kp_d, V.kp_o, V.s_asg, V.s_par, V.s_parN, V.tp_d, V.s_unp, V.s_expr, V.s_ret, V.s_retN, V.s_ite, V.s_for, V.s_pass, V.s_brk, V.s_cont, V.fz_0, V.ow_0, V.ap_0, V.fz_1, V.ow_1, V.ap_1, V.fz_2, V.ow_2, V.ap_2, V.fz_3, V.ow_3, V.ap_3, V.fz_4, V.ow_4, V.ap_4, V.fz_5, V.ow_5, V.ap_5, V.fz_6, V.ow_6, V.ap_6, V.fz_7, V.ow_7, V.ap_7, V.fz_8, V.ow_8, V.ap_8, V.fz_9, V.ow_9, V.ap_9, V.fz_10, V.ow_10, V.ap_10, V.fz_11, V.ow_11, V.ap_11, V.fz_12, V.ow_12, V.ap_12, V.fz_13, V.ow_13, V.ap_13, V.fz_14, V.ow_14, V.ap_14, V.fz_15, V.ow_15, V.ap_15, getE, setE, setMany, setNils, isTy, tyOf, List.map_cons, List.map_nil, List.length_cons, List.length_nil, List.cons_append, List.nil_append, List.append_nil, Nat.reduceSub, Nat.reduceAdd, atI_0, atI_1, atI_2, call_W5, call_W4, call_W2, call_W2o, call_W1, call_W1o, call_W0, call_W3, call_L0, call_L1, call_L1o, call_L2, call_L3, Option.some.injEq]
      refine ⟨by unfold rows; rw [List.length_map, iv_len, sizeLine_eq]; omega, ?_⟩
      unfold u__law_passes_1
      simp -implicitDefEqProofs only [V.rd_d, V.rd_o, V.rd_b, V.da_d, V.da_o, V.das_n, V.das_c, V.rds_n, V.rds_c, V.tr_b, V.tr_i, V.tr_n, V.tr_l, V.tr_t, V.tr_o, V.bn_add, V.bn_sub, V.bn_mul, V.bn_fdiv, V.bn_mod, V.bn_pow, V.bn_cat, V.cp_eq, V.cp_ne, V.cp_lt, V.cp_le, V.cp_gt, V.cp_ge, V.cp_in, V.cp_nin, V.is_n, V.isn_n, V.is_b, V.isn_b, V.is_i, V.isn_i, V.is_s, V.isn_s, V.is_l, V.isn_l, V.is_t, V.isn_t, V.is_bb, V.isn_bb, V.ix_l, V.ix_t, V.sl_l, V.bi_len, V.bi_lent, V.bi_abs, V.bi_max2, V.bi_min2, V.bi_int, V.bi_intb, V.bi_list, V.bi_listt, V.bi_tup, V.bi_tupt, V.bi_sum, V.bi_any, V.bi_all, V.bi_min1, V.bi_max1, V.bi_sorted, V.bi_repr, V.sq_d, V.sq_t, V.sq_o, V.ls_d, V.ls_o, V.tg_n, V.tg_t, V.vd_0, V.vo_0, V.vd_1, V.vo_1, V.vd_2, V.vo_2, V.vd_3, V.vo_3, V.vd_4, V.vo_4, V.vd_5, V.vo_5, V.vd_6, V.vo_6, V.vd_7, V.vo_7, V.vd_8, V.vo_8, V.vd_9, V.vo_9, V.vd_10, V.vo_10, V.vd_11, V.vo_11, V.vd_12, V.vo_12, V.vd_13, V.vo_13, V.vd_14, V.vo_14, V.vd_15, V.vo_15, V.e_int, V.e_bool, V.e_none, V.e_str, V.e_glob, V.e_bin, V.e_not, V.e_and, V.e_or, V.e_cmp, V.e_chain, V.e_ife, V.e_tup, V.e_lst, V.e_ix, V.e_call, V.e_callK, V.e_bi, V.e_inst, V.e_comp, V.ng, V.e_neg, V.e_slU, V.e_slL, V.e_lrg1, V.e_lrg3, V.es_n, V.es_c, V.it_seq, V.it_r1, V.it_r2, V.it_en, V.it_zip, V.ss_n, V.ss_c, V.s_asgF, V.kp_d, V.kp_o, V.s_asg, V.s_par, V.s_parN, V.tp_d, V.s_unp, V.s_expr, V.s_ret, V.s_retN, V.s_ite, V.s_for, V.s_pass, V.s_brk, V.s_cont, V.fz_0, V.ow_0, V.ap_0, V.fz_1, V.ow_1, V.ap_1, V.fz_2, V.ow_2, V.ap_2, V.fz_3, V.ow_3, V.ap_3, V.fz_4, V.ow_4, V.ap_4, V.fz_5, V.ow_5, V.ap_5, V.fz_6, V.ow_6, V.ap_6, V.fz_7, V.ow_7, V.ap_7, V.fz_8, V.ow_8, V.ap_8, V.fz_9, V.ow_9, V.ap_9, V.fz_10, V.ow_10, V.ap_10, V.fz_11, V.ow_11, V.ap_11, V.fz_12, V.ow_12, V.ap_12, V.fz_13, V.ow_13, V.ap_13, V.fz_14, V.ow_14, V.ap_14, V.fz_15, V.ow_15, V.ap_15, getE, setE, setMany, setNils, isTy, tyOf, List.map_cons, List.map_nil, List.length_cons, List.length_nil, List.cons_append, List.nil_append, List.append_nil, Nat.reduceSub, Nat.reduceAdd, atI_0, atI_1, atI_2, call_W5, call_W4, call_W2, call_W2o, call_W1, call_W1o, call_W0, call_W3, call_L0, call_L1, call_L1o, call_L2, call_L3, Option.some.injEq]
      refine ⟨by omega, by omega, trivial, ?_⟩
      rw [fmod_p sp, fmod_p tp]
      have e1 : ((i + m) % s + 1) % s = (i + (m + 1)) % s := by rw [Int.emod_add_emod]; congr 1; omega
      have e2 : ((j - m) % t - 1) % t = (j - (m + 1)) % t := by rw [Int.emod_sub_emod]; congr 1; omega
      have e3 : rows s t i j m ++ [PyData.tuple [.int ((i + m) % s), .int ((j - m) % t)]] = rows s t i j (m + 1) := (rows_snoc m0).symm
      rw [e1, e2, e3]
      exact hd
    by_cases hmL : m = 0
    · subst hmL
      have e : ((rows s t i j 0).take 1).any (fun z => PyData.eqv z (.tuple [.int ((i + 0) % s), .int ((j - 0) % t)])) = false := by
        unfold rows
        rw [iv_nil (Int.le_refl _)]
        rfl
      rw [e, if_neg Bool.false_ne_true]
      exact nxt _ ⟨0 + 1, _, rfl, by omega, by omega, rfl⟩
    · have e : ((rows s t i j m).take 1).any (fun z => PyData.eqv z (.tuple [.int ((i + m) % s), .int ((j - m) % t)])) = decide (lcm2 s t ∣ m) := by
        unfold rows
        rw [iv_cons (show 0 < m by omega)]
        simp only [List.map_cons, List.take_succ_cons, List.take_zero, List.any_cons, List.any_nil, Bool.or_false]
        show PyData.eqv (.tuple [.int ((i + 0) % s), .int ((j - 0) % t)]) _ = _
        rw [eqv_tn2, Bool.eq_iff_iff]
        simp only [Bool.and_eq_true, beq_iff_eq, decide_eq_true_eq]
        rw [← row_eq (i := i) (j := j) tp]
        exact ⟨fun h => ⟨h.1.symm, h.2.symm⟩, fun h => ⟨h.1.symm, h.2.symm⟩⟩
      rw [e]
      by_cases hd : lcm2 s t ∣ m
      · have e2 : m = lcm2 s t := by
          by_cases hlt : m < lcm2 s t
          · exact absurd (dvd_small hd (by omega) hlt) hmL
          · omega
        rw [decide_eq_true hd, if_pos rfl]
        subst e2
        exact hD _ rfl
      · rw [decide_eq_false hd, if_neg Bool.false_ne_true]
        have : m ≠ lcm2 s t := fun z => hd (by rw [z]; exact Int.dvd_refl _)
        exact nxt _ ⟨m + 1, _, rfl, by omega, by omega, rfl⟩
  · have e1 : (i + 0) % s = i := by rw [Int.add_zero]; exact Int.emod_eq_of_lt h3.1 h3.2
    have e2 : (j - 0) % t = j := by rw [Int.sub_zero]; exact Int.emod_eq_of_lt h4.1 h4.2
    rw [e1, e2]
    unfold rows
    rw [iv_nil (Int.le_refl _)]
    rfl
end K50

set_option maxRecDepth 100000
set_option maxHeartbeats 1000000
namespace K50
open PySem PF NL
theorem shp_ints (xs : List Int) : SeqAt.shaped (.list (xs.map .int)) = true := shp_list fun x hx => by
  obtain ⟨i, _, rfl⟩ := List.mem_map.mp hx
  exact ⟨rfl, by simp [PyData.depth]⟩
theorem map_id' : ∀ xs : List Int, (xs.map PyData.int).map (fun x => x) = xs.map .int := fun xs => by simp
theorem filter_ints {p : PyData → Bool} {q : Int → Bool} (h : ∀ i, p (.int i) = q i) (xs : List Int) : (xs.map PyData.int).filter p = (xs.filter q).map .int := by
  rw [List.filter_map]
  congr 1
  refine List.filter_congr fun x _ => h x
theorem rows_len {s t i j n : Int} (h : 0 ≤ n) : ((rows s t i j n).length : Int) = n := by
  unfold rows
  rw [List.length_map, iv_len]
  omega
theorem atI_rows {s t i j n k : Int} (h0 : 0 ≤ k) (h1 : k < n) : L2.atI (rows s t i j n) k = some (row s t i j k) := by
  have hl := rows_len (s := s) (t := t) (i := i) (j := j) (n := n) (by omega)
  rw [atI_lt h0 (by rw [hl]; exact h1)]
  unfold rows iv
  rw [List.getElem?_map, List.getElem?_map, List.getElem?_range (by omega)]
  simp only [Option.map]
  congr 2
  omega
theorem iL_pos {s t i j a b : Int} (h : okM s t i j a b) : 0 < lcm2 s t ∧ lcm2 s t ≤ 1000000 := by
  obtain ⟨h1, h2, _⟩ := h
  have := lcm2_le (show 0 < s by omega) (show 0 < t by omega)
  have hst : s * t ≤ 1000 * 1000 := Int.mul_le_mul (by omega) (by omega) (by omega) (by omega)
  exact ⟨lcm2_pos (by omega) (by omega), by omega⟩
theorem shp_row (s t i j k : Int) : SeqAt.shaped (row s t i j k) = true := rfl
def dueOk (s t i j a b : Int) (due : PyData) : Prop := (due = .none ∧ ∀ x, ¬ M s t i j a b x) ∨ ∃ F, due = tn F (lcm2 s t) ∧ Sol (M s t i j a b) F (lcm2 s t)
def w__law_progression : WF := fun xs k => ∃ s t i j a b : Int, xs = [.list (rows s t i j (lcm2 s t)), tn a b] ∧ okM s t i j a b ∧ wMeets s t i j a b k
theorem m__law_progression : w__law_progression.Mono := fun xs k k' h ⟨s, t, i, j, a, b, h1, h2, h3⟩ => ⟨s, t, i, j, a, b, h1, h2, fun z => h _ (h3.1 z), fun F z => h _ (h3.2 F z)⟩
def sp__law_progression : ASp := spW w__law_progression m__law_progression
def cc__law_progression_1 : E := (.cmp .eq (.ix (.var 0) (.var 3)) (.var 1))
def ce__law_progression_2 : E := (.var 3)
def b__law_progression_2 : Ss := (.cons (.ret (.ife (.cmp .ne (.var 2) (.lst .nil)) (.tup (.cons (.ix (.var 2) (.int 0)) (.cons (.bi .len (.cons (.var 0) .nil)) .nil))) .none)) .nil)
def b__law_progression : Ss := (.cons (.asgF 2 (.comp ce__law_progression_2 (some ()) cc__law_progression_1 (.nm 3) (.range1 (.bi .len (.cons (.var 0) .nil))) [("_law_k", 3)])) b__law_progression_2)
theorem p__law_progression : Body 2 4 [] b__law_progression sp__law_progression := by
  refine body_WT (fun xs k h => ?_) fun xs k h D hD _ _ => ?_
  · obtain ⟨s, t, i, j, a, b, rfl, _⟩ := h; rfl
  obtain ⟨s, t, i, j, a, b, rfl, ok, hn, hs⟩ := h
  obtain ⟨Lp, Ll⟩ := iL_pos ok
  have hl := rows_len (s := s) (t := t) (i := i) (j := j) (n := lcm2 s t) (by omega)
  unfold b__law_progression tn
  simp only [initE, List.map_cons, List.map_nil, List.length_cons, List.length_nil, Nat.reduceAdd, Nat.reduceSub, List.replicate, List.cons_append, List.nil_append]
  simp -implicitDefEqProofs only [V.rd_d, V.rd_o, V.rd_b, V.da_d, V.da_o, V.das_n, V.das_c, V.rds_n, V.rds_c, V.tr_b, V.tr_i, V.tr_n, V.tr_l, V.tr_t, V.tr_o, V.bn_add, V.bn_sub, V.bn_mul, V.bn_fdiv, V.bn_mod, V.bn_pow, V.bn_cat, V.cp_eq, V.cp_ne, V.cp_lt, V.cp_le, V.cp_gt, V.cp_ge, V.cp_in, V.cp_nin, V.is_n, V.isn_n, V.is_b, V.isn_b, V.is_i, V.isn_i, V.is_s, V.isn_s, V.is_l, V.isn_l, V.is_t, V.isn_t, V.is_bb, V.isn_bb, V.ix_l, V.ix_t, V.sl_l, V.bi_len, V.bi_lent, V.bi_abs, V.bi_max2, V.bi_min2, V.bi_int, V.bi_intb, V.bi_list, V.bi_listt, V.bi_tup, V.bi_tupt, V.bi_sum, V.bi_any, V.bi_all, V.bi_min1, V.bi_max1, V.bi_sorted, V.bi_repr, V.sq_d, V.sq_t, V.sq_o, V.ls_d, V.ls_o, V.tg_n, V.tg_t, V.vd_0, V.vo_0, V.vd_1, V.vo_1, V.vd_2, V.vo_2, V.vd_3, V.vo_3, V.vd_4, V.vo_4, V.vd_5, V.vo_5, V.vd_6, V.vo_6, V.vd_7, V.vo_7, V.vd_8, V.vo_8, V.vd_9, V.vo_9, V.vd_10, V.vo_10, V.vd_11, V.vo_11, V.vd_12, V.vo_12, V.vd_13, V.vo_13, V.vd_14, V.vo_14, V.vd_15, V.vo_15, V.e_int, V.e_bool, V.e_none, V.e_str, V.e_glob, V.e_bin, V.e_not, V.e_and, V.e_or, V.e_cmp, V.e_chain, V.e_ife, V.e_tup, V.e_lst, V.e_ix, V.e_call, V.e_callK, V.e_bi, V.e_inst, V.e_comp, V.ng, V.e_neg, V.e_slU, V.e_slL, V.e_lrg1, V.e_lrg3, V.es_n, V.es_c, V.it_seq, V.it_r1, V.it_r2, V.it_en, V.it_zip, V.ss_n, V.ss_c, V.s_asgF, V.kp_d, V.kp_o, V.s_asg, V.s_par, V.s_parN, V.tp_d, V.s_unp, V.s_expr, V.s_ret, V.s_retN, V.s_ite, V.s_for, V.s_pass, V.s_brk, V.s_cont, V.fz_0, V.ow_0, V.ap_0, V.fz_1, V.ow_1, V.ap_1, V.fz_2, V.ow_2, V.ap_2, V.fz_3, V.ow_3, V.ap_3, V.fz_4, V.ow_4, V.ap_4, V.fz_5, V.ow_5, V.ap_5, V.fz_6, V.ow_6, V.ap_6, V.fz_7, V.ow_7, V.ap_7, V.fz_8, V.ow_8, V.ap_8, V.fz_9, V.ow_9, V.ap_9, V.fz_10, V.ow_10, V.ap_10, V.fz_11, V.ow_11, V.ap_11, V.fz_12, V.ow_12, V.ap_12, V.fz_13, V.ow_13, V.ap_13, V.fz_14, V.ow_14, V.ap_14, V.fz_15, V.ow_15, V.ap_15, getE, setE, setMany, setNils, isTy, tyOf, List.map_cons, List.map_nil, List.length_cons, List.length_nil, List.cons_append, List.nil_append, List.append_nil, Nat.reduceSub, Nat.reduceAdd, atI_0, atI_1, atI_2, call_W5, call_W4, call_W2, call_W2o, call_W1, call_W1o, call_W0, call_W3, call_L0, call_L1, call_L1o, call_L2, call_L3, Option.some.injEq, rangeK, hl]
  refine ⟨⟨by decide, by decide, by omega, by omega, by rw [sizeLine_eq]; omega⟩, ⟨trivial, trivial⟩, ?_⟩
  rw [rangeL_iv]
  refine comp_f (fun v => [some (.d (.list (rows s t i j (lcm2 s t)))), some (.d (.tuple [.int a, .int b])), none, v.map AV.d]) (fun z => match z with | .int x => (i + x) % s == a && (j - x) % t == b | _ => false) (fun z => z) rfl (fun _ => rfl) rfl (fun _ => rfl) (fun z _ k q => q) (fun z => by cases z) (fun z hz _ q hq => ?_) (fun z hz _ q hq => ?_) ?_
  · obtain ⟨x, hx, rfl⟩ := List.mem_map.mp hz
    obtain ⟨x1, x2⟩ := mem_iv.mp hx
    unfold cc__law_progression_1
    simp -implicitDefEqProofs only [Option.map, V.rd_d, V.rd_o, V.rd_b, V.da_d, V.da_o, V.das_n, V.das_c, V.rds_n, V.rds_c, V.tr_b, V.tr_i, V.tr_n, V.tr_l, V.tr_t, V.tr_o, V.bn_add, V.bn_sub, V.bn_mul, V.bn_fdiv, V.bn_mod, V.bn_pow, V.bn_cat, V.cp_eq, V.cp_ne, V.cp_lt, V.cp_le, V.cp_gt, V.cp_ge, V.cp_in, V.cp_nin, V.is_n, V.isn_n, V.is_b, V.isn_b, V.is_i, V.isn_i, V.is_s, V.isn_s, V.is_l, V.isn_l, V.is_t, V.isn_t, V.is_bb, V.isn_bb, V.ix_l, V.ix_t, V.sl_l, V.bi_len, V.bi_lent, V.bi_abs, V.bi_max2, V.bi_min2, V.bi_int, V.bi_intb, V.bi_list, V.bi_listt, V.bi_tup, V.bi_tupt, V.bi_sum, V.bi_any, V.bi_all, V.bi_min1, V.bi_max1, V.bi_sorted, V.bi_repr, V.sq_d, V.sq_t, V.sq_o, V.ls_d, V.ls_o, V.tg_n, V.tg_t, V.vd_0, V.vo_0, V.vd_1, V.vo_1, V.vd_2, V.vo_2, V.vd_3, V.vo_3, V.vd_4, V.vo_4, V.vd_5, V.vo_5, V.vd_6, V.vo_6, V.vd_7, V.vo_7, V.vd_8, V.vo_8, V.vd_9, V.vo_9, V.vd_10, V.vo_10, V.vd_11, V.vo_11, V.vd_12, V.vo_12, V.vd_13, V.vo_13, V.vd_14, V.vo_14, V.vd_15, V.vo_15, V.e_int, V.e_bool, V.e_none, V.e_str, V.e_glob, V.e_bin, V.e_not, V.e_and, V.e_or, V.e_cmp, V.e_chain, V.e_ife, V.e_tup, V.e_lst, V.e_ix, V.e_call, V.e_callK, V.e_bi, V.e_inst, V.e_comp, V.ng, V.e_neg, V.e_slU, V.e_slL, V.e_lrg1, V.e_lrg3, V.es_n, V.es_c, V.it_seq, V.it_r1, V.it_r2, V.it_en, V.it_zip, V.ss_n, V.ss_c, V.s_asgF, V.kp_d, V.kp_o, V.s_asg, V.s_par, V.s_parN, V.tp_d, V.s_unp, V.s_expr, V.s_ret, V.s_retN, V.s_ite, V.s_for, V.s_pass, V.s_brk, V.s_cont, V.fz_0, V.ow_0, V.ap_0, V.fz_1, V.ow_1, V.ap_1, V.fz_2, V.ow_2, V.ap_2, V.fz_3, V.ow_3, V.ap_3, V.fz_4, V.ow_4, V.ap_4, V.fz_5, V.ow_5, V.ap_5, V.fz_6, V.ow_6, V.ap_6, V.fz_7, V.ow_7, V.ap_7, V.fz_8, V.ow_8, V.ap_8, V.fz_9, V.ow_9, V.ap_9, V.fz_10, V.ow_10, V.ap_10, V.fz_11, V.ow_11, V.ap_11, V.fz_12, V.ow_12, V.ap_12, V.fz_13, V.ow_13, V.ap_13, V.fz_14, V.ow_14, V.ap_14, V.fz_15, V.ow_15, V.ap_15, getE, setE, setMany, setNils, isTy, tyOf, List.map_cons, List.map_nil, List.length_cons, List.length_nil, List.cons_append, List.nil_append, List.append_nil, Nat.reduceSub, Nat.reduceAdd, atI_0, atI_1, atI_2, call_W5, call_W4, call_W2, call_W2o, call_W1, call_W1o, call_W0, call_W3, call_L0, call_L1, call_L1o, call_L2, call_L3, Option.some.injEq]
    rw [atI_rows x1 x2]
    refine ⟨shp_row _ _ _ _ _, rfl, ?_⟩
    unfold row tn
    rw [eqv_tn2]
    exact hq
  · unfold ce__law_progression_2
    simp -implicitDefEqProofs only [Option.map, V.rd_d, V.rd_o, V.rd_b, V.da_d, V.da_o, V.das_n, V.das_c, V.rds_n, V.rds_c, V.tr_b, V.tr_i, V.tr_n, V.tr_l, V.tr_t, V.tr_o, V.bn_add, V.bn_sub, V.bn_mul, V.bn_fdiv, V.bn_mod, V.bn_pow, V.bn_cat, V.cp_eq, V.cp_ne, V.cp_lt, V.cp_le, V.cp_gt, V.cp_ge, V.cp_in, V.cp_nin, V.is_n, V.isn_n, V.is_b, V.isn_b, V.is_i, V.isn_i, V.is_s, V.isn_s, V.is_l, V.isn_l, V.is_t, V.isn_t, V.is_bb, V.isn_bb, V.ix_l, V.ix_t, V.sl_l, V.bi_len, V.bi_lent, V.bi_abs, V.bi_max2, V.bi_min2, V.bi_int, V.bi_intb, V.bi_list, V.bi_listt, V.bi_tup, V.bi_tupt, V.bi_sum, V.bi_any, V.bi_all, V.bi_min1, V.bi_max1, V.bi_sorted, V.bi_repr, V.sq_d, V.sq_t, V.sq_o, V.ls_d, V.ls_o, V.tg_n, V.tg_t, V.vd_0, V.vo_0, V.vd_1, V.vo_1, V.vd_2, V.vo_2, V.vd_3, V.vo_3, V.vd_4, V.vo_4, V.vd_5, V.vo_5, V.vd_6, V.vo_6, V.vd_7, V.vo_7, V.vd_8, V.vo_8, V.vd_9, V.vo_9, V.vd_10, V.vo_10, V.vd_11, V.vo_11, V.vd_12, V.vo_12, V.vd_13, V.vo_13, V.vd_14, V.vo_14, V.vd_15, V.vo_15, V.e_int, V.e_bool, V.e_none, V.e_str, V.e_glob, V.e_bin, V.e_not, V.e_and, V.e_or, V.e_cmp, V.e_chain, V.e_ife, V.e_tup, V.e_lst, V.e_ix, V.e_call, V.e_callK, V.e_bi, V.e_inst, V.e_comp, V.ng, V.e_neg, V.e_slU, V.e_slL, V.e_lrg1, V.e_lrg3, V.es_n, V.es_c, V.it_seq, V.it_r1, V.it_r2, V.it_en, V.it_zip, V.ss_n, V.ss_c, V.s_asgF, V.kp_d, V.kp_o, V.s_asg, V.s_par, V.s_parN, V.tp_d, V.s_unp, V.s_expr, V.s_ret, V.s_retN, V.s_ite, V.s_for, V.s_pass, V.s_brk, V.s_cont, V.fz_0, V.ow_0, V.ap_0, V.fz_1, V.ow_1, V.ap_1, V.fz_2, V.ow_2, V.ap_2, V.fz_3, V.ow_3, V.ap_3, V.fz_4, V.ow_4, V.ap_4, V.fz_5, V.ow_5, V.ap_5, V.fz_6, V.ow_6, V.ap_6, V.fz_7, V.ow_7, V.ap_7, V.fz_8, V.ow_8, V.ap_8, V.fz_9, V.ow_9, V.ap_9, V.fz_10, V.ow_10, V.ap_10, V.fz_11, V.ow_11, V.ap_11, V.fz_12, V.ow_12, V.ap_12, V.fz_13, V.ow_13, V.ap_13, V.fz_14, V.ow_14, V.ap_14, V.fz_15, V.ow_15, V.ap_15, getE, setE, setMany, setNils, isTy, tyOf, List.map_cons, List.map_nil, List.length_cons, List.length_nil, List.cons_append, List.nil_append, List.append_nil, Nat.reduceSub, Nat.reduceAdd, atI_0, atI_1, atI_2, call_W5, call_W4, call_W2, call_W2o, call_W1, call_W1o, call_W0, call_W3, call_L0, call_L1, call_L1o, call_L2, call_L3, Option.some.injEq]
    exact hq
  intro env' hb
  rw [filter_ints (q := fun x => (i + x) % s == a && (j - x) % t == b) (fun i => rfl), map_id', hb]
  simp -implicitDefEqProofs only [V.rd_d, V.rd_o, V.rd_b, V.da_d, V.da_o, V.das_n, V.das_c, V.rds_n, V.rds_c, V.tr_b, V.tr_i, V.tr_n, V.tr_l, V.tr_t, V.tr_o, V.bn_add, V.bn_sub, V.bn_mul, V.bn_fdiv, V.bn_mod, V.bn_pow, V.bn_cat, V.cp_eq, V.cp_ne, V.cp_lt, V.cp_le, V.cp_gt, V.cp_ge, V.cp_in, V.cp_nin, V.is_n, V.isn_n, V.is_b, V.isn_b, V.is_i, V.isn_i, V.is_s, V.isn_s, V.is_l, V.isn_l, V.is_t, V.isn_t, V.is_bb, V.isn_bb, V.ix_l, V.ix_t, V.sl_l, V.bi_len, V.bi_lent, V.bi_abs, V.bi_max2, V.bi_min2, V.bi_int, V.bi_intb, V.bi_list, V.bi_listt, V.bi_tup, V.bi_tupt, V.bi_sum, V.bi_any, V.bi_all, V.bi_min1, V.bi_max1, V.bi_sorted, V.bi_repr, V.sq_d, V.sq_t, V.sq_o, V.ls_d, V.ls_o, V.tg_n, V.tg_t, V.vd_0, V.vo_0, V.vd_1, V.vo_1, V.vd_2, V.vo_2, V.vd_3, V.vo_3, V.vd_4, V.vo_4, V.vd_5, V.vo_5, V.vd_6, V.vo_6, V.vd_7, V.vo_7, V.vd_8, V.vo_8, V.vd_9, V.vo_9, V.vd_10, V.vo_10, V.vd_11, V.vo_11, V.vd_12, V.vo_12, V.vd_13, V.vo_13, V.vd_14, V.vo_14, V.vd_15, V.vo_15, V.e_int, V.e_bool, V.e_none, V.e_str, V.e_glob, V.e_bin, V.e_not, V.e_and, V.e_or, V.e_cmp, V.e_chain, V.e_ife, V.e_tup, V.e_lst, V.e_ix, V.e_call, V.e_callK, V.e_bi, V.e_inst, V.e_comp, V.ng, V.e_neg, V.e_slU, V.e_slL, V.e_lrg1, V.e_lrg3, V.es_n, V.es_c, V.it_seq, V.it_r1, V.it_r2, V.it_en, V.it_zip, V.ss_n, V.ss_c, V.s_asgF, V.kp_d, V.kp_o, V.s_asg, V.s_par, V.s_parN, V.tp_d, V.s_unp, V.s_expr, V.s_ret, V.s_retN, V.s_ite, V.s_for, V.s_pass, V.s_brk, V.s_cont, V.fz_0, V.ow_0, V.ap_0, V.fz_1, V.ow_1, V.ap_1, V.fz_2, V.ow_2, V.ap_2, V.fz_3, V.ow_3, V.ap_3, V.fz_4, V.ow_4, V.ap_4, V.fz_5, V.ow_5, V.ap_5, V.fz_6, V.ow_6, V.ap_6, V.fz_7, V.ow_7, V.ap_7, V.fz_8, V.ow_8, V.ap_8, V.fz_9, V.ow_9, V.ap_9, V.fz_10, V.ow_10, V.ap_10, V.fz_11, V.ow_11, V.ap_11, V.fz_12, V.ow_12, V.ap_12, V.fz_13, V.ow_13, V.ap_13, V.fz_14, V.ow_14, V.ap_14, V.fz_15, V.ow_15, V.ap_15, getE, setE, setMany, setNils, isTy, tyOf, List.map_cons, List.map_nil, List.length_cons, List.length_nil, List.cons_append, List.nil_append, List.append_nil, Nat.reduceSub, Nat.reduceAdd, atI_0, atI_1, atI_2, call_W5, call_W4, call_W2, call_W2o, call_W1, call_W1o, call_W0, call_W3, call_L0, call_L1, call_L1o, call_L2, call_L3, Option.some.injEq]
  have hM : ∀ x, ((i + x) % s == a && (j - x) % t == b) = true ↔ M s t i j a b x := fun x => by
    unfold M
    simp only [Bool.and_eq_true, beq_iff_eq]
  unfold b__law_progression_2
  simp -implicitDefEqProofs only [V.rd_d, V.rd_o, V.rd_b, V.da_d, V.da_o, V.das_n, V.das_c, V.rds_n, V.rds_c, V.tr_b, V.tr_i, V.tr_n, V.tr_l, V.tr_t, V.tr_o, V.bn_add, V.bn_sub, V.bn_mul, V.bn_fdiv, V.bn_mod, V.bn_pow, V.bn_cat, V.cp_eq, V.cp_ne, V.cp_lt, V.cp_le, V.cp_gt, V.cp_ge, V.cp_in, V.cp_nin, V.is_n, V.isn_n, V.is_b, V.isn_b, V.is_i, V.isn_i, V.is_s, V.isn_s, V.is_l, V.isn_l, V.is_t, V.isn_t, V.is_bb, V.isn_bb, V.ix_l, V.ix_t, V.sl_l, V.bi_len, V.bi_lent, V.bi_abs, V.bi_max2, V.bi_min2, V.bi_int, V.bi_intb, V.bi_list, V.bi_listt, V.bi_tup, V.bi_tupt, V.bi_sum, V.bi_any, V.bi_all, V.bi_min1, V.bi_max1, V.bi_sorted, V.bi_repr, V.sq_d, V.sq_t, V.sq_o, V.ls_d, V.ls_o, V.tg_n, V.tg_t, V.vd_0, V.vo_0, V.vd_1, V.vo_1, V.vd_2, V.vo_2, V.vd_3, V.vo_3, V.vd_4, V.vo_4, V.vd_5, V.vo_5, V.vd_6, V.vo_6, V.vd_7, V.vo_7, V.vd_8, V.vo_8, V.vd_9, V.vo_9, V.vd_10, V.vo_10, V.vd_11, V.vo_11, V.vd_12, V.vo_12, V.vd_13, V.vo_13, V.vd_14, V.vo_14, V.vd_15, V.vo_15, V.e_int, V.e_bool, V.e_none, V.e_str, V.e_glob, V.e_bin, V.e_not, V.e_and, V.e_or, V.e_cmp, V.e_chain, V.e_ife, V.e_tup, V.e_lst, V.e_ix, V.e_call, V.e_callK, V.e_bi, V.e_inst, V.e_comp, V.ng, V.e_neg, V.e_slU, V.e_slL, V.e_lrg1, V.e_lrg3, V.es_n, V.es_c, V.it_seq, V.it_r1, V.it_r2, V.it_en, V.it_zip, V.ss_n, V.ss_c, V.s_asgF, V.kp_d, V.kp_o, V.s_asg, V.s_par, V.s_parN, V.tp_d, V.s_unp, V.s_expr, V.s_ret, V.s_retN, V.s_ite, V.s_for, V.s_pass, V.s_brk, V.s_cont, V.fz_0, V.ow_0, V.ap_0, V.fz_1, V.ow_1, V.ap_1, V.fz_2, V.ow_2, V.ap_2, V.fz_3, V.ow_3, V.ap_3, V.fz_4, V.ow_4, V.ap_4, V.fz_5, V.ow_5, V.ap_5, V.fz_6, V.ow_6, V.ap_6, V.fz_7, V.ow_7, V.ap_7, V.fz_8, V.ow_8, V.ap_8, V.fz_9, V.ow_9, V.ap_9, V.fz_10, V.ow_10, V.ap_10, V.fz_11, V.ow_11, V.ap_11, V.fz_12, V.ow_12, V.ap_12, V.fz_13, V.ow_13, V.ap_13, V.fz_14, V.ow_14, V.ap_14, V.fz_15, V.ow_15, V.ap_15, getE, setE, setMany, setNils, isTy, tyOf, List.map_cons, List.map_nil, List.length_cons, List.length_nil, List.cons_append, List.nil_append, List.append_nil, Nat.reduceSub, Nat.reduceAdd, atI_0, atI_1, atI_2, call_W5, call_W4, call_W2, call_W2o, call_W1, call_W1o, call_W0, call_W3, call_L0, call_L1, call_L1o, call_L2, call_L3, Option.some.injEq, hl]
  refine ⟨shp_ints _, rfl, ?_⟩
  by_cases hex : ∃ x, M s t i j a b x
  · obtain ⟨x0, hx0⟩ := hex
    have hx0' := (M_iff ok).mp hx0
    have so : Sol (M s t i j a b) (x0 % lcm2 s t) (lcm2 s t) := by
      refine ⟨Int.emod_nonneg _ (by omega), Int.emod_lt_of_pos _ Lp, fun x => ?_⟩
      rw [M_iff ok, dvd_mod]
      obtain ⟨h1, h2, _⟩ := ok
      constructor
      · rintro ⟨⟨q, hq⟩, r, hr⟩
        obtain ⟨⟨q', hq'⟩, r', hr'⟩ := hx0'
        exact lcm2_dvd (by omega) ⟨q - q', by grind⟩ ⟨r - r', by grind⟩
      · intro hd
        obtain ⟨⟨q', hq'⟩, r', hr'⟩ := hx0'
        obtain ⟨q, hq⟩ := Int.dvd_trans (lcm2_left (show 0 < t by omega)) hd
        obtain ⟨r, hr⟩ := Int.dvd_trans (lcm2_right (show 0 < t by omega)) hd
        exact ⟨⟨q + q', by grind⟩, r + r', by grind⟩
    generalize x0 % lcm2 s t = F at so
    have fl : (iv 0 (lcm2 s t)).filter (fun x => (i + x) % s == a && (j - x) % t == b) = [F] := by
      have := filter_prog so.1 so.2.1 (p := fun x => (i + x) % s == a && (j - x) % t == b) (fun x => (hM x).trans (so.2.2 x)) 1
      rw [show lcm2 s t * ((1 : Nat) : Int) = lcm2 s t by omega] at this
      rw [this]
      simp
    rw [fl]
    have e : (!PyData.eqv (.list ([F].map .int)) (.list [])) = true := by simp [PyData.eqv, PyData.eqvAll]
    rw [e, if_pos rfl]
    simp -implicitDefEqProofs only [V.rd_d, V.rd_o, V.rd_b, V.da_d, V.da_o, V.das_n, V.das_c, V.rds_n, V.rds_c, V.tr_b, V.tr_i, V.tr_n, V.tr_l, V.tr_t, V.tr_o, V.bn_add, V.bn_sub, V.bn_mul, V.bn_fdiv, V.bn_mod, V.bn_pow, V.bn_cat, V.cp_eq, V.cp_ne, V.cp_lt, V.cp_le, V.cp_gt, V.cp_ge, V.cp_in, V.cp_nin, V.is_n, V.isn_n, V.is_b, V.isn_b, V.is_i, V.isn_i, V.is_s, V.isn_s, V.is_l, V.isn_l, V.is_t, V.isn_t, V.is_bb, V.isn_bb, V.ix_l, V.ix_t, V.sl_l, V.bi_len, V.bi_lent, V.bi_abs, V.bi_max2, V.bi_min2, V.bi_int, V.bi_intb, V.bi_list, V.bi_listt, V.bi_tup, V.bi_tupt, V.bi_sum, V.bi_any, V.bi_all, V.bi_min1, V.bi_max1, V.bi_sorted, V.bi_repr, V.sq_d, V.sq_t, V.sq_o, V.ls_d, V.ls_o, V.tg_n, V.tg_t, V.vd_0, V.vo_0, V.vd_1, V.vo_1, V.vd_2, V.vo_2, V.vd_3, V.vo_3, V.vd_4, V.vo_4, V.vd_5, V.vo_5, V.vd_6, V.vo_6, V.vd_7, V.vo_7, V.vd_8, V.vo_8, V.vd_9, V.vo_9, V.vd_10, V.vo_10, V.vd_11, V.vo_11, V.vd_12, V.vo_12, V.vd_13, V.vo_13, V.vd_14, V.vo_14, V.vd_15, V.vo_15, V.e_int, V.e_bool, V.e_none, V.e_str, V.e_glob, V.e_bin, V.e_not, V.e_and, V.e_or, V.e_cmp, V.e_chain, V.e_ife, V.e_tup, V.e_lst, V.e_ix, V.e_call, V.e_callK, V.e_bi, V.e_inst, V.e_comp, V.ng, V.e_neg, V.e_slU, V.e_slL, V.e_lrg1, V.e_lrg3, V.es_n, V.es_c, V.it_seq, V.it_r1, V.it_r2, V.it_en, V.it_zip, V.ss_n, V.ss_c, V.s_asgF, V.kp_d, V.kp_o, V.s_asg, V.s_par, V.s_parN, V.tp_d, V.s_unp, V.s_expr, V.s_ret, V.s_retN, V.s_ite, V.s_for, V.s_pass, V.s_brk, V.s_cont, V.fz_0, V.ow_0, V.ap_0, V.fz_1, V.ow_1, V.ap_1, V.fz_2, V.ow_2, V.ap_2, V.fz_3, V.ow_3, V.ap_3, V.fz_4, V.ow_4, V.ap_4, V.fz_5, V.ow_5, V.ap_5, V.fz_6, V.ow_6, V.ap_6, V.fz_7, V.ow_7, V.ap_7, V.fz_8, V.ow_8, V.ap_8, V.fz_9, V.ow_9, V.ap_9, V.fz_10, V.ow_10, V.ap_10, V.fz_11, V.ow_11, V.ap_11, V.fz_12, V.ow_12, V.ap_12, V.fz_13, V.ow_13, V.ap_13, V.fz_14, V.ow_14, V.ap_14, V.fz_15, V.ow_15, V.ap_15, getE, setE, setMany, setNils, isTy, tyOf, List.map_cons, List.map_nil, List.length_cons, List.length_nil, List.cons_append, List.nil_append, List.append_nil, Nat.reduceSub, Nat.reduceAdd, atI_0, atI_1, atI_2, call_W5, call_W4, call_W2, call_W2o, call_W1, call_W1o, call_W0, call_W3, call_L0, call_L1, call_L1o, call_L2, call_L3, Option.some.injEq]
    exact hD _ _ (hs F so)
  · have fl : (iv 0 (lcm2 s t)).filter (fun x => (i + x) % s == a && (j - x) % t == b) = [] := filter_none fun x _ _ => by
      cases q : ((i + x) % s == a && (j - x) % t == b) with
      | false => rfl
      | true => exact absurd ⟨x, (hM x).mp q⟩ hex
    rw [fl]
    have e : (!PyData.eqv (.list (([] : List Int).map .int)) (.list [])) = false := by simp [PyData.eqv, PyData.eqvAll]
    rw [e, if_neg Bool.false_ne_true]
    exact hD _ _ (hn fun x hx => hex ⟨x, hx⟩)
/-! ### counts -/
theorem cnt_gt {c F L : Int} (hL : 0 < L) (h : F < c) : cntF c F L = 1 + (c - 1 - F) / L := by
  unfold cntF
  have e : c - F + L - 1 = (c - 1 - F) + 1 * L := by omega
  rw [e, Int.add_mul_ediv_right _ _ (by omega)]
  have : 0 ≤ (c - 1 - F) / L := Int.ediv_nonneg (by omega) (by omega)
  rw [if_pos (by omega)]
  omega
theorem cnt_le {c F L : Int} (hL : 0 < L) (h : c ≤ F) : cntF c F L = 0 := by
  unfold cntF
  have : (c - F + L - 1) / L < 1 := Int.ediv_lt_of_lt_mul hL (by omega)
  rw [if_neg (by omega)]
theorem sol_same {P : Int → Prop} {F F' W : Int} (h : Sol P F W) (h' : Sol P F' W) : F' = F := by
  have := h'.uniq ((h.2.2 F).mpr ⟨0, by omega⟩)
  rw [this]
  exact Int.emod_eq_of_lt h.1 h.2.1
def w__law_counts_right : LF := fun l xs k => ∃ (n : Nat) (s t i j a b : Int) (due : PyData), xs = [.int s, .int t, .tuple [.int i, .int j], .tuple [.int a, .int b], due] ∧ okM s t i j a b ∧ dueOk s t i j a b due ∧ Urn n l ∧ n < 1000000 ∧ ∀ l', Urn (n + 2) l' → k (.d (.bool true)) l'
theorem m__law_counts_right : w__law_counts_right.Mono := fun l xs k k' h ⟨n, s, t, i, j, a, b, due, h1, h2, h3, h4, h5, h6⟩ => ⟨n, s, t, i, j, a, b, due, h1, h2, h3, h4, h5, fun l' u => h _ _ (h6 l' u)⟩
def sp__law_counts_right : ASp := spL w__law_counts_right m__law_counts_right
def u__law_counts_right_1 : Ss := (.cons (.ite (.cmp .ne (.call "times_met" sp_times_met (.cons (.var 1) (.cons (.var 2) (.cons (.var 3) (.cons (.ix (.var 4) (.int 0)) (.cons (.ix (.var 4) (.int 1)) (.cons (.var 6) .nil))))))) (.var 8)) (.cons (.ret (.bool false))
  .nil) .nil)
  .nil)
def u__law_counts_right_2 : Ss := (.cons (.ite (.and (.cmp .isnot (.var 5) .none) (.cmp .gt (.var 6) (.ix (.var 5) (.int 0)))) (.cons (.asgF 8 (.bin .add (.int 1) (.bin .fdiv (.bin .sub (.bin .sub (.var 6) (.int 1)) (.ix (.var 5) (.int 0))) (.ix (.var 5) (.int 1)))))
  .nil) .nil)
  u__law_counts_right_1)
def lb__law_counts_right_3 : Ss := (.cons (.asgF 8 (.int 0))
  u__law_counts_right_2)
def b__law_counts_right_3 : Ss := (.cons (.ret (.cmp .eq (.var 7) (.call "times_met" sp_times_met (.cons (.var 1) (.cons (.var 2) (.cons (.var 3) (.cons (.ix (.var 4) (.int 0)) (.cons (.ix (.var 4) (.int 1)) (.cons (.int 50) .nil))))))))) .nil)
def b__law_counts_right_2 : Ss := (.cons (.asgF 7 (.callK "times_met" sp_times_met ["teeth", "other_teeth", "begin", "tooth", "other_tooth", "count"] ["count", "other_tooth", "tooth", "begin", "other_teeth", "teeth"] (.cons (.int 50) (.cons (.ix (.var 4) (.int 1)) (.cons (.ix (.var 4) (.int 0)) (.cons (.var 3) (.cons (.var 2) (.cons (.var 1) .nil)))))))) b__law_counts_right_3)
def b__law_counts_right : Ss := (.cons (.forS (.nm 6) (.seq (.tup (.cons (.call "_law_pick" sp__law_pick (.cons (.var 0) (.cons (.int 400) .nil))) (.cons (.bin .add (.bin .pow (.int 10) (.int 29)) (.call "_law_pick" sp__law_pick (.cons (.var 0) (.cons (.bin .pow (.int 10) (.int 29)) .nil)))) (.cons (.int 0) .nil))))) lb__law_counts_right_3) b__law_counts_right_2)
theorem ro_t {u v w x y z : AV} : reorder ["teeth", "other_teeth", "begin", "tooth", "other_tooth", "count"] ["count", "other_tooth", "tooth", "begin", "other_teeth", "teeth"] [u, v, w, x, y, z] = some [z, y, x, w, v, u] := rfl
theorem p__law_counts_right : Body 6 9 [0] b__law_counts_right sp__law_counts_right := by
  refine body_LT (fun l xs k h => ?_) fun l xs k h D hD _ => ?_
  · obtain ⟨n, s, t, i, j, a, b, due, rfl, _⟩ := h; rfl
  obtain ⟨n, s, t, i, j, a, b, due, rfl, ok, hd, hu, hn, h⟩ := h
  obtain ⟨Lp, Ll⟩ := iL_pos ok
  have s29 : sz 100 (10 ^ Int.toNat 29) := by unfold sz; decide
  have pw := s10.pow (e := 29) (by decide) (by decide)
  have p29 : (0 : Int) < 10 ^ Int.toNat 29 := by decide
  have hdd : ∀ F, Sol (M s t i j a b) F (lcm2 s t) → due = tn F (lcm2 s t) := fun F so => by
    rcases hd with ⟨_, hno⟩ | ⟨F', e, so'⟩
    · exact absurd ((so.2.2 F).mpr ⟨0, by omega⟩) (hno F)
    · rw [e, sol_same so' so]
  unfold b__law_counts_right
  simp only [initE, List.map_cons, List.map_nil, List.length_cons, List.length_nil, Nat.reduceAdd, Nat.reduceSub, List.replicate, List.cons_append, List.nil_append]
  simp -implicitDefEqProofs only [V.rd_d, V.rd_o, V.rd_b, V.da_d, V.da_o, V.das_n, V.das_c, V.rds_n, V.rds_c, V.tr_b, V.tr_i, V.tr_n, V.tr_l, V.tr_t, V.tr_o, V.bn_add, V.bn_sub, V.bn_mul, V.bn_fdiv, V.bn_mod, V.bn_pow, V.bn_cat, V.cp_eq, V.cp_ne, V.cp_lt, V.cp_le, V.cp_gt, V.cp_ge, V.cp_in, V.cp_nin, V.is_n, V.isn_n, V.is_b, V.isn_b, V.is_i, V.isn_i, V.is_s, V.isn_s, V.is_l, V.isn_l, V.is_t, V.isn_t, V.is_bb, V.isn_bb, V.ix_l, V.ix_t, V.sl_l, V.bi_len, V.bi_lent, V.bi_abs, V.bi_max2, V.bi_min2, V.bi_int, V.bi_intb, V.bi_list, V.bi_listt, V.bi_tup, V.bi_tupt, V.bi_sum, V.bi_any, V.bi_all, V.bi_min1, V.bi_max1, V.bi_sorted, V.bi_repr, V.sq_d, V.sq_t, V.sq_o, V.ls_d, V.ls_o, V.tg_n, V.tg_t, V.vd_0, V.vo_0, V.vd_1, V.vo_1, V.vd_2, V.vo_2, V.vd_3, V.vo_3, V.vd_4, V.vo_4, V.vd_5, V.vo_5, V.vd_6, V.vo_6, V.vd_7, V.vo_7, V.vd_8, V.vo_8, V.vd_9, V.vo_9, V.vd_10, V.vo_10, V.vd_11, V.vo_11, V.vd_12, V.vo_12, V.vd_13, V.vo_13, V.vd_14, V.vo_14, V.vd_15, V.vo_15, V.e_int, V.e_bool, V.e_none, V.e_str, V.e_glob, V.e_bin, V.e_not, V.e_and, V.e_or, V.e_cmp, V.e_chain, V.e_ife, V.e_tup, V.e_lst, V.e_ix, V.e_call, V.e_callK, V.e_bi, V.e_inst, V.e_comp, V.ng, V.e_neg, V.e_slU, V.e_slL, V.e_lrg1, V.e_lrg3, V.es_n, V.es_c, V.it_seq, V.it_r1, V.it_r2, V.it_en, V.it_zip, V.ss_n, V.ss_c, V.s_asgF, V.kp_d, V.kp_o, V.s_asg, V.s_par, V.s_parN, V.tp_d, V.s_unp, V.s_expr, V.s_ret, V.s_retN, V.s_ite, V.s_for, V.s_pass, V.s_brk, V.s_cont, V.fz_0, V.ow_0, V.ap_0, V.fz_1, V.ow_1, V.ap_1, V.fz_2, V.ow_2, V.ap_2, V.fz_3, V.ow_3, V.ap_3, V.fz_4, V.ow_4, V.ap_4, V.fz_5, V.ow_5, V.ap_5, V.fz_6, V.ow_6, V.ap_6, V.fz_7, V.ow_7, V.ap_7, V.fz_8, V.ow_8, V.ap_8, V.fz_9, V.ow_9, V.ap_9, V.fz_10, V.ow_10, V.ap_10, V.fz_11, V.ow_11, V.ap_11, V.fz_12, V.ow_12, V.ap_12, V.fz_13, V.ow_13, V.ap_13, V.fz_14, V.ow_14, V.ap_14, V.fz_15, V.ow_15, V.ap_15, getE, setE, setMany, setNils, isTy, tyOf, List.map_cons, List.map_nil, List.length_cons, List.length_nil, List.cons_append, List.nil_append, List.append_nil, Nat.reduceSub, Nat.reduceAdd, atI_0, atI_1, atI_2, call_W5, call_W4, call_W2, call_W2o, call_W1, call_W1o, call_W0, call_W3, call_L0, call_L1, call_L1o, call_L2, call_L3, Option.some.injEq, sp__law_pick]
  refine ⟨n, _, rfl, hu, by omega, by decide, (sz_lit (n := 9) (by decide)).mono (by decide), fun c1 l1 c10 c11 hu1 => ?_⟩
  simp -implicitDefEqProofs only [V.rd_d, V.rd_o, V.rd_b, V.da_d, V.da_o, V.das_n, V.das_c, V.rds_n, V.rds_c, V.tr_b, V.tr_i, V.tr_n, V.tr_l, V.tr_t, V.tr_o, V.bn_add, V.bn_sub, V.bn_mul, V.bn_fdiv, V.bn_mod, V.bn_pow, V.bn_cat, V.cp_eq, V.cp_ne, V.cp_lt, V.cp_le, V.cp_gt, V.cp_ge, V.cp_in, V.cp_nin, V.is_n, V.isn_n, V.is_b, V.isn_b, V.is_i, V.isn_i, V.is_s, V.isn_s, V.is_l, V.isn_l, V.is_t, V.isn_t, V.is_bb, V.isn_bb, V.ix_l, V.ix_t, V.sl_l, V.bi_len, V.bi_lent, V.bi_abs, V.bi_max2, V.bi_min2, V.bi_int, V.bi_intb, V.bi_list, V.bi_listt, V.bi_tup, V.bi_tupt, V.bi_sum, V.bi_any, V.bi_all, V.bi_min1, V.bi_max1, V.bi_sorted, V.bi_repr, V.sq_d, V.sq_t, V.sq_o, V.ls_d, V.ls_o, V.tg_n, V.tg_t, V.vd_0, V.vo_0, V.vd_1, V.vo_1, V.vd_2, V.vo_2, V.vd_3, V.vo_3, V.vd_4, V.vo_4, V.vd_5, V.vo_5, V.vd_6, V.vo_6, V.vd_7, V.vo_7, V.vd_8, V.vo_8, V.vd_9, V.vo_9, V.vd_10, V.vo_10, V.vd_11, V.vo_11, V.vd_12, V.vo_12, V.vd_13, V.vo_13, V.vd_14, V.vo_14, V.vd_15, V.vo_15, V.e_int, V.e_bool, V.e_none, V.e_str, V.e_glob, V.e_bin, V.e_not, V.e_and, V.e_or, V.e_cmp, V.e_chain, V.e_ife, V.e_tup, V.e_lst, V.e_ix, V.e_call, V.e_callK, V.e_bi, V.e_inst, V.e_comp, V.ng, V.e_neg, V.e_slU, V.e_slL, V.e_lrg1, V.e_lrg3, V.es_n, V.es_c, V.it_seq, V.it_r1, V.it_r2, V.it_en, V.it_zip, V.ss_n, V.ss_c, V.s_asgF, V.kp_d, V.kp_o, V.s_asg, V.s_par, V.s_parN, V.tp_d, V.s_unp, V.s_expr, V.s_ret, V.s_retN, V.s_ite, V.s_for, V.s_pass, V.s_brk, V.s_cont, V.fz_0, V.ow_0, V.ap_0, V.fz_1, V.ow_1, V.ap_1, V.fz_2, V.ow_2, V.ap_2, V.fz_3, V.ow_3, V.ap_3, V.fz_4, V.ow_4, V.ap_4, V.fz_5, V.ow_5, V.ap_5, V.fz_6, V.ow_6, V.ap_6, V.fz_7, V.ow_7, V.ap_7, V.fz_8, V.ow_8, V.ap_8, V.fz_9, V.ow_9, V.ap_9, V.fz_10, V.ow_10, V.ap_10, V.fz_11, V.ow_11, V.ap_11, V.fz_12, V.ow_12, V.ap_12, V.fz_13, V.ow_13, V.ap_13, V.fz_14, V.ow_14, V.ap_14, V.fz_15, V.ow_15, V.ap_15, getE, setE, setMany, setNils, isTy, tyOf, List.map_cons, List.map_nil, List.length_cons, List.length_nil, List.cons_append, List.nil_append, List.append_nil, Nat.reduceSub, Nat.reduceAdd, atI_0, atI_1, atI_2, call_W5, call_W4, call_W2, call_W2o, call_W1, call_W1o, call_W0, call_W3, call_L0, call_L1, call_L1o, call_L2, call_L3, Option.some.injEq]
  refine ⟨pw, pw, n + 1, _, rfl, hu1, by omega, p29, s29.mono (by decide), fun c2 l2 c20 c21 hu2 => ?_⟩
  simp -implicitDefEqProofs only [V.rd_d, V.rd_o, V.rd_b, V.da_d, V.da_o, V.das_n, V.das_c, V.rds_n, V.rds_c, V.tr_b, V.tr_i, V.tr_n, V.tr_l, V.tr_t, V.tr_o, V.bn_add, V.bn_sub, V.bn_mul, V.bn_fdiv, V.bn_mod, V.bn_pow, V.bn_cat, V.cp_eq, V.cp_ne, V.cp_lt, V.cp_le, V.cp_gt, V.cp_ge, V.cp_in, V.cp_nin, V.is_n, V.isn_n, V.is_b, V.isn_b, V.is_i, V.isn_i, V.is_s, V.isn_s, V.is_l, V.isn_l, V.is_t, V.isn_t, V.is_bb, V.isn_bb, V.ix_l, V.ix_t, V.sl_l, V.bi_len, V.bi_lent, V.bi_abs, V.bi_max2, V.bi_min2, V.bi_int, V.bi_intb, V.bi_list, V.bi_listt, V.bi_tup, V.bi_tupt, V.bi_sum, V.bi_any, V.bi_all, V.bi_min1, V.bi_max1, V.bi_sorted, V.bi_repr, V.sq_d, V.sq_t, V.sq_o, V.ls_d, V.ls_o, V.tg_n, V.tg_t, V.vd_0, V.vo_0, V.vd_1, V.vo_1, V.vd_2, V.vo_2, V.vd_3, V.vo_3, V.vd_4, V.vo_4, V.vd_5, V.vo_5, V.vd_6, V.vo_6, V.vd_7, V.vo_7, V.vd_8, V.vo_8, V.vd_9, V.vo_9, V.vd_10, V.vo_10, V.vd_11, V.vo_11, V.vd_12, V.vo_12, V.vd_13, V.vo_13, V.vd_14, V.vo_14, V.vd_15, V.vo_15, V.e_int, V.e_bool, V.e_none, V.e_str, V.e_glob, V.e_bin, V.e_not, V.e_and, V.e_or, V.e_cmp, V.e_chain, V.e_ife, V.e_tup, V.e_lst, V.e_ix, V.e_call, V.e_callK, V.e_bi, V.e_inst, V.e_comp, V.ng, V.e_neg, V.e_slU, V.e_slL, V.e_lrg1, V.e_lrg3, V.es_n, V.es_c, V.it_seq, V.it_r1, V.it_r2, V.it_en, V.it_zip, V.ss_n, V.ss_c, V.s_asgF, V.kp_d, V.kp_o, V.s_asg, V.s_par, V.s_parN, V.tp_d, V.s_unp, V.s_expr, V.s_ret, V.s_retN, V.s_ite, V.s_for, V.s_pass, V.s_brk, V.s_cont, V.fz_0, V.ow_0, V.ap_0, V.fz_1, V.ow_1, V.ap_1, V.fz_2, V.ow_2, V.ap_2, V.fz_3, V.ow_3, V.ap_3, V.fz_4, V.ow_4, V.ap_4, V.fz_5, V.ow_5, V.ap_5, V.fz_6, V.ow_6, V.ap_6, V.fz_7, V.ow_7, V.ap_7, V.fz_8, V.ow_8, V.ap_8, V.fz_9, V.ow_9, V.ap_9, V.fz_10, V.ow_10, V.ap_10, V.fz_11, V.ow_11, V.ap_11, V.fz_12, V.ow_12, V.ap_12, V.fz_13, V.ow_13, V.ap_13, V.fz_14, V.ow_14, V.ap_14, V.fz_15, V.ow_15, V.ap_15, getE, setE, setMany, setNils, isTy, tyOf, List.map_cons, List.map_nil, List.length_cons, List.length_nil, List.cons_append, List.nil_append, List.append_nil, Nat.reduceSub, Nat.reduceAdd, atI_0, atI_1, atI_2, call_W5, call_W4, call_W2, call_W2o, call_W1, call_W1o, call_W0, call_W3, call_L0, call_L1, call_L1o, call_L2, call_L3, Option.some.injEq]
  refine for_inv (fun xs env => ∃ (cs : List Int) (s6 s8 : Option AV), xs = cs.map .int ∧ (∀ c ∈ cs, 0 ≤ c) ∧ env = [some (.o l2), some (.d (.int s)), some (.d (.int t)), some (.d (.tuple [.int i, .int j])), some (.d (.tuple [.int a, .int b])), some (.d due), s6, none, s8]) (fun env D D' => body_mono env D D') ?_ ?_ ⟨[c1, 10 ^ Int.toNat 29 + c2, 0], none, none, rfl, ?_, rfl⟩
  · rintro env ⟨cs, s6, s8, _, _, rfl⟩
    unfold b__law_counts_right_2
    simp -implicitDefEqProofs only [V.rd_d, V.rd_o, V.rd_b, V.da_d, V.da_o, V.das_n, V.das_c, V.rds_n, V.rds_c, V.tr_b, V.tr_i, V.tr_n, V.tr_l, V.tr_t, V.tr_o, V.bn_add, V.bn_sub, V.bn_mul, V.bn_fdiv, V.bn_mod, V.bn_pow, V.bn_cat, V.cp_eq, V.cp_ne, V.cp_lt, V.cp_le, V.cp_gt, V.cp_ge, V.cp_in, V.cp_nin, V.is_n, V.isn_n, V.is_b, V.isn_b, V.is_i, V.isn_i, V.is_s, V.isn_s, V.is_l, V.isn_l, V.is_t, V.isn_t, V.is_bb, V.isn_bb, V.ix_l, V.ix_t, V.sl_l, V.bi_len, V.bi_lent, V.bi_abs, V.bi_max2, V.bi_min2, V.bi_int, V.bi_intb, V.bi_list, V.bi_listt, V.bi_tup, V.bi_tupt, V.bi_sum, V.bi_any, V.bi_all, V.bi_min1, V.bi_max1, V.bi_sorted, V.bi_repr, V.sq_d, V.sq_t, V.sq_o, V.ls_d, V.ls_o, V.tg_n, V.tg_t, V.vd_0, V.vo_0, V.vd_1, V.vo_1, V.vd_2, V.vo_2, V.vd_3, V.vo_3, V.vd_4, V.vo_4, V.vd_5, V.vo_5, V.vd_6, V.vo_6, V.vd_7, V.vo_7, V.vd_8, V.vo_8, V.vd_9, V.vo_9, V.vd_10, V.vo_10, V.vd_11, V.vo_11, V.vd_12, V.vo_12, V.vd_13, V.vo_13, V.vd_14, V.vo_14, V.vd_15, V.vo_15, V.e_int, V.e_bool, V.e_none, V.e_str, V.e_glob, V.e_bin, V.e_not, V.e_and, V.e_or, V.e_cmp, V.e_chain, V.e_ife, V.e_tup, V.e_lst, V.e_ix, V.e_call, V.e_callK, V.e_bi, V.e_inst, V.e_comp, V.ng, V.e_neg, V.e_slU, V.e_slL, V.e_lrg1, V.e_lrg3, V.es_n, V.es_c, V.it_seq, V.it_r1, V.it_r2, V.it_en, V.it_zip, V.ss_n, V.ss_c, V.s_asgF, V.kp_d, V.kp_o, V.s_asg, V.s_par, V.s_parN, V.tp_d, V.s_unp, V.s_expr, V.s_ret, V.s_retN, V.s_ite, V.s_for, V.s_pass, V.s_brk, V.s_cont, V.fz_0, V.ow_0, V.ap_0, V.fz_1, V.ow_1, V.ap_1, V.fz_2, V.ow_2, V.ap_2, V.fz_3, V.ow_3, V.ap_3, V.fz_4, V.ow_4, V.ap_4, V.fz_5, V.ow_5, V.ap_5, V.fz_6, V.ow_6, V.ap_6, V.fz_7, V.ow_7, V.ap_7, V.fz_8, V.ow_8, V.ap_8, V.fz_9, V.ow_9, V.ap_9, V.fz_10, V.ow_10, V.ap_10, V.fz_11, V.ow_11, V.ap_11, V.fz_12, V.ow_12, V.ap_12, V.fz_13, V.ow_13, V.ap_13, V.fz_14, V.ow_14, V.ap_14, V.fz_15, V.ow_15, V.ap_15, getE, setE, setMany, setNils, isTy, tyOf, List.map_cons, List.map_nil, List.length_cons, List.length_nil, List.cons_append, List.nil_append, List.append_nil, Nat.reduceSub, Nat.reduceAdd, atI_0, atI_1, atI_2, call_W5, call_W4, call_W2, call_W2o, call_W1, call_W1o, call_W0, call_W3, call_L0, call_L1, call_L1o, call_L2, call_L3, Option.some.injEq, ro_t, sp_times_met, call_W6]
    refine ⟨⟨ok, by decide⟩, fun z => ?_, fun F so => ?_⟩
    · unfold b__law_counts_right_3
      simp -implicitDefEqProofs only [V.rd_d, V.rd_o, V.rd_b, V.da_d, V.da_o, V.das_n, V.das_c, V.rds_n, V.rds_c, V.tr_b, V.tr_i, V.tr_n, V.tr_l, V.tr_t, V.tr_o, V.bn_add, V.bn_sub, V.bn_mul, V.bn_fdiv, V.bn_mod, V.bn_pow, V.bn_cat, V.cp_eq, V.cp_ne, V.cp_lt, V.cp_le, V.cp_gt, V.cp_ge, V.cp_in, V.cp_nin, V.is_n, V.isn_n, V.is_b, V.isn_b, V.is_i, V.isn_i, V.is_s, V.isn_s, V.is_l, V.isn_l, V.is_t, V.isn_t, V.is_bb, V.isn_bb, V.ix_l, V.ix_t, V.sl_l, V.bi_len, V.bi_lent, V.bi_abs, V.bi_max2, V.bi_min2, V.bi_int, V.bi_intb, V.bi_list, V.bi_listt, V.bi_tup, V.bi_tupt, V.bi_sum, V.bi_any, V.bi_all, V.bi_min1, V.bi_max1, V.bi_sorted, V.bi_repr, V.sq_d, V.sq_t, V.sq_o, V.ls_d, V.ls_o, V.tg_n, V.tg_t, V.vd_0, V.vo_0, V.vd_1, V.vo_1, V.vd_2, V.vo_2, V.vd_3, V.vo_3, V.vd_4, V.vo_4, V.vd_5, V.vo_5, V.vd_6, V.vo_6, V.vd_7, V.vo_7, V.vd_8, V.vo_8, V.vd_9, V.vo_9, V.vd_10, V.vo_10, V.vd_11, V.vo_11, V.vd_12, V.vo_12, V.vd_13, V.vo_13, V.vd_14, V.vo_14, V.vd_15, V.vo_15, V.e_int, V.e_bool, V.e_none, V.e_str, V.e_glob, V.e_bin, V.e_not, V.e_and, V.e_or, V.e_cmp, V.e_chain, V.e_ife, V.e_tup, V.e_lst, V.e_ix, V.e_call, V.e_callK, V.e_bi, V.e_inst, V.e_comp, V.ng, V.e_neg, V.e_slU, V.e_slL, V.e_lrg1, V.e_lrg3, V.es_n, V.es_c, V.it_seq, V.it_r1, V.it_r2, V.it_en, V.it_zip, V.ss_n, V.ss_c, V.s_asgF, V.kp_d, V.kp_o, V.s_asg, V.s_par, V.s_parN, V.tp_d, V.s_unp, V.s_expr, V.s_ret, V.s_retN, V.s_ite, V.s_for, V.s_pass, V.s_brk, V.s_cont, V.fz_0, V.ow_0, V.ap_0, V.fz_1, V.ow_1, V.ap_1, V.fz_2, V.ow_2, V.ap_2, V.fz_3, V.ow_3, V.ap_3, V.fz_4, V.ow_4, V.ap_4, V.fz_5, V.ow_5, V.ap_5, V.fz_6, V.ow_6, V.ap_6, V.fz_7, V.ow_7, V.ap_7, V.fz_8, V.ow_8, V.ap_8, V.fz_9, V.ow_9, V.ap_9, V.fz_10, V.ow_10, V.ap_10, V.fz_11, V.ow_11, V.ap_11, V.fz_12, V.ow_12, V.ap_12, V.fz_13, V.ow_13, V.ap_13, V.fz_14, V.ow_14, V.ap_14, V.fz_15, V.ow_15, V.ap_15, getE, setE, setMany, setNils, isTy, tyOf, List.map_cons, List.map_nil, List.length_cons, List.length_nil, List.cons_append, List.nil_append, List.append_nil, Nat.reduceSub, Nat.reduceAdd, atI_0, atI_1, atI_2, call_W5, call_W4, call_W2, call_W2o, call_W1, call_W1o, call_W0, call_W3, call_L0, call_L1, call_L1o, call_L2, call_L3, Option.some.injEq, sp_times_met, call_W6]
      refine ⟨⟨ok, by decide⟩, fun z' => ?_, fun F so => absurd ((so.2.2 F).mpr ⟨0, by omega⟩) (z F)⟩
      simp -implicitDefEqProofs only [V.rd_d, V.rd_o, V.rd_b, V.da_d, V.da_o, V.das_n, V.das_c, V.rds_n, V.rds_c, V.tr_b, V.tr_i, V.tr_n, V.tr_l, V.tr_t, V.tr_o, V.bn_add, V.bn_sub, V.bn_mul, V.bn_fdiv, V.bn_mod, V.bn_pow, V.bn_cat, V.cp_eq, V.cp_ne, V.cp_lt, V.cp_le, V.cp_gt, V.cp_ge, V.cp_in, V.cp_nin, V.is_n, V.isn_n, V.is_b, V.isn_b, V.is_i, V.isn_i, V.is_s, V.isn_s, V.is_l, V.isn_l, V.is_t, V.isn_t, V.is_bb, V.isn_bb, V.ix_l, V.ix_t, V.sl_l, V.bi_len, V.bi_lent, V.bi_abs, V.bi_max2, V.bi_min2, V.bi_int, V.bi_intb, V.bi_list, V.bi_listt, V.bi_tup, V.bi_tupt, V.bi_sum, V.bi_any, V.bi_all, V.bi_min1, V.bi_max1, V.bi_sorted, V.bi_repr, V.sq_d, V.sq_t, V.sq_o, V.ls_d, V.ls_o, V.tg_n, V.tg_t, V.vd_0, V.vo_0, V.vd_1, V.vo_1, V.vd_2, V.vo_2, V.vd_3, V.vo_3, V.vd_4, V.vo_4, V.vd_5, V.vo_5, V.vd_6, V.vo_6, V.vd_7, V.vo_7, V.vd_8, V.vo_8, V.vd_9, V.vo_9, V.vd_10, V.vo_10, V.vd_11, V.vo_11, V.vd_12, V.vo_12, V.vd_13, V.vo_13, V.vd_14, V.vo_14, V.vd_15, V.vo_15, V.e_int, V.e_bool, V.e_none, V.e_str, V.e_glob, V.e_bin, V.e_not, V.e_and, V.e_or, V.e_cmp, V.e_chain, V.e_ife, V.e_tup, V.e_lst, V.e_ix, V.e_call, V.e_callK, V.e_bi, V.e_inst, V.e_comp, V.ng, V.e_neg, V.e_slU, V.e_slL, V.e_lrg1, V.e_lrg3, V.es_n, V.es_c, V.it_seq, V.it_r1, V.it_r2, V.it_en, V.it_zip, V.ss_n, V.ss_c, V.s_asgF, V.kp_d, V.kp_o, V.s_asg, V.s_par, V.s_parN, V.tp_d, V.s_unp, V.s_expr, V.s_ret, V.s_retN, V.s_ite, V.s_for, V.s_pass, V.s_brk, V.s_cont, V.fz_0, V.ow_0, V.ap_0, V.fz_1, V.ow_1, V.ap_1, V.fz_2, V.ow_2, V.ap_2, V.fz_3, V.ow_3, V.ap_3, V.fz_4, V.ow_4, V.ap_4, V.fz_5, V.ow_5, V.ap_5, V.fz_6, V.ow_6, V.ap_6, V.fz_7, V.ow_7, V.ap_7, V.fz_8, V.ow_8, V.ap_8, V.fz_9, V.ow_9, V.ap_9, V.fz_10, V.ow_10, V.ap_10, V.fz_11, V.ow_11, V.ap_11, V.fz_12, V.ow_12, V.ap_12, V.fz_13, V.ow_13, V.ap_13, V.fz_14, V.ow_14, V.ap_14, V.fz_15, V.ow_15, V.ap_15, getE, setE, setMany, setNils, isTy, tyOf, List.map_cons, List.map_nil, List.length_cons, List.length_nil, List.cons_append, List.nil_append, List.append_nil, Nat.reduceSub, Nat.reduceAdd, atI_0, atI_1, atI_2, call_W5, call_W4, call_W2, call_W2o, call_W1, call_W1o, call_W0, call_W3, call_L0, call_L1, call_L1o, call_L2, call_L3, Option.some.injEq]
      exact ⟨rfl, rfl, hD _ _ _ rfl (h _ hu2)⟩
    · unfold b__law_counts_right_3
      simp -implicitDefEqProofs only [V.rd_d, V.rd_o, V.rd_b, V.da_d, V.da_o, V.das_n, V.das_c, V.rds_n, V.rds_c, V.tr_b, V.tr_i, V.tr_n, V.tr_l, V.tr_t, V.tr_o, V.bn_add, V.bn_sub, V.bn_mul, V.bn_fdiv, V.bn_mod, V.bn_pow, V.bn_cat, V.cp_eq, V.cp_ne, V.cp_lt, V.cp_le, V.cp_gt, V.cp_ge, V.cp_in, V.cp_nin, V.is_n, V.isn_n, V.is_b, V.isn_b, V.is_i, V.isn_i, V.is_s, V.isn_s, V.is_l, V.isn_l, V.is_t, V.isn_t, V.is_bb, V.isn_bb, V.ix_l, V.ix_t, V.sl_l, V.bi_len, V.bi_lent, V.bi_abs, V.bi_max2, V.bi_min2, V.bi_int, V.bi_intb, V.bi_list, V.bi_listt, V.bi_tup, V.bi_tupt, V.bi_sum, V.bi_any, V.bi_all, V.bi_min1, V.bi_max1, V.bi_sorted, V.bi_repr, V.sq_d, V.sq_t, V.sq_o, V.ls_d, V.ls_o, V.tg_n, V.tg_t, V.vd_0, V.vo_0, V.vd_1, V.vo_1, V.vd_2, V.vo_2, V.vd_3, V.vo_3, V.vd_4, V.vo_4, V.vd_5, V.vo_5, V.vd_6, V.vo_6, V.vd_7, V.vo_7, V.vd_8, V.vo_8, V.vd_9, V.vo_9, V.vd_10, V.vo_10, V.vd_11, V.vo_11, V.vd_12, V.vo_12, V.vd_13, V.vo_13, V.vd_14, V.vo_14, V.vd_15, V.vo_15, V.e_int, V.e_bool, V.e_none, V.e_str, V.e_glob, V.e_bin, V.e_not, V.e_and, V.e_or, V.e_cmp, V.e_chain, V.e_ife, V.e_tup, V.e_lst, V.e_ix, V.e_call, V.e_callK, V.e_bi, V.e_inst, V.e_comp, V.ng, V.e_neg, V.e_slU, V.e_slL, V.e_lrg1, V.e_lrg3, V.es_n, V.es_c, V.it_seq, V.it_r1, V.it_r2, V.it_en, V.it_zip, V.ss_n, V.ss_c, V.s_asgF, V.kp_d, V.kp_o, V.s_asg, V.s_par, V.s_parN, V.tp_d, V.s_unp, V.s_expr, V.s_ret, V.s_retN, V.s_ite, V.s_for, V.s_pass, V.s_brk, V.s_cont, V.fz_0, V.ow_0, V.ap_0, V.fz_1, V.ow_1, V.ap_1, V.fz_2, V.ow_2, V.ap_2, V.fz_3, V.ow_3, V.ap_3, V.fz_4, V.ow_4, V.ap_4, V.fz_5, V.ow_5, V.ap_5, V.fz_6, V.ow_6, V.ap_6, V.fz_7, V.ow_7, V.ap_7, V.fz_8, V.ow_8, V.ap_8, V.fz_9, V.ow_9, V.ap_9, V.fz_10, V.ow_10, V.ap_10, V.fz_11, V.ow_11, V.ap_11, V.fz_12, V.ow_12, V.ap_12, V.fz_13, V.ow_13, V.ap_13, V.fz_14, V.ow_14, V.ap_14, V.fz_15, V.ow_15, V.ap_15, getE, setE, setMany, setNils, isTy, tyOf, List.map_cons, List.map_nil, List.length_cons, List.length_nil, List.cons_append, List.nil_append, List.append_nil, Nat.reduceSub, Nat.reduceAdd, atI_0, atI_1, atI_2, call_W5, call_W4, call_W2, call_W2o, call_W1, call_W1o, call_W0, call_W3, call_L0, call_L1, call_L1o, call_L2, call_L3, Option.some.injEq, sp_times_met, call_W6]
      refine ⟨⟨ok, by decide⟩, fun z' => absurd ((so.2.2 F).mpr ⟨0, by omega⟩) (z' F), fun F' so' => ?_⟩
      simp -implicitDefEqProofs only [V.rd_d, V.rd_o, V.rd_b, V.da_d, V.da_o, V.das_n, V.das_c, V.rds_n, V.rds_c, V.tr_b, V.tr_i, V.tr_n, V.tr_l, V.tr_t, V.tr_o, V.bn_add, V.bn_sub, V.bn_mul, V.bn_fdiv, V.bn_mod, V.bn_pow, V.bn_cat, V.cp_eq, V.cp_ne, V.cp_lt, V.cp_le, V.cp_gt, V.cp_ge, V.cp_in, V.cp_nin, V.is_n, V.isn_n, V.is_b, V.isn_b, V.is_i, V.isn_i, V.is_s, V.isn_s, V.is_l, V.isn_l, V.is_t, V.isn_t, V.is_bb, V.isn_bb, V.ix_l, V.ix_t, V.sl_l, V.bi_len, V.bi_lent, V.bi_abs, V.bi_max2, V.bi_min2, V.bi_int, V.bi_intb, V.bi_list, V.bi_listt, V.bi_tup, V.bi_tupt, V.bi_sum, V.bi_any, V.bi_all, V.bi_min1, V.bi_max1, V.bi_sorted, V.bi_repr, V.sq_d, V.sq_t, V.sq_o, V.ls_d, V.ls_o, V.tg_n, V.tg_t, V.vd_0, V.vo_0, V.vd_1, V.vo_1, V.vd_2, V.vo_2, V.vd_3, V.vo_3, V.vd_4, V.vo_4, V.vd_5, V.vo_5, V.vd_6, V.vo_6, V.vd_7, V.vo_7, V.vd_8, V.vo_8, V.vd_9, V.vo_9, V.vd_10, V.vo_10, V.vd_11, V.vo_11, V.vd_12, V.vo_12, V.vd_13, V.vo_13, V.vd_14, V.vo_14, V.vd_15, V.vo_15, V.e_int, V.e_bool, V.e_none, V.e_str, V.e_glob, V.e_bin, V.e_not, V.e_and, V.e_or, V.e_cmp, V.e_chain, V.e_ife, V.e_tup, V.e_lst, V.e_ix, V.e_call, V.e_callK, V.e_bi, V.e_inst, V.e_comp, V.ng, V.e_neg, V.e_slU, V.e_slL, V.e_lrg1, V.e_lrg3, V.es_n, V.es_c, V.it_seq, V.it_r1, V.it_r2, V.it_en, V.it_zip, V.ss_n, V.ss_c, V.s_asgF, V.kp_d, V.kp_o, V.s_asg, V.s_par, V.s_parN, V.tp_d, V.s_unp, V.s_expr, V.s_ret, V.s_retN, V.s_ite, V.s_for, V.s_pass, V.s_brk, V.s_cont, V.fz_0, V.ow_0, V.ap_0, V.fz_1, V.ow_1, V.ap_1, V.fz_2, V.ow_2, V.ap_2, V.fz_3, V.ow_3, V.ap_3, V.fz_4, V.ow_4, V.ap_4, V.fz_5, V.ow_5, V.ap_5, V.fz_6, V.ow_6, V.ap_6, V.fz_7, V.ow_7, V.ap_7, V.fz_8, V.ow_8, V.ap_8, V.fz_9, V.ow_9, V.ap_9, V.fz_10, V.ow_10, V.ap_10, V.fz_11, V.ow_11, V.ap_11, V.fz_12, V.ow_12, V.ap_12, V.fz_13, V.ow_13, V.ap_13, V.fz_14, V.ow_14, V.ap_14, V.fz_15, V.ow_15, V.ap_15, getE, setE, setMany, setNils, isTy, tyOf, List.map_cons, List.map_nil, List.length_cons, List.length_nil, List.cons_append, List.nil_append, List.append_nil, Nat.reduceSub, Nat.reduceAdd, atI_0, atI_1, atI_2, call_W5, call_W4, call_W2, call_W2o, call_W1, call_W1o, call_W0, call_W3, call_L0, call_L1, call_L1o, call_L2, call_L3, Option.some.injEq, sol_same so so']
      refine ⟨rfl, rfl, ?_⟩
      simp only [PyData.eqv, beq_self_eq_true]
      exact hD _ _ _ rfl (h _ hu2)
  · rintro z xs env ⟨cs, s6, s8, e, hc, rfl⟩
    cases cs with
    | nil => cases e
    | cons c cs =>
      simp only [List.map_cons, List.cons.injEq] at e
      obtain ⟨rfl, rfl⟩ := e
      have c0 := hc c List.mem_cons_self
      have hc' : ∀ x ∈ cs, 0 ≤ x := fun x hx => hc x (List.mem_cons_of_mem _ hx)
      have lst : ∀ (told : Int) (D : AEnds), (∀ F, Sol (M s t i j a b) F (lcm2 s t) → cntF c F (lcm2 s t) = told) → ((∀ x, ¬ M s t i j a b x) → told = 0) → (∀ s6 s8, D.nx [some (.o l2), some (.d (.int s)), some (.d (.int t)), some (.d (.tuple [.int i, .int j])), some (.d (.tuple [.int a, .int b])), some (.d due), s6, none, s8]) →
          wSs X0 u__law_counts_right_1 [some (.o l2), some (.d (.int s)), some (.d (.int t)), some (.d (.tuple [.int i, .int j])), some (.d (.tuple [.int a, .int b])), some (.d due), some (.d (.int c)), none, some (.d (.int told))] D := fun told D h1 h2 hx => by
        unfold u__law_counts_right_1
        simp -implicitDefEqProofs only [V.rd_d, V.rd_o, V.rd_b, V.da_d, V.da_o, V.das_n, V.das_c, V.rds_n, V.rds_c, V.tr_b, V.tr_i, V.tr_n, V.tr_l, V.tr_t, V.tr_o, V.bn_add, V.bn_sub, V.bn_mul, V.bn_fdiv, V.bn_mod, V.bn_pow, V.bn_cat, V.cp_eq, V.cp_ne, V.cp_lt, V.cp_le, V.cp_gt, V.cp_ge, V.cp_in, V.cp_nin, V.is_n, V.isn_n, V.is_b, V.isn_b, V.is_i, V.isn_i, V.is_s, V.isn_s, V.is_l, V.isn_l, V.is_t, V.isn_t, V.is_bb, V.isn_bb, V.ix_l, V.ix_t, V.sl_l, V.bi_len, V.bi_lent, V.bi_abs, V.bi_max2, V.bi_min2, V.bi_int, V.bi_intb, V.bi_list, V.bi_listt, V.bi_tup, V.bi_tupt, V.bi_sum, V.bi_any, V.bi_all, V.bi_min1, V.bi_max1, V.bi_sorted, V.bi_repr, V.sq_d, V.sq_t, V.sq_o, V.ls_d, V.ls_o, V.tg_n, V.tg_t, V.vd_0, V.vo_0, V.vd_1, V.vo_1, V.vd_2, V.vo_2, V.vd_3, V.vo_3, V.vd_4, V.vo_4, V.vd_5, V.vo_5, V.vd_6, V.vo_6, V.vd_7, V.vo_7, V.vd_8, V.vo_8, V.vd_9, V.vo_9, V.vd_10, V.vo_10, V.vd_11, V.vo_11, V.vd_12, V.vo_12, V.vd_13, V.vo_13, V.vd_14, V.vo_14, V.vd_15, V.vo_15, V.e_int, V.e_bool, V.e_none, V.e_str, V.e_glob, V.e_bin, V.e_not, V.e_and, V.e_or, V.e_cmp, V.e_chain, V.e_ife, V.e_tup, V.e_lst, V.e_ix, V.e_call, V.e_callK, V.e_bi, V.e_inst, V.e_comp, V.ng, V.e_neg, V.e_slU, V.e_slL, V.e_lrg1, V.e_lrg3, V.es_n, V.es_c, V.it_seq, V.it_r1, V.it_r2, V.it_en, V.it_zip, V.ss_n, V.ss_c, V.s_asgF, V.kp_d, V.kp_o, V.s_asg, V.s_par, V.s_parN, V.tp_d, V.s_unp, V.s_expr, V.s_ret, V.s_retN, V.s_ite, V.s_for, V.s_pass, V.s_brk, V.s_cont, V.fz_0, V.ow_0, V.ap_0, V.fz_1, V.ow_1, V.ap_1, V.fz_2, V.ow_2, V.ap_2, V.fz_3, V.ow_3, V.ap_3, V.fz_4, V.ow_4, V.ap_4, V.fz_5, V.ow_5, V.ap_5, V.fz_6, V.ow_6, V.ap_6, V.fz_7, V.ow_7, V.ap_7, V.fz_8, V.ow_8, V.ap_8, V.fz_9, V.ow_9, V.ap_9, V.fz_10, V.ow_10, V.ap_10, V.fz_11, V.ow_11, V.ap_11, V.fz_12, V.ow_12, V.ap_12, V.fz_13, V.ow_13, V.ap_13, V.fz_14, V.ow_14, V.ap_14, V.fz_15, V.ow_15, V.ap_15, getE, setE, setMany, setNils, isTy, tyOf, List.map_cons, List.map_nil, List.length_cons, List.length_nil, List.cons_append, List.nil_append, List.append_nil, Nat.reduceSub, Nat.reduceAdd, atI_0, atI_1, atI_2, call_W5, call_W4, call_W2, call_W2o, call_W1, call_W1o, call_W0, call_W3, call_L0, call_L1, call_L1o, call_L2, call_L3, Option.some.injEq, sp_times_met, call_W6]
        refine ⟨⟨ok, c0⟩, fun z => ?_, fun F so => ?_⟩
        · simp -implicitDefEqProofs only [V.rd_d, V.rd_o, V.rd_b, V.da_d, V.da_o, V.das_n, V.das_c, V.rds_n, V.rds_c, V.tr_b, V.tr_i, V.tr_n, V.tr_l, V.tr_t, V.tr_o, V.bn_add, V.bn_sub, V.bn_mul, V.bn_fdiv, V.bn_mod, V.bn_pow, V.bn_cat, V.cp_eq, V.cp_ne, V.cp_lt, V.cp_le, V.cp_gt, V.cp_ge, V.cp_in, V.cp_nin, V.is_n, V.isn_n, V.is_b, V.isn_b, V.is_i, V.isn_i, V.is_s, V.isn_s, V.is_l, V.isn_l, V.is_t, V.isn_t, V.is_bb, V.isn_bb, V.ix_l, V.ix_t, V.sl_l, V.bi_len, V.bi_lent, V.bi_abs, V.bi_max2, V.bi_min2, V.bi_int, V.bi_intb, V.bi_list, V.bi_listt, V.bi_tup, V.bi_tupt, V.bi_sum, V.bi_any, V.bi_all, V.bi_min1, V.bi_max1, V.bi_sorted, V.bi_repr, V.sq_d, V.sq_t, V.sq_o, V.ls_d, V.ls_o, V.tg_n, V.tg_t, V.vd_0, V.vo_0, V.vd_1, V.vo_1, V.vd_2, V.vo_2, V.vd_3, V.vo_3, V.vd_4, V.vo_4, V.vd_5, V.vo_5, V.vd_6, V.vo_6, V.vd_7, V.vo_7, V.vd_8, V.vo_8, V.vd_9, V.vo_9, V.vd_10, V.vo_10, V.vd_11, V.vo_11, V.vd_12, V.vo_12, V.vd_13, V.vo_13, V.vd_14, V.vo_14, V.vd_15, V.vo_15, V.e_int, V.e_bool, V.e_none, V.e_str, V.e_glob, V.e_bin, V.e_not, V.e_and, V.e_or, V.e_cmp, V.e_chain, V.e_ife, V.e_tup, V.e_lst, V.e_ix, V.e_call, V.e_callK, V.e_bi, V.e_inst, V.e_comp, V.ng, V.e_neg, V.e_slU, V.e_slL, V.e_lrg1, V.e_lrg3, V.es_n, V.es_c, V.it_seq, V.it_r1, V.it_r2, V.it_en, V.it_zip, V.ss_n, V.ss_c, V.s_asgF, V.kp_d, V.kp_o, V.s_asg, V.s_par, V.s_parN, V.tp_d, V.s_unp, V.s_expr, V.s_ret, V.s_retN, V.s_ite, V.s_for, V.s_pass, V.s_brk, V.s_cont, V.fz_0, V.ow_0, V.ap_0, V.fz_1, V.ow_1, V.ap_1, V.fz_2, V.ow_2, V.ap_2, V.fz_3, V.ow_3, V.ap_3, V.fz_4, V.ow_4, V.ap_4, V.fz_5, V.ow_5, V.ap_5, V.fz_6, V.ow_6, V.ap_6, V.fz_7, V.ow_7, V.ap_7, V.fz_8, V.ow_8, V.ap_8, V.fz_9, V.ow_9, V.ap_9, V.fz_10, V.ow_10, V.ap_10, V.fz_11, V.ow_11, V.ap_11, V.fz_12, V.ow_12, V.ap_12, V.fz_13, V.ow_13, V.ap_13, V.fz_14, V.ow_14, V.ap_14, V.fz_15, V.ow_15, V.ap_15, getE, setE, setMany, setNils, isTy, tyOf, List.map_cons, List.map_nil, List.length_cons, List.length_nil, List.cons_append, List.nil_append, List.append_nil, Nat.reduceSub, Nat.reduceAdd, atI_0, atI_1, atI_2, call_W5, call_W4, call_W2, call_W2o, call_W1, call_W1o, call_W0, call_W3, call_L0, call_L1, call_L1o, call_L2, call_L3, Option.some.injEq, h2 z]
          refine ⟨rfl, rfl, ?_⟩
          simp only [PyData.eqv, beq_self_eq_true, Bool.not_true, Bool.false_eq_true, if_false]
          exact hx _ _
        · simp -implicitDefEqProofs only [V.rd_d, V.rd_o, V.rd_b, V.da_d, V.da_o, V.das_n, V.das_c, V.rds_n, V.rds_c, V.tr_b, V.tr_i, V.tr_n, V.tr_l, V.tr_t, V.tr_o, V.bn_add, V.bn_sub, V.bn_mul, V.bn_fdiv, V.bn_mod, V.bn_pow, V.bn_cat, V.cp_eq, V.cp_ne, V.cp_lt, V.cp_le, V.cp_gt, V.cp_ge, V.cp_in, V.cp_nin, V.is_n, V.isn_n, V.is_b, V.isn_b, V.is_i, V.isn_i, V.is_s, V.isn_s, V.is_l, V.isn_l, V.is_t, V.isn_t, V.is_bb, V.isn_bb, V.ix_l, V.ix_t, V.sl_l, V.bi_len, V.bi_lent, V.bi_abs, V.bi_max2, V.bi_min2, V.bi_int, V.bi_intb, V.bi_list, V.bi_listt, V.bi_tup, V.bi_tupt, V.bi_sum, V.bi_any, V.bi_all, V.bi_min1, V.bi_max1, V.bi_sorted, V.bi_repr, V.sq_d, V.sq_t, V.sq_o, V.ls_d, V.ls_o, V.tg_n, V.tg_t, V.vd_0, V.vo_0, V.vd_1, V.vo_1, V.vd_2, V.vo_2, V.vd_3, V.vo_3, V.vd_4, V.vo_4, V.vd_5, V.vo_5, V.vd_6, V.vo_6, V.vd_7, V.vo_7, V.vd_8, V.vo_8, V.vd_9, V.vo_9, V.vd_10, V.vo_10, V.vd_11, V.vo_11, V.vd_12, V.vo_12, V.vd_13, V.vo_13, V.vd_14, V.vo_14, V.vd_15, V.vo_15, V.e_int, V.e_bool, V.e_none, V.e_str, V.e_glob, V.e_bin, V.e_not, V.e_and, V.e_or, V.e_cmp, V.e_chain, V.e_ife, V.e_tup, V.e_lst, V.e_ix, V.e_call, V.e_callK, V.e_bi, V.e_inst, V.e_comp, V.ng, V.e_neg, V.e_slU, V.e_slL, V.e_lrg1, V.e_lrg3, V.es_n, V.es_c, V.it_seq, V.it_r1, V.it_r2, V.it_en, V.it_zip, V.ss_n, V.ss_c, V.s_asgF, V.kp_d, V.kp_o, V.s_asg, V.s_par, V.s_parN, V.tp_d, V.s_unp, V.s_expr, V.s_ret, V.s_retN, V.s_ite, V.s_for, V.s_pass, V.s_brk, V.s_cont, V.fz_0, V.ow_0, V.ap_0, V.fz_1, V.ow_1, V.ap_1, V.fz_2, V.ow_2, V.ap_2, V.fz_3, V.ow_3, V.ap_3, V.fz_4, V.ow_4, V.ap_4, V.fz_5, V.ow_5, V.ap_5, V.fz_6, V.ow_6, V.ap_6, V.fz_7, V.ow_7, V.ap_7, V.fz_8, V.ow_8, V.ap_8, V.fz_9, V.ow_9, V.ap_9, V.fz_10, V.ow_10, V.ap_10, V.fz_11, V.ow_11, V.ap_11, V.fz_12, V.ow_12, V.ap_12, V.fz_13, V.ow_13, V.ap_13, V.fz_14, V.ow_14, V.ap_14, V.fz_15, V.ow_15, V.ap_15, getE, setE, setMany, setNils, isTy, tyOf, List.map_cons, List.map_nil, List.length_cons, List.length_nil, List.cons_append, List.nil_append, List.append_nil, Nat.reduceSub, Nat.reduceAdd, atI_0, atI_1, atI_2, call_W5, call_W4, call_W2, call_W2o, call_W1, call_W1o, call_W0, call_W3, call_L0, call_L1, call_L1o, call_L2, call_L3, Option.some.injEq, h1 F so]
          refine ⟨rfl, rfl, ?_⟩
          simp only [PyData.eqv, beq_self_eq_true, Bool.not_true, Bool.false_eq_true, if_false]
          exact hx _ _
      simp -implicitDefEqProofs only [V.rd_d, V.rd_o, V.rd_b, V.da_d, V.da_o, V.das_n, V.das_c, V.rds_n, V.rds_c, V.tr_b, V.tr_i, V.tr_n, V.tr_l, V.tr_t, V.tr_o, V.bn_add, V.bn_sub, V.bn_mul, V.bn_fdiv, V.bn_mod, V.bn_pow, V.bn_cat, V.cp_eq, V.cp_ne, V.cp_lt, V.cp_le, V.cp_gt, V.cp_ge, V.cp_in, V.cp_nin, V.is_n, V.isn_n, V.is_b, V.isn_b, V.is_i, V.isn_i, V.is_s, V.isn_s, V.is_l, V.isn_l, V.is_t, V.isn_t, V.is_bb, V.isn_bb, V.ix_l, V.ix_t, V.sl_l, V.bi_len, V.bi_lent, V.bi_abs, V.bi_max2, V.bi_min2, V.bi_int, V.bi_intb, V.bi_list, V.bi_listt, V.bi_tup, V.bi_tupt, V.bi_sum, V.bi_any, V.bi_all, V.bi_min1, V.bi_max1, V.bi_sorted, V.bi_repr, V.sq_d, V.sq_t, V.sq_o, V.ls_d, V.ls_o, V.tg_n, V.tg_t, V.vd_0, V.vo_0, V.vd_1, V.vo_1, V.vd_2, V.vo_2, V.vd_3, V.vo_3, V.vd_4, V.vo_4, V.vd_5, V.vo_5, V.vd_6, V.vo_6, V.vd_7, V.vo_7, V.vd_8, V.vo_8, V.vd_9, V.vo_9, V.vd_10, V.vo_10, V.vd_11, V.vo_11, V.vd_12, V.vo_12, V.vd_13, V.vo_13, V.vd_14, V.vo_14, V.vd_15, V.vo_15, V.e_int, V.e_bool, V.e_none, V.e_str, V.e_glob, V.e_bin, V.e_not, V.e_and, V.e_or, V.e_cmp, V.e_chain, V.e_ife, V.e_tup, V.e_lst, V.e_ix, V.e_call, V.e_callK, V.e_bi, V.e_inst, V.e_comp, V.ng, V.e_neg, V.e_slU, V.e_slL, V.e_lrg1, V.e_lrg3, V.es_n, V.es_c, V.it_seq, V.it_r1, V.it_r2, V.it_en, V.it_zip, V.ss_n, V.ss_c, V.s_asgF, V.kp_d, V.kp_o, V.s_asg, V.s_par, V.s_parN, V.tp_d, V.s_unp, V.s_expr, V.s_ret, V.s_retN, V.s_ite, V.s_for, V.s_pass, V.s_brk, V.s_cont, V.fz_0, V.ow_0, V.ap_0, V.fz_1, V.ow_1, V.ap_1, V.fz_2, V.ow_2, V.ap_2, V.fz_3, V.ow_3, V.ap_3, V.fz_4, V.ow_4, V.ap_4, V.fz_5, V.ow_5, V.ap_5, V.fz_6, V.ow_6, V.ap_6, V.fz_7, V.ow_7, V.ap_7, V.fz_8, V.ow_8, V.ap_8, V.fz_9, V.ow_9, V.ap_9, V.fz_10, V.ow_10, V.ap_10, V.fz_11, V.ow_11, V.ap_11, V.fz_12, V.ow_12, V.ap_12, V.fz_13, V.ow_13, V.ap_13, V.fz_14, V.ow_14, V.ap_14, V.fz_15, V.ow_15, V.ap_15, getE, setE, setMany, setNils, isTy, tyOf, List.map_cons, List.map_nil, List.length_cons, List.length_nil, List.cons_append, List.nil_append, List.append_nil, Nat.reduceSub, Nat.reduceAdd, atI_0, atI_1, atI_2, call_W5, call_W4, call_W2, call_W2o, call_W1, call_W1o, call_W0, call_W3, call_L0, call_L1, call_L1o, call_L2, call_L3, Option.some.injEq]
      unfold lb__law_counts_right_3
      simp -implicitDefEqProofs only [V.rd_d, V.rd_o, V.rd_b, V.da_d, V.da_o, V.das_n, V.das_c, V.rds_n, V.rds_c, V.tr_b, V.tr_i, V.tr_n, V.tr_l, V.tr_t, V.tr_o, V.bn_add, V.bn_sub, V.bn_mul, V.bn_fdiv, V.bn_mod, V.bn_pow, V.bn_cat, V.cp_eq, V.cp_ne, V.cp_lt, V.cp_le, V.cp_gt, V.cp_ge, V.cp_in, V.cp_nin, V.is_n, V.isn_n, V.is_b, V.isn_b, V.is_i, V.isn_i, V.is_s, V.isn_s, V.is_l, V.isn_l, V.is_t, V.isn_t, V.is_bb, V.isn_bb, V.ix_l, V.ix_t, V.sl_l, V.bi_len, V.bi_lent, V.bi_abs, V.bi_max2, V.bi_min2, V.bi_int, V.bi_intb, V.bi_list, V.bi_listt, V.bi_tup, V.bi_tupt, V.bi_sum, V.bi_any, V.bi_all, V.bi_min1, V.bi_max1, V.bi_sorted, V.bi_repr, V.sq_d, V.sq_t, V.sq_o, V.ls_d, V.ls_o, V.tg_n, V.tg_t, V.vd_0, V.vo_0, V.vd_1, V.vo_1, V.vd_2, V.vo_2, V.vd_3, V.vo_3, V.vd_4, V.vo_4, V.vd_5, V.vo_5, V.vd_6, V.vo_6, V.vd_7, V.vo_7, V.vd_8, V.vo_8, V.vd_9, V.vo_9, V.vd_10, V.vo_10, V.vd_11, V.vo_11, V.vd_12, V.vo_12, V.vd_13, V.vo_13, V.vd_14, V.vo_14, V.vd_15, V.vo_15, V.e_int, V.e_bool, V.e_none, V.e_str, V.e_glob, V.e_bin, V.e_not, V.e_and, V.e_or, V.e_cmp, V.e_chain, V.e_ife, V.e_tup, V.e_lst, V.e_ix, V.e_call, V.e_callK, V.e_bi, V.e_inst, V.e_comp, V.ng, V.e_neg, V.e_slU, V.e_slL, V.e_lrg1, V.e_lrg3, V.es_n, V.es_c, V.it_seq, V.it_r1, V.it_r2, V.it_en, V.it_zip, V.ss_n, V.ss_c, V.s_asgF, V.kp_d, V.kp_o, V.s_asg, V.s_par, V.s_parN, V.tp_d, V.s_unp, V.s_expr, V.s_ret, V.s_retN, V.s_ite, V.s_for, V.s_pass, V.s_brk, V.s_cont, V.fz_0, V.ow_0, V.ap_0, V.fz_1, V.ow_1, V.ap_1, V.fz_2, V.ow_2, V.ap_2, V.fz_3, V.ow_3, V.ap_3, V.fz_4, V.ow_4, V.ap_4, V.fz_5, V.ow_5, V.ap_5, V.fz_6, V.ow_6, V.ap_6, V.fz_7, V.ow_7, V.ap_7, V.fz_8, V.ow_8, V.ap_8, V.fz_9, V.ow_9, V.ap_9, V.fz_10, V.ow_10, V.ap_10, V.fz_11, V.ow_11, V.ap_11, V.fz_12, V.ow_12, V.ap_12, V.fz_13, V.ow_13, V.ap_13, V.fz_14, V.ow_14, V.ap_14, V.fz_15, V.ow_15, V.ap_15, getE, setE, setMany, setNils, isTy, tyOf, List.map_cons, List.map_nil, List.length_cons, List.length_nil, List.cons_append, List.nil_append, List.append_nil, Nat.reduceSub, Nat.reduceAdd, atI_0, atI_1, atI_2, call_W5, call_W4, call_W2, call_W2o, call_W1, call_W1o, call_W0, call_W3, call_L0, call_L1, call_L1o, call_L2, call_L3, Option.some.injEq]
      unfold u__law_counts_right_2
      rcases hd with ⟨rfl, hno⟩ | ⟨F, rfl, so⟩
      · simp -implicitDefEqProofs only [V.rd_d, V.rd_o, V.rd_b, V.da_d, V.da_o, V.das_n, V.das_c, V.rds_n, V.rds_c, V.tr_b, V.tr_i, V.tr_n, V.tr_l, V.tr_t, V.tr_o, V.bn_add, V.bn_sub, V.bn_mul, V.bn_fdiv, V.bn_mod, V.bn_pow, V.bn_cat, V.cp_eq, V.cp_ne, V.cp_lt, V.cp_le, V.cp_gt, V.cp_ge, V.cp_in, V.cp_nin, V.is_n, V.isn_n, V.is_b, V.isn_b, V.is_i, V.isn_i, V.is_s, V.isn_s, V.is_l, V.isn_l, V.is_t, V.isn_t, V.is_bb, V.isn_bb, V.ix_l, V.ix_t, V.sl_l, V.bi_len, V.bi_lent, V.bi_abs, V.bi_max2, V.bi_min2, V.bi_int, V.bi_intb, V.bi_list, V.bi_listt, V.bi_tup, V.bi_tupt, V.bi_sum, V.bi_any, V.bi_all, V.bi_min1, V.bi_max1, V.bi_sorted, V.bi_repr, V.sq_d, V.sq_t, V.sq_o, V.ls_d, V.ls_o, V.tg_n, V.tg_t, V.vd_0, V.vo_0, V.vd_1, V.vo_1, V.vd_2, V.vo_2, V.vd_3, V.vo_3, V.vd_4, V.vo_4, V.vd_5, V.vo_5, V.vd_6, V.vo_6, V.vd_7, V.vo_7, V.vd_8, V.vo_8, V.vd_9, V.vo_9, V.vd_10, V.vo_10, V.vd_11, V.vo_11, V.vd_12, V.vo_12, V.vd_13, V.vo_13, V.vd_14, V.vo_14, V.vd_15, V.vo_15, V.e_int, V.e_bool, V.e_none, V.e_str, V.e_glob, V.e_bin, V.e_not, V.e_and, V.e_or, V.e_cmp, V.e_chain, V.e_ife, V.e_tup, V.e_lst, V.e_ix, V.e_call, V.e_callK, V.e_bi, V.e_inst, V.e_comp, V.ng, V.e_neg, V.e_slU, V.e_slL, V.e_lrg1, V.e_lrg3, V.es_n, V.es_c, V.it_seq, V.it_r1, V.it_r2, V.it_en, V.it_zip, V.ss_n, V.ss_c, V.s_asgF, V.kp_d, V.kp_o, V.s_asg, V.s_par, V.s_parN, V.tp_d, V.s_unp, V.s_expr, V.s_ret, V.s_retN, V.s_ite, V.s_for, V.s_pass, V.s_brk, V.s_cont, V.fz_0, V.ow_0, V.ap_0, V.fz_1, V.ow_1, V.ap_1, V.fz_2, V.ow_2, V.ap_2, V.fz_3, V.ow_3, V.ap_3, V.fz_4, V.ow_4, V.ap_4, V.fz_5, V.ow_5, V.ap_5, V.fz_6, V.ow_6, V.ap_6, V.fz_7, V.ow_7, V.ap_7, V.fz_8, V.ow_8, V.ap_8, V.fz_9, V.ow_9, V.ap_9, V.fz_10, V.ow_10, V.ap_10, V.fz_11, V.ow_11, V.ap_11, V.fz_12, V.ow_12, V.ap_12, V.fz_13, V.ow_13, V.ap_13, V.fz_14, V.ow_14, V.ap_14, V.fz_15, V.ow_15, V.ap_15, getE, setE, setMany, setNils, isTy, tyOf, List.map_cons, List.map_nil, List.length_cons, List.length_nil, List.cons_append, List.nil_append, List.append_nil, Nat.reduceSub, Nat.reduceAdd, atI_0, atI_1, atI_2, call_W5, call_W4, call_W2, call_W2o, call_W1, call_W1o, call_W0, call_W3, call_L0, call_L1, call_L1o, call_L2, call_L3, Option.some.injEq, Bool.false_eq_true, if_false]
        exact lst 0 _ (fun F so => absurd ((so.2.2 F).mpr ⟨0, by omega⟩) (hno F)) (fun _ => rfl) fun s6 s8 => ⟨cs, s6, s8, rfl, hc', rfl⟩
      · have hx0 := (so.2.2 F).mpr ⟨0, by omega⟩
        simp -implicitDefEqProofs only [tn, V.rd_d, V.rd_o, V.rd_b, V.da_d, V.da_o, V.das_n, V.das_c, V.rds_n, V.rds_c, V.tr_b, V.tr_i, V.tr_n, V.tr_l, V.tr_t, V.tr_o, V.bn_add, V.bn_sub, V.bn_mul, V.bn_fdiv, V.bn_mod, V.bn_pow, V.bn_cat, V.cp_eq, V.cp_ne, V.cp_lt, V.cp_le, V.cp_gt, V.cp_ge, V.cp_in, V.cp_nin, V.is_n, V.isn_n, V.is_b, V.isn_b, V.is_i, V.isn_i, V.is_s, V.isn_s, V.is_l, V.isn_l, V.is_t, V.isn_t, V.is_bb, V.isn_bb, V.ix_l, V.ix_t, V.sl_l, V.bi_len, V.bi_lent, V.bi_abs, V.bi_max2, V.bi_min2, V.bi_int, V.bi_intb, V.bi_list, V.bi_listt, V.bi_tup, V.bi_tupt, V.bi_sum, V.bi_any, V.bi_all, V.bi_min1, V.bi_max1, V.bi_sorted, V.bi_repr, V.sq_d, V.sq_t, V.sq_o, V.ls_d, V.ls_o, V.tg_n, V.tg_t, V.vd_0, V.vo_0, V.vd_1, V.vo_1, V.vd_2, V.vo_2, V.vd_3, V.vo_3, V.vd_4, V.vo_4, V.vd_5, V.vo_5, V.vd_6, V.vo_6, V.vd_7, V.vo_7, V.vd_8, V.vo_8, V.vd_9, V.vo_9, V.vd_10, V.vo_10, V.vd_11, V.vo_11, V.vd_12, V.vo_12, V.vd_13, V.vo_13, V.vd_14, V.vo_14, V.vd_15, V.vo_15, V.e_int, V.e_bool, V.e_none, V.e_str, V.e_glob, V.e_bin, V.e_not, V.e_and, V.e_or, V.e_cmp, V.e_chain, V.e_ife, V.e_tup, V.e_lst, V.e_ix, V.e_call, V.e_callK, V.e_bi, V.e_inst, V.e_comp, V.ng, V.e_neg, V.e_slU, V.e_slL, V.e_lrg1, V.e_lrg3, V.es_n, V.es_c, V.it_seq, V.it_r1, V.it_r2, V.it_en, V.it_zip, V.ss_n, V.ss_c, V.s_asgF, V.kp_d, V.kp_o, V.s_asg, V.s_par, V.s_parN, V.tp_d, V.s_unp, V.s_expr, V.s_ret, V.s_retN, V.s_ite, V.s_for, V.s_pass, V.s_brk, V.s_cont, V.fz_0, V.ow_0, V.ap_0, V.fz_1, V.ow_1, V.ap_1, V.fz_2, V.ow_2, V.ap_2, V.fz_3, V.ow_3, V.ap_3, V.fz_4, V.ow_4, V.ap_4, V.fz_5, V.ow_5, V.ap_5, V.fz_6, V.ow_6, V.ap_6, V.fz_7, V.ow_7, V.ap_7, V.fz_8, V.ow_8, V.ap_8, V.fz_9, V.ow_9, V.ap_9, V.fz_10, V.ow_10, V.ap_10, V.fz_11, V.ow_11, V.ap_11, V.fz_12, V.ow_12, V.ap_12, V.fz_13, V.ow_13, V.ap_13, V.fz_14, V.ow_14, V.ap_14, V.fz_15, V.ow_15, V.ap_15, getE, setE, setMany, setNils, isTy, tyOf, List.map_cons, List.map_nil, List.length_cons, List.length_nil, List.cons_append, List.nil_append, List.append_nil, Nat.reduceSub, Nat.reduceAdd, atI_0, atI_1, atI_2, call_W5, call_W4, call_W2, call_W2o, call_W1, call_W1o, call_W0, call_W3, call_L0, call_L1, call_L1o, call_L2, call_L3, Option.some.injEq, if_true]
        by_cases hcF : F < c
        · simp -implicitDefEqProofs only [decide_eq_true hcF, if_true, V.rd_d, V.rd_o, V.rd_b, V.da_d, V.da_o, V.das_n, V.das_c, V.rds_n, V.rds_c, V.tr_b, V.tr_i, V.tr_n, V.tr_l, V.tr_t, V.tr_o, V.bn_add, V.bn_sub, V.bn_mul, V.bn_fdiv, V.bn_mod, V.bn_pow, V.bn_cat, V.cp_eq, V.cp_ne, V.cp_lt, V.cp_le, V.cp_gt, V.cp_ge, V.cp_in, V.cp_nin, V.is_n, V.isn_n, V.is_b, V.isn_b, V.is_i, V.isn_i, V.is_s, V.isn_s, V.is_l, V.isn_l, V.is_t, V.isn_t, V.is_bb, V.isn_bb, V.ix_l, V.ix_t, V.sl_l, V.bi_len, V.bi_lent, V.bi_abs, V.bi_max2, V.bi_min2, V.bi_int, V.bi_intb, V.bi_list, V.bi_listt, V.bi_tup, V.bi_tupt, V.bi_sum, V.bi_any, V.bi_all, V.bi_min1, V.bi_max1, V.bi_sorted, V.bi_repr, V.sq_d, V.sq_t, V.sq_o, V.ls_d, V.ls_o, V.tg_n, V.tg_t, V.vd_0, V.vo_0, V.vd_1, V.vo_1, V.vd_2, V.vo_2, V.vd_3, V.vo_3, V.vd_4, V.vo_4, V.vd_5, V.vo_5, V.vd_6, V.vo_6, V.vd_7, V.vo_7, V.vd_8, V.vo_8, V.vd_9, V.vo_9, V.vd_10, V.vo_10, V.vd_11, V.vo_11, V.vd_12, V.vo_12, V.vd_13, V.vo_13, V.vd_14, V.vo_14, V.vd_15, V.vo_15, V.e_int, V.e_bool, V.e_none, V.e_str, V.e_glob, V.e_bin, V.e_not, V.e_and, V.e_or, V.e_cmp, V.e_chain, V.e_ife, V.e_tup, V.e_lst, V.e_ix, V.e_call, V.e_callK, V.e_bi, V.e_inst, V.e_comp, V.ng, V.e_neg, V.e_slU, V.e_slL, V.e_lrg1, V.e_lrg3, V.es_n, V.es_c, V.it_seq, V.it_r1, V.it_r2, V.it_en, V.it_zip, V.ss_n, V.ss_c, V.s_asgF, V.kp_d, V.kp_o, V.s_asg, V.s_par, V.s_parN, V.tp_d, V.s_unp, V.s_expr, V.s_ret, V.s_retN, V.s_ite, V.s_for, V.s_pass, V.s_brk, V.s_cont, V.fz_0, V.ow_0, V.ap_0, V.fz_1, V.ow_1, V.ap_1, V.fz_2, V.ow_2, V.ap_2, V.fz_3, V.ow_3, V.ap_3, V.fz_4, V.ow_4, V.ap_4, V.fz_5, V.ow_5, V.ap_5, V.fz_6, V.ow_6, V.ap_6, V.fz_7, V.ow_7, V.ap_7, V.fz_8, V.ow_8, V.ap_8, V.fz_9, V.ow_9, V.ap_9, V.fz_10, V.ow_10, V.ap_10, V.fz_11, V.ow_11, V.ap_11, V.fz_12, V.ow_12, V.ap_12, V.fz_13, V.ow_13, V.ap_13, V.fz_14, V.ow_14, V.ap_14, V.fz_15, V.ow_15, V.ap_15, getE, setE, setMany, setNils, isTy, tyOf, List.map_cons, List.map_nil, List.length_cons, List.length_nil, List.cons_append, List.nil_append, List.append_nil, Nat.reduceSub, Nat.reduceAdd, atI_0, atI_1, atI_2, call_W5, call_W4, call_W2, call_W2o, call_W1, call_W1o, call_W0, call_W3, call_L0, call_L1, call_L1o, call_L2, call_L3, Option.some.injEq]
          have sL : sz 30 (lcm2 s t) := by unfold sz; omega
          refine ⟨sL.divOk (by decide) (by omega), ?_⟩
          rw [fdiv_p Lp]
          exact lst _ _ (fun F' so' => by rw [sol_same so so']; exact cnt_gt Lp hcF) (fun z => absurd hx0 (z F)) fun s6 s8 => ⟨cs, s6, s8, rfl, hc', rfl⟩
        · simp -implicitDefEqProofs only [decide_eq_false hcF, Bool.false_eq_true, if_false, V.rd_d, V.rd_o, V.rd_b, V.da_d, V.da_o, V.das_n, V.das_c, V.rds_n, V.rds_c, V.tr_b, V.tr_i, V.tr_n, V.tr_l, V.tr_t, V.tr_o, V.bn_add, V.bn_sub, V.bn_mul, V.bn_fdiv, V.bn_mod, V.bn_pow, V.bn_cat, V.cp_eq, V.cp_ne, V.cp_lt, V.cp_le, V.cp_gt, V.cp_ge, V.cp_in, V.cp_nin, V.is_n, V.isn_n, V.is_b, V.isn_b, V.is_i, V.isn_i, V.is_s, V.isn_s, V.is_l, V.isn_l, V.is_t, V.isn_t, V.is_bb, V.isn_bb, V.ix_l, V.ix_t, V.sl_l, V.bi_len, V.bi_lent, V.bi_abs, V.bi_max2, V.bi_min2, V.bi_int, V.bi_intb, V.bi_list, V.bi_listt, V.bi_tup, V.bi_tupt, V.bi_sum, V.bi_any, V.bi_all, V.bi_min1, V.bi_max1, V.bi_sorted, V.bi_repr, V.sq_d, V.sq_t, V.sq_o, V.ls_d, V.ls_o, V.tg_n, V.tg_t, V.vd_0, V.vo_0, V.vd_1, V.vo_1, V.vd_2, V.vo_2, V.vd_3, V.vo_3, V.vd_4, V.vo_4, V.vd_5, V.vo_5, V.vd_6, V.vo_6, V.vd_7, V.vo_7, V.vd_8, V.vo_8, V.vd_9, V.vo_9, V.vd_10, V.vo_10, V.vd_11, V.vo_11, V.vd_12, V.vo_12, V.vd_13, V.vo_13, V.vd_14, V.vo_14, V.vd_15, V.vo_15, V.e_int, V.e_bool, V.e_none, V.e_str, V.e_glob, V.e_bin, V.e_not, V.e_and, V.e_or, V.e_cmp, V.e_chain, V.e_ife, V.e_tup, V.e_lst, V.e_ix, V.e_call, V.e_callK, V.e_bi, V.e_inst, V.e_comp, V.ng, V.e_neg, V.e_slU, V.e_slL, V.e_lrg1, V.e_lrg3, V.es_n, V.es_c, V.it_seq, V.it_r1, V.it_r2, V.it_en, V.it_zip, V.ss_n, V.ss_c, V.s_asgF, V.kp_d, V.kp_o, V.s_asg, V.s_par, V.s_parN, V.tp_d, V.s_unp, V.s_expr, V.s_ret, V.s_retN, V.s_ite, V.s_for, V.s_pass, V.s_brk, V.s_cont, V.fz_0, V.ow_0, V.ap_0, V.fz_1, V.ow_1, V.ap_1, V.fz_2, V.ow_2, V.ap_2, V.fz_3, V.ow_3, V.ap_3, V.fz_4, V.ow_4, V.ap_4, V.fz_5, V.ow_5, V.ap_5, V.fz_6, V.ow_6, V.ap_6, V.fz_7, V.ow_7, V.ap_7, V.fz_8, V.ow_8, V.ap_8, V.fz_9, V.ow_9, V.ap_9, V.fz_10, V.ow_10, V.ap_10, V.fz_11, V.ow_11, V.ap_11, V.fz_12, V.ow_12, V.ap_12, V.fz_13, V.ow_13, V.ap_13, V.fz_14, V.ow_14, V.ap_14, V.fz_15, V.ow_15, V.ap_15, getE, setE, setMany, setNils, isTy, tyOf, List.map_cons, List.map_nil, List.length_cons, List.length_nil, List.cons_append, List.nil_append, List.append_nil, Nat.reduceSub, Nat.reduceAdd, atI_0, atI_1, atI_2, call_W5, call_W4, call_W2, call_W2o, call_W1, call_W1o, call_W0, call_W3, call_L0, call_L1, call_L1o, call_L2, call_L3, Option.some.injEq]
          exact lst 0 _ (fun F' so' => by rw [sol_same so so']; exact cnt_le Lp (by omega)) (fun _ => rfl) fun s6 s8 => ⟨cs, s6, s8, rfl, hc', rfl⟩
  · intro c hc
    simp only [List.mem_cons, List.not_mem_nil, or_false] at hc
    rcases hc with rfl | rfl | rfl <;> omega
end K50

set_option maxRecDepth 100000
set_option maxHeartbeats 1000000
namespace K50
open PySem PF NL
theorem lcm2_comm {s t : Int} (hs : 0 < s) (ht : 0 < t) : lcm2 t s = lcm2 s t := by
  have a := lcm2_dvd hs (lcm2_right (w := s) ht) (lcm2_left (w := s) ht)
  have b := lcm2_dvd ht (lcm2_right (w := t) hs) (lcm2_left (w := t) hs)
  exact Int.dvd_antisymm (Int.le_of_lt (lcm2_pos ht hs)) (Int.le_of_lt (lcm2_pos hs ht)) a b
theorem M_back {s t i j a b x : Int} : M t s j i b a x ↔ M s t i j a b (-x) := by
  unfold M
  rw [show i + -x = i - x by omega, show j - -x = j + x by omega]
  exact And.comm
theorem M_later {s t i j a b x q : Int} : M s t ((i + q) % s) ((j - q) % t) a b x ↔ M s t i j a b (x + q) := by
  unfold M
  rw [Int.emod_add_emod, Int.emod_sub_emod, show i + q + x = i + (x + q) by omega, show j - q - x = j - (x + q) by omega]
theorem Sol_back {P : Int → Prop} {F W : Int} (hW : 0 < W) (h : Sol P F W) : Sol (fun x => P (-x)) ((-F) % W) W := by
  refine ⟨Int.emod_nonneg _ (by omega), Int.emod_lt_of_pos _ hW, fun x => ?_⟩
  show P (-x) ↔ _
  rw [dvd_mod, h.2.2, show -x - F = -(x - -F) by omega, Int.dvd_neg]
theorem Sol_later {P : Int → Prop} {F W q : Int} (hW : 0 < W) (h : Sol P F W) : Sol (fun x => P (x + q)) ((F - q) % W) W := by
  refine ⟨Int.emod_nonneg _ (by omega), Int.emod_lt_of_pos _ hW, fun x => ?_⟩
  show P (x + q) ↔ _
  rw [dvd_mod, h.2.2, show x + q - F = x - (F - q) by omega]
theorem Sol_iff {P Q : Int → Prop} {F W : Int} (h : ∀ x, P x ↔ Q x) : Sol P F W ↔ Sol Q F W := by
  unfold Sol
  exact ⟨fun z => ⟨z.1, z.2.1, fun x => (h x).symm.trans (z.2.2 x)⟩, fun z => ⟨z.1, z.2.1, fun x => (h x).trans (z.2.2 x)⟩⟩
def w__law_turned_right : LF := fun l xs k => ∃ (n : Nat) (s t i j a b : Int) (due : PyData), xs = [.int s, .int t, .tuple [.int i, .int j], .tuple [.int a, .int b], due] ∧ okM s t i j a b ∧ dueOk s t i j a b due ∧ Urn n l ∧ n < 1000000 ∧ ∀ l', Urn (n + 1) l' → k (.d (.bool true)) l'
theorem m__law_turned_right : w__law_turned_right.Mono := fun l xs k k' h ⟨n, s, t, i, j, a, b, due, h1, h2, h3, h4, h5, h6⟩ => ⟨n, s, t, i, j, a, b, due, h1, h2, h3, h4, h5, fun l' u => h _ _ (h6 l' u)⟩
def sp__law_turned_right : ASp := spL w__law_turned_right m__law_turned_right
def b__law_turned_right_7 : Ss := (.cons (.ret (.cmp .eq (.var 7) (.ife (.cmp .is (.var 5) .none) .none (.tup (.cons (.bin .mod (.bi .int (.cons (.bin .sub (.ix (.var 5) (.int 0)) (.var 8)) .nil)) (.ix (.var 5) (.int 1))) (.cons (.ix (.var 5) (.int 1)) .nil)))))) .nil)
def b__law_turned_right_6 : Ss := (.cons (.asgF 7 (.call "meets" sp_meets (.cons (.var 1) (.cons (.var 2) (.cons (.var 9) (.cons (.ix (.var 4) (.int 0)) (.cons (.ix (.var 4) (.int 1)) .nil))))))) b__law_turned_right_7)
def b__law_turned_right_5 : Ss := (.cons (.asgF 9 (.tup (.cons (.bin .mod (.bi .int (.cons (.bin .add (.ix (.var 3) (.int 0)) (.var 8)) .nil)) (.var 1)) (.cons (.bin .mod (.bi .int (.cons (.bin .sub (.ix (.var 3) (.int 1)) (.var 8)) .nil)) (.var 2)) .nil)))) b__law_turned_right_6)
def b__law_turned_right_4 : Ss := (.cons (.asgF 8 (.call "_law_pick" sp__law_pick (.cons (.var 0) (.cons (.int 200) .nil)))) b__law_turned_right_5)
def b__law_turned_right_3 : Ss := (.cons (.ite (.or (.cmp .ne (.cmp .is (.var 7) .none) (.cmp .is (.var 5) .none)) (.and (.cmp .isnot (.var 7) .none) (.cmp .ne (.var 7) (.tup (.cons (.bin .mod (.bi .int (.cons (.neg (.ix (.var 5) (.int 0))) .nil)) (.ix (.var 5) (.int 1))) (.cons (.ix (.var 5) (.int 1)) .nil)))))) (.cons (.ret (.bool false))
  .nil) .nil) b__law_turned_right_4)
def b__law_turned_right_2 : Ss := (.cons (.asgF 7 (.call "meets" sp_meets (.cons (.var 2) (.cons (.var 1) (.cons (.var 6) (.cons (.ix (.var 4) (.int 1)) (.cons (.ix (.var 4) (.int 0)) .nil))))))) b__law_turned_right_3)
def b__law_turned_right : Ss := (.cons (.asgF 6 (.tup (.cons (.ix (.var 3) (.int 1)) (.cons (.ix (.var 3) (.int 0)) .nil)))) b__law_turned_right_2)
theorem p__law_turned_right : Body 6 10 [0] b__law_turned_right sp__law_turned_right := by
  refine body_LT (fun l xs k h => ?_) fun l xs k h D hD _ => ?_
  · obtain ⟨n, s, t, i, j, a, b, due, rfl, _⟩ := h; rfl
  obtain ⟨n, s, t, i, j, a, b, due, rfl, ok, hd, hu, hn, h⟩ := h
  obtain ⟨Lp, Ll⟩ := iL_pos ok
  have ok' := ok
  obtain ⟨h1, h2, h3, h4, h5, h6⟩ := ok
  have okb : okM t s j i b a := ⟨h2, h1, h4, h3, h6, h5⟩
  have okl : ∀ q, okM s t ((i + q) % s) ((j - q) % t) a b := fun q => ⟨h1, h2, ⟨Int.emod_nonneg _ (by omega), Int.emod_lt_of_pos _ (by omega)⟩, ⟨Int.emod_nonneg _ (by omega), Int.emod_lt_of_pos _ (by omega)⟩, h5, h6⟩
  have ec := lcm2_comm (show 0 < s by omega) (show 0 < t by omega)
  unfold b__law_turned_right
  simp only [initE, List.map_cons, List.map_nil, List.length_cons, List.length_nil, Nat.reduceAdd, Nat.reduceSub, List.replicate, List.cons_append, List.nil_append]
  simp -implicitDefEqProofs only [V.rd_d, V.rd_o, V.rd_b, V.da_d, V.da_o, V.das_n, V.das_c, V.rds_n, V.rds_c, V.tr_b, V.tr_i, V.tr_n, V.tr_l, V.tr_t, V.tr_o, V.bn_add, V.bn_sub, V.bn_mul, V.bn_fdiv, V.bn_mod, V.bn_pow, V.bn_cat, V.cp_eq, V.cp_ne, V.cp_lt, V.cp_le, V.cp_gt, V.cp_ge, V.cp_in, V.cp_nin, V.is_n, V.isn_n, V.is_b, V.isn_b, V.is_i, V.isn_i, V.is_s, V.isn_s, V.is_l, V.isn_l, V.is_t, V.isn_t, V.is_bb, V.isn_bb, V.ix_l, V.ix_t, V.sl_l, V.bi_len, V.bi_lent, V.bi_abs, V.bi_max2, V.bi_min2, V.bi_int, V.bi_intb, V.bi_list, V.bi_listt, V.bi_tup, V.bi_tupt, V.bi_sum, V.bi_any, V.bi_all, V.bi_min1, V.bi_max1, V.bi_sorted, V.bi_repr, V.sq_d, V.sq_t, V.sq_o, V.ls_d, V.ls_o, V.tg_n, V.tg_t, V.vd_0, V.vo_0, V.vd_1, V.vo_1, V.vd_2, V.vo_2, V.vd_3, V.vo_3, V.vd_4, V.vo_4, V.vd_5, V.vo_5, V.vd_6, V.vo_6, V.vd_7, V.vo_7, V.vd_8, V.vo_8, V.vd_9, V.vo_9, V.vd_10, V.vo_10, V.vd_11, V.vo_11, V.vd_12, V.vo_12, V.vd_13, V.vo_13, V.vd_14, V.vo_14, V.vd_15, V.vo_15, V.e_int, V.e_bool, V.e_none, V.e_str, V.e_glob, V.e_bin, V.e_not, V.e_and, V.e_or, V.e_cmp, V.e_chain, V.e_ife, V.e_tup, V.e_lst, V.e_ix, V.e_call, V.e_callK, V.e_bi, V.e_inst, V.e_comp, V.ng, V.e_neg, V.e_slU, V.e_slL, V.e_lrg1, V.e_lrg3, V.es_n, V.es_c, V.it_seq, V.it_r1, V.it_r2, V.it_en, V.it_zip, V.ss_n, V.ss_c, V.s_asgF, V.kp_d, V.kp_o, V.s_asg, V.s_par, V.s_parN, V.tp_d, V.s_unp, V.s_expr, V.s_ret, V.s_retN, V.s_ite, V.s_for, V.s_pass, V.s_brk, V.s_cont, V.fz_0, V.ow_0, V.ap_0, V.fz_1, V.ow_1, V.ap_1, V.fz_2, V.ow_2, V.ap_2, V.fz_3, V.ow_3, V.ap_3, V.fz_4, V.ow_4, V.ap_4, V.fz_5, V.ow_5, V.ap_5, V.fz_6, V.ow_6, V.ap_6, V.fz_7, V.ow_7, V.ap_7, V.fz_8, V.ow_8, V.ap_8, V.fz_9, V.ow_9, V.ap_9, V.fz_10, V.ow_10, V.ap_10, V.fz_11, V.ow_11, V.ap_11, V.fz_12, V.ow_12, V.ap_12, V.fz_13, V.ow_13, V.ap_13, V.fz_14, V.ow_14, V.ap_14, V.fz_15, V.ow_15, V.ap_15, getE, setE, setMany, setNils, isTy, tyOf, List.map_cons, List.map_nil, List.length_cons, List.length_nil, List.cons_append, List.nil_append, List.append_nil, Nat.reduceSub, Nat.reduceAdd, atI_0, atI_1, atI_2, call_W5, call_W4, call_W2, call_W2o, call_W1, call_W1o, call_W0, call_W3, call_L0, call_L1, call_L1o, call_L2, call_L3, Option.some.injEq]
  unfold b__law_turned_right_2
  simp -implicitDefEqProofs only [V.rd_d, V.rd_o, V.rd_b, V.da_d, V.da_o, V.das_n, V.das_c, V.rds_n, V.rds_c, V.tr_b, V.tr_i, V.tr_n, V.tr_l, V.tr_t, V.tr_o, V.bn_add, V.bn_sub, V.bn_mul, V.bn_fdiv, V.bn_mod, V.bn_pow, V.bn_cat, V.cp_eq, V.cp_ne, V.cp_lt, V.cp_le, V.cp_gt, V.cp_ge, V.cp_in, V.cp_nin, V.is_n, V.isn_n, V.is_b, V.isn_b, V.is_i, V.isn_i, V.is_s, V.isn_s, V.is_l, V.isn_l, V.is_t, V.isn_t, V.is_bb, V.isn_bb, V.ix_l, V.ix_t, V.sl_l, V.bi_len, V.bi_lent, V.bi_abs, V.bi_max2, V.bi_min2, V.bi_int, V.bi_intb, V.bi_list, V.bi_listt, V.bi_tup, V.bi_tupt, V.bi_sum, V.bi_any, V.bi_all, V.bi_min1, V.bi_max1, V.bi_sorted, V.bi_repr, V.sq_d, V.sq_t, V.sq_o, V.ls_d, V.ls_o, V.tg_n, V.tg_t, V.vd_0, V.vo_0, V.vd_1, V.vo_1, V.vd_2, V.vo_2, V.vd_3, V.vo_3, V.vd_4, V.vo_4, V.vd_5, V.vo_5, V.vd_6, V.vo_6, V.vd_7, V.vo_7, V.vd_8, V.vo_8, V.vd_9, V.vo_9, V.vd_10, V.vo_10, V.vd_11, V.vo_11, V.vd_12, V.vo_12, V.vd_13, V.vo_13, V.vd_14, V.vo_14, V.vd_15, V.vo_15, V.e_int, V.e_bool, V.e_none, V.e_str, V.e_glob, V.e_bin, V.e_not, V.e_and, V.e_or, V.e_cmp, V.e_chain, V.e_ife, V.e_tup, V.e_lst, V.e_ix, V.e_call, V.e_callK, V.e_bi, V.e_inst, V.e_comp, V.ng, V.e_neg, V.e_slU, V.e_slL, V.e_lrg1, V.e_lrg3, V.es_n, V.es_c, V.it_seq, V.it_r1, V.it_r2, V.it_en, V.it_zip, V.ss_n, V.ss_c, V.s_asgF, V.kp_d, V.kp_o, V.s_asg, V.s_par, V.s_parN, V.tp_d, V.s_unp, V.s_expr, V.s_ret, V.s_retN, V.s_ite, V.s_for, V.s_pass, V.s_brk, V.s_cont, V.fz_0, V.ow_0, V.ap_0, V.fz_1, V.ow_1, V.ap_1, V.fz_2, V.ow_2, V.ap_2, V.fz_3, V.ow_3, V.ap_3, V.fz_4, V.ow_4, V.ap_4, V.fz_5, V.ow_5, V.ap_5, V.fz_6, V.ow_6, V.ap_6, V.fz_7, V.ow_7, V.ap_7, V.fz_8, V.ow_8, V.ap_8, V.fz_9, V.ow_9, V.ap_9, V.fz_10, V.ow_10, V.ap_10, V.fz_11, V.ow_11, V.ap_11, V.fz_12, V.ow_12, V.ap_12, V.fz_13, V.ow_13, V.ap_13, V.fz_14, V.ow_14, V.ap_14, V.fz_15, V.ow_15, V.ap_15, getE, setE, setMany, setNils, isTy, tyOf, List.map_cons, List.map_nil, List.length_cons, List.length_nil, List.cons_append, List.nil_append, List.append_nil, Nat.reduceSub, Nat.reduceAdd, atI_0, atI_1, atI_2, call_W5, call_W4, call_W2, call_W2o, call_W1, call_W1o, call_W0, call_W3, call_L0, call_L1, call_L1o, call_L2, call_L3, Option.some.injEq, sp_meets, w_meets]
  -- the end, for what is told of the later begin
  have fin : ∀ (told : PyData), wSs X0 b__law_turned_right_4 [some (.o l), some (.d (.int s)), some (.d (.int t)), some (.d (.tuple [.int i, .int j])), some (.d (.tuple [.int a, .int b])), some (.d due), some (.d (.tuple [.int j, .int i])), some (.d told), none, none] D := fun told => by
    unfold b__law_turned_right_4
    simp -implicitDefEqProofs only [V.rd_d, V.rd_o, V.rd_b, V.da_d, V.da_o, V.das_n, V.das_c, V.rds_n, V.rds_c, V.tr_b, V.tr_i, V.tr_n, V.tr_l, V.tr_t, V.tr_o, V.bn_add, V.bn_sub, V.bn_mul, V.bn_fdiv, V.bn_mod, V.bn_pow, V.bn_cat, V.cp_eq, V.cp_ne, V.cp_lt, V.cp_le, V.cp_gt, V.cp_ge, V.cp_in, V.cp_nin, V.is_n, V.isn_n, V.is_b, V.isn_b, V.is_i, V.isn_i, V.is_s, V.isn_s, V.is_l, V.isn_l, V.is_t, V.isn_t, V.is_bb, V.isn_bb, V.ix_l, V.ix_t, V.sl_l, V.bi_len, V.bi_lent, V.bi_abs, V.bi_max2, V.bi_min2, V.bi_int, V.bi_intb, V.bi_list, V.bi_listt, V.bi_tup, V.bi_tupt, V.bi_sum, V.bi_any, V.bi_all, V.bi_min1, V.bi_max1, V.bi_sorted, V.bi_repr, V.sq_d, V.sq_t, V.sq_o, V.ls_d, V.ls_o, V.tg_n, V.tg_t, V.vd_0, V.vo_0, V.vd_1, V.vo_1, V.vd_2, V.vo_2, V.vd_3, V.vo_3, V.vd_4, V.vo_4, V.vd_5, V.vo_5, V.vd_6, V.vo_6, V.vd_7, V.vo_7, V.vd_8, V.vo_8, V.vd_9, V.vo_9, V.vd_10, V.vo_10, V.vd_11, V.vo_11, V.vd_12, V.vo_12, V.vd_13, V.vo_13, V.vd_14, V.vo_14, V.vd_15, V.vo_15, V.e_int, V.e_bool, V.e_none, V.e_str, V.e_glob, V.e_bin, V.e_not, V.e_and, V.e_or, V.e_cmp, V.e_chain, V.e_ife, V.e_tup, V.e_lst, V.e_ix, V.e_call, V.e_callK, V.e_bi, V.e_inst, V.e_comp, V.ng, V.e_neg, V.e_slU, V.e_slL, V.e_lrg1, V.e_lrg3, V.es_n, V.es_c, V.it_seq, V.it_r1, V.it_r2, V.it_en, V.it_zip, V.ss_n, V.ss_c, V.s_asgF, V.kp_d, V.kp_o, V.s_asg, V.s_par, V.s_parN, V.tp_d, V.s_unp, V.s_expr, V.s_ret, V.s_retN, V.s_ite, V.s_for, V.s_pass, V.s_brk, V.s_cont, V.fz_0, V.ow_0, V.ap_0, V.fz_1, V.ow_1, V.ap_1, V.fz_2, V.ow_2, V.ap_2, V.fz_3, V.ow_3, V.ap_3, V.fz_4, V.ow_4, V.ap_4, V.fz_5, V.ow_5, V.ap_5, V.fz_6, V.ow_6, V.ap_6, V.fz_7, V.ow_7, V.ap_7, V.fz_8, V.ow_8, V.ap_8, V.fz_9, V.ow_9, V.ap_9, V.fz_10, V.ow_10, V.ap_10, V.fz_11, V.ow_11, V.ap_11, V.fz_12, V.ow_12, V.ap_12, V.fz_13, V.ow_13, V.ap_13, V.fz_14, V.ow_14, V.ap_14, V.fz_15, V.ow_15, V.ap_15, getE, setE, setMany, setNils, isTy, tyOf, List.map_cons, List.map_nil, List.length_cons, List.length_nil, List.cons_append, List.nil_append, List.append_nil, Nat.reduceSub, Nat.reduceAdd, atI_0, atI_1, atI_2, call_W5, call_W4, call_W2, call_W2o, call_W1, call_W1o, call_W0, call_W3, call_L0, call_L1, call_L1o, call_L2, call_L3, Option.some.injEq, sp__law_pick]
    refine ⟨n, _, rfl, hu, by omega, by decide, (sz_lit (n := 9) (by decide)).mono (by decide), fun q l1 q0 q1 hu1 => ?_⟩
    simp -implicitDefEqProofs only [V.rd_d, V.rd_o, V.rd_b, V.da_d, V.da_o, V.das_n, V.das_c, V.rds_n, V.rds_c, V.tr_b, V.tr_i, V.tr_n, V.tr_l, V.tr_t, V.tr_o, V.bn_add, V.bn_sub, V.bn_mul, V.bn_fdiv, V.bn_mod, V.bn_pow, V.bn_cat, V.cp_eq, V.cp_ne, V.cp_lt, V.cp_le, V.cp_gt, V.cp_ge, V.cp_in, V.cp_nin, V.is_n, V.isn_n, V.is_b, V.isn_b, V.is_i, V.isn_i, V.is_s, V.isn_s, V.is_l, V.isn_l, V.is_t, V.isn_t, V.is_bb, V.isn_bb, V.ix_l, V.ix_t, V.sl_l, V.bi_len, V.bi_lent, V.bi_abs, V.bi_max2, V.bi_min2, V.bi_int, V.bi_intb, V.bi_list, V.bi_listt, V.bi_tup, V.bi_tupt, V.bi_sum, V.bi_any, V.bi_all, V.bi_min1, V.bi_max1, V.bi_sorted, V.bi_repr, V.sq_d, V.sq_t, V.sq_o, V.ls_d, V.ls_o, V.tg_n, V.tg_t, V.vd_0, V.vo_0, V.vd_1, V.vo_1, V.vd_2, V.vo_2, V.vd_3, V.vo_3, V.vd_4, V.vo_4, V.vd_5, V.vo_5, V.vd_6, V.vo_6, V.vd_7, V.vo_7, V.vd_8, V.vo_8, V.vd_9, V.vo_9, V.vd_10, V.vo_10, V.vd_11, V.vo_11, V.vd_12, V.vo_12, V.vd_13, V.vo_13, V.vd_14, V.vo_14, V.vd_15, V.vo_15, V.e_int, V.e_bool, V.e_none, V.e_str, V.e_glob, V.e_bin, V.e_not, V.e_and, V.e_or, V.e_cmp, V.e_chain, V.e_ife, V.e_tup, V.e_lst, V.e_ix, V.e_call, V.e_callK, V.e_bi, V.e_inst, V.e_comp, V.ng, V.e_neg, V.e_slU, V.e_slL, V.e_lrg1, V.e_lrg3, V.es_n, V.es_c, V.it_seq, V.it_r1, V.it_r2, V.it_en, V.it_zip, V.ss_n, V.ss_c, V.s_asgF, V.kp_d, V.kp_o, V.s_asg, V.s_par, V.s_parN, V.tp_d, V.s_unp, V.s_expr, V.s_ret, V.s_retN, V.s_ite, V.s_for, V.s_pass, V.s_brk, V.s_cont, V.fz_0, V.ow_0, V.ap_0, V.fz_1, V.ow_1, V.ap_1, V.fz_2, V.ow_2, V.ap_2, V.fz_3, V.ow_3, V.ap_3, V.fz_4, V.ow_4, V.ap_4, V.fz_5, V.ow_5, V.ap_5, V.fz_6, V.ow_6, V.ap_6, V.fz_7, V.ow_7, V.ap_7, V.fz_8, V.ow_8, V.ap_8, V.fz_9, V.ow_9, V.ap_9, V.fz_10, V.ow_10, V.ap_10, V.fz_11, V.ow_11, V.ap_11, V.fz_12, V.ow_12, V.ap_12, V.fz_13, V.ow_13, V.ap_13, V.fz_14, V.ow_14, V.ap_14, V.fz_15, V.ow_15, V.ap_15, getE, setE, setMany, setNils, isTy, tyOf, List.map_cons, List.map_nil, List.length_cons, List.length_nil, List.cons_append, List.nil_append, List.append_nil, Nat.reduceSub, Nat.reduceAdd, atI_0, atI_1, atI_2, call_W5, call_W4, call_W2, call_W2o, call_W1, call_W1o, call_W0, call_W3, call_L0, call_L1, call_L1o, call_L2, call_L3, Option.some.injEq]
    unfold b__law_turned_right_5
    simp -implicitDefEqProofs only [V.rd_d, V.rd_o, V.rd_b, V.da_d, V.da_o, V.das_n, V.das_c, V.rds_n, V.rds_c, V.tr_b, V.tr_i, V.tr_n, V.tr_l, V.tr_t, V.tr_o, V.bn_add, V.bn_sub, V.bn_mul, V.bn_fdiv, V.bn_mod, V.bn_pow, V.bn_cat, V.cp_eq, V.cp_ne, V.cp_lt, V.cp_le, V.cp_gt, V.cp_ge, V.cp_in, V.cp_nin, V.is_n, V.isn_n, V.is_b, V.isn_b, V.is_i, V.isn_i, V.is_s, V.isn_s, V.is_l, V.isn_l, V.is_t, V.isn_t, V.is_bb, V.isn_bb, V.ix_l, V.ix_t, V.sl_l, V.bi_len, V.bi_lent, V.bi_abs, V.bi_max2, V.bi_min2, V.bi_int, V.bi_intb, V.bi_list, V.bi_listt, V.bi_tup, V.bi_tupt, V.bi_sum, V.bi_any, V.bi_all, V.bi_min1, V.bi_max1, V.bi_sorted, V.bi_repr, V.sq_d, V.sq_t, V.sq_o, V.ls_d, V.ls_o, V.tg_n, V.tg_t, V.vd_0, V.vo_0, V.vd_1, V.vo_1, V.vd_2, V.vo_2, V.vd_3, V.vo_3, V.vd_4, V.vo_4, V.vd_5, V.vo_5, V.vd_6, V.vo_6, V.vd_7, V.vo_7, V.vd_8, V.vo_8, V.vd_9, V.vo_9, V.vd_10, V.vo_10, V.vd_11, V.vo_11, V.vd_12, V.vo_12, V.vd_13, V.vo_13, V.vd_14, V.vo_14, V.vd_15, V.vo_15, V.e_int, V.e_bool, V.e_none, V.e_str, V.e_glob, V.e_bin, V.e_not, V.e_and, V.e_or, V.e_cmp, V.e_chain, V.e_ife, V.e_tup, V.e_lst, V.e_ix, V.e_call, V.e_callK, V.e_bi, V.e_inst, V.e_comp, V.ng, V.e_neg, V.e_slU, V.e_slL, V.e_lrg1, V.e_lrg3, V.es_n, V.es_c, V.it_seq, V.it_r1, V.it_r2, V.it_en, V.it_zip, V.ss_n, V.ss_c, V.s_asgF, V.kp_d, V.kp_o, V.s_asg, V.s_par, V.s_parN, V.tp_d, V.s_unp, V.s_expr, V.s_ret, V.s_retN, V.s_ite, V.s_for, V.s_pass, V.s_brk, V.s_cont, V.fz_0, V.ow_0, V.ap_0, V.fz_1, V.ow_1, V.ap_1, V.fz_2, V.ow_2, V.ap_2, V.fz_3, V.ow_3, V.ap_3, V.fz_4, V.ow_4, V.ap_4, V.fz_5, V.ow_5, V.ap_5, V.fz_6, V.ow_6, V.ap_6, V.fz_7, V.ow_7, V.ap_7, V.fz_8, V.ow_8, V.ap_8, V.fz_9, V.ow_9, V.ap_9, V.fz_10, V.ow_10, V.ap_10, V.fz_11, V.ow_11, V.ap_11, V.fz_12, V.ow_12, V.ap_12, V.fz_13, V.ow_13, V.ap_13, V.fz_14, V.ow_14, V.ap_14, V.fz_15, V.ow_15, V.ap_15, getE, setE, setMany, setNils, isTy, tyOf, List.map_cons, List.map_nil, List.length_cons, List.length_nil, List.cons_append, List.nil_append, List.append_nil, Nat.reduceSub, Nat.reduceAdd, atI_0, atI_1, atI_2, call_W5, call_W4, call_W2, call_W2o, call_W1, call_W1o, call_W0, call_W3, call_L0, call_L1, call_L1o, call_L2, call_L3, Option.some.injEq]
    refine ⟨by omega, by omega, ?_⟩
    rw [fmod_p (by omega), fmod_p (by omega)]
    unfold b__law_turned_right_6
    simp -implicitDefEqProofs only [V.rd_d, V.rd_o, V.rd_b, V.da_d, V.da_o, V.das_n, V.das_c, V.rds_n, V.rds_c, V.tr_b, V.tr_i, V.tr_n, V.tr_l, V.tr_t, V.tr_o, V.bn_add, V.bn_sub, V.bn_mul, V.bn_fdiv, V.bn_mod, V.bn_pow, V.bn_cat, V.cp_eq, V.cp_ne, V.cp_lt, V.cp_le, V.cp_gt, V.cp_ge, V.cp_in, V.cp_nin, V.is_n, V.isn_n, V.is_b, V.isn_b, V.is_i, V.isn_i, V.is_s, V.isn_s, V.is_l, V.isn_l, V.is_t, V.isn_t, V.is_bb, V.isn_bb, V.ix_l, V.ix_t, V.sl_l, V.bi_len, V.bi_lent, V.bi_abs, V.bi_max2, V.bi_min2, V.bi_int, V.bi_intb, V.bi_list, V.bi_listt, V.bi_tup, V.bi_tupt, V.bi_sum, V.bi_any, V.bi_all, V.bi_min1, V.bi_max1, V.bi_sorted, V.bi_repr, V.sq_d, V.sq_t, V.sq_o, V.ls_d, V.ls_o, V.tg_n, V.tg_t, V.vd_0, V.vo_0, V.vd_1, V.vo_1, V.vd_2, V.vo_2, V.vd_3, V.vo_3, V.vd_4, V.vo_4, V.vd_5, V.vo_5, V.vd_6, V.vo_6, V.vd_7, V.vo_7, V.vd_8, V.vo_8, V.vd_9, V.vo_9, V.vd_10, V.vo_10, V.vd_11, V.vo_11, V.vd_12, V.vo_12, V.vd_13, V.vo_13, V.vd_14, V.vo_14, V.vd_15, V.vo_15, V.e_int, V.e_bool, V.e_none, V.e_str, V.e_glob, V.e_bin, V.e_not, V.e_and, V.e_or, V.e_cmp, V.e_chain, V.e_ife, V.e_tup, V.e_lst, V.e_ix, V.e_call, V.e_callK, V.e_bi, V.e_inst, V.e_comp, V.ng, V.e_neg, V.e_slU, V.e_slL, V.e_lrg1, V.e_lrg3, V.es_n, V.es_c, V.it_seq, V.it_r1, V.it_r2, V.it_en, V.it_zip, V.ss_n, V.ss_c, V.s_asgF, V.kp_d, V.kp_o, V.s_asg, V.s_par, V.s_parN, V.tp_d, V.s_unp, V.s_expr, V.s_ret, V.s_retN, V.s_ite, V.s_for, V.s_pass, V.s_brk, V.s_cont, V.fz_0, V.ow_0, V.ap_0, V.fz_1, V.ow_1, V.ap_1, V.fz_2, V.ow_2, V.ap_2, V.fz_3, V.ow_3, V.ap_3, V.fz_4, V.ow_4, V.ap_4, V.fz_5, V.ow_5, V.ap_5, V.fz_6, V.ow_6, V.ap_6, V.fz_7, V.ow_7, V.ap_7, V.fz_8, V.ow_8, V.ap_8, V.fz_9, V.ow_9, V.ap_9, V.fz_10, V.ow_10, V.ap_10, V.fz_11, V.ow_11, V.ap_11, V.fz_12, V.ow_12, V.ap_12, V.fz_13, V.ow_13, V.ap_13, V.fz_14, V.ow_14, V.ap_14, V.fz_15, V.ow_15, V.ap_15, getE, setE, setMany, setNils, isTy, tyOf, List.map_cons, List.map_nil, List.length_cons, List.length_nil, List.cons_append, List.nil_append, List.append_nil, Nat.reduceSub, Nat.reduceAdd, atI_0, atI_1, atI_2, call_W5, call_W4, call_W2, call_W2o, call_W1, call_W1o, call_W0, call_W3, call_L0, call_L1, call_L1o, call_L2, call_L3, Option.some.injEq, sp_meets, w_meets]
    refine ⟨okl q, fun z => ?_, fun F' so' => ?_⟩
    · rcases hd with ⟨rfl, hno⟩ | ⟨F, rfl, so⟩
      · unfold b__law_turned_right_7
        simp -implicitDefEqProofs only [V.rd_d, V.rd_o, V.rd_b, V.da_d, V.da_o, V.das_n, V.das_c, V.rds_n, V.rds_c, V.tr_b, V.tr_i, V.tr_n, V.tr_l, V.tr_t, V.tr_o, V.bn_add, V.bn_sub, V.bn_mul, V.bn_fdiv, V.bn_mod, V.bn_pow, V.bn_cat, V.cp_eq, V.cp_ne, V.cp_lt, V.cp_le, V.cp_gt, V.cp_ge, V.cp_in, V.cp_nin, V.is_n, V.isn_n, V.is_b, V.isn_b, V.is_i, V.isn_i, V.is_s, V.isn_s, V.is_l, V.isn_l, V.is_t, V.isn_t, V.is_bb, V.isn_bb, V.ix_l, V.ix_t, V.sl_l, V.bi_len, V.bi_lent, V.bi_abs, V.bi_max2, V.bi_min2, V.bi_int, V.bi_intb, V.bi_list, V.bi_listt, V.bi_tup, V.bi_tupt, V.bi_sum, V.bi_any, V.bi_all, V.bi_min1, V.bi_max1, V.bi_sorted, V.bi_repr, V.sq_d, V.sq_t, V.sq_o, V.ls_d, V.ls_o, V.tg_n, V.tg_t, V.vd_0, V.vo_0, V.vd_1, V.vo_1, V.vd_2, V.vo_2, V.vd_3, V.vo_3, V.vd_4, V.vo_4, V.vd_5, V.vo_5, V.vd_6, V.vo_6, V.vd_7, V.vo_7, V.vd_8, V.vo_8, V.vd_9, V.vo_9, V.vd_10, V.vo_10, V.vd_11, V.vo_11, V.vd_12, V.vo_12, V.vd_13, V.vo_13, V.vd_14, V.vo_14, V.vd_15, V.vo_15, V.e_int, V.e_bool, V.e_none, V.e_str, V.e_glob, V.e_bin, V.e_not, V.e_and, V.e_or, V.e_cmp, V.e_chain, V.e_ife, V.e_tup, V.e_lst, V.e_ix, V.e_call, V.e_callK, V.e_bi, V.e_inst, V.e_comp, V.ng, V.e_neg, V.e_slU, V.e_slL, V.e_lrg1, V.e_lrg3, V.es_n, V.es_c, V.it_seq, V.it_r1, V.it_r2, V.it_en, V.it_zip, V.ss_n, V.ss_c, V.s_asgF, V.kp_d, V.kp_o, V.s_asg, V.s_par, V.s_parN, V.tp_d, V.s_unp, V.s_expr, V.s_ret, V.s_retN, V.s_ite, V.s_for, V.s_pass, V.s_brk, V.s_cont, V.fz_0, V.ow_0, V.ap_0, V.fz_1, V.ow_1, V.ap_1, V.fz_2, V.ow_2, V.ap_2, V.fz_3, V.ow_3, V.ap_3, V.fz_4, V.ow_4, V.ap_4, V.fz_5, V.ow_5, V.ap_5, V.fz_6, V.ow_6, V.ap_6, V.fz_7, V.ow_7, V.ap_7, V.fz_8, V.ow_8, V.ap_8, V.fz_9, V.ow_9, V.ap_9, V.fz_10, V.ow_10, V.ap_10, V.fz_11, V.ow_11, V.ap_11, V.fz_12, V.ow_12, V.ap_12, V.fz_13, V.ow_13, V.ap_13, V.fz_14, V.ow_14, V.ap_14, V.fz_15, V.ow_15, V.ap_15, getE, setE, setMany, setNils, isTy, tyOf, List.map_cons, List.map_nil, List.length_cons, List.length_nil, List.cons_append, List.nil_append, List.append_nil, Nat.reduceSub, Nat.reduceAdd, atI_0, atI_1, atI_2, call_W5, call_W4, call_W2, call_W2o, call_W1, call_W1o, call_W0, call_W3, call_L0, call_L1, call_L1o, call_L2, call_L3, Option.some.injEq, if_true]
        exact ⟨rfl, rfl, hD _ _ _ rfl (h _ hu1)⟩
      · exact absurd (M_later.mpr (show M s t i j a b (F - q + q) by rw [Int.sub_add_cancel]; exact (so.2.2 F).mpr ⟨0, by omega⟩)) (z _)
    · rcases hd with ⟨rfl, hno⟩ | ⟨F, rfl, so⟩
      · exact absurd (M_later.mp ((so'.2.2 F').mpr ⟨0, by omega⟩)) (hno _)
      · have e := sol_same ((Sol_iff fun x => M_later).mpr (Sol_later (q := q) Lp so)) so'
        unfold b__law_turned_right_7 tn
        simp -implicitDefEqProofs only [V.rd_d, V.rd_o, V.rd_b, V.da_d, V.da_o, V.das_n, V.das_c, V.rds_n, V.rds_c, V.tr_b, V.tr_i, V.tr_n, V.tr_l, V.tr_t, V.tr_o, V.bn_add, V.bn_sub, V.bn_mul, V.bn_fdiv, V.bn_mod, V.bn_pow, V.bn_cat, V.cp_eq, V.cp_ne, V.cp_lt, V.cp_le, V.cp_gt, V.cp_ge, V.cp_in, V.cp_nin, V.is_n, V.isn_n, V.is_b, V.isn_b, V.is_i, V.isn_i, V.is_s, V.isn_s, V.is_l, V.isn_l, V.is_t, V.isn_t, V.is_bb, V.isn_bb, V.ix_l, V.ix_t, V.sl_l, V.bi_len, V.bi_lent, V.bi_abs, V.bi_max2, V.bi_min2, V.bi_int, V.bi_intb, V.bi_list, V.bi_listt, V.bi_tup, V.bi_tupt, V.bi_sum, V.bi_any, V.bi_all, V.bi_min1, V.bi_max1, V.bi_sorted, V.bi_repr, V.sq_d, V.sq_t, V.sq_o, V.ls_d, V.ls_o, V.tg_n, V.tg_t, V.vd_0, V.vo_0, V.vd_1, V.vo_1, V.vd_2, V.vo_2, V.vd_3, V.vo_3, V.vd_4, V.vo_4, V.vd_5, V.vo_5, V.vd_6, V.vo_6, V.vd_7, V.vo_7, V.vd_8, V.vo_8, V.vd_9, V.vo_9, V.vd_10, V.vo_10, V.vd_11, V.vo_11, V.vd_12, V.vo_12, V.vd_13, V.vo_13, V.vd_14, V.vo_14, V.vd_15, V.vo_15, V.e_int, V.e_bool, V.e_none, V.e_str, V.e_glob, V.e_bin, V.e_not, V.e_and, V.e_or, V.e_cmp, V.e_chain, V.e_ife, V.e_tup, V.e_lst, V.e_ix, V.e_call, V.e_callK, V.e_bi, V.e_inst, V.e_comp, V.ng, V.e_neg, V.e_slU, V.e_slL, V.e_lrg1, V.e_lrg3, V.es_n, V.es_c, V.it_seq, V.it_r1, V.it_r2, V.it_en, V.it_zip, V.ss_n, V.ss_c, V.s_asgF, V.kp_d, V.kp_o, V.s_asg, V.s_par, V.s_parN, V.tp_d, V.s_unp, V.s_expr, V.s_ret, V.s_retN, V.s_ite, V.s_for, V.s_pass, V.s_brk, V.s_cont, V.fz_0, V.ow_0, V.ap_0, V.fz_1, V.ow_1, V.ap_1, V.fz_2, V.ow_2, V.ap_2, V.fz_3, V.ow_3, V.ap_3, V.fz_4, V.ow_4, V.ap_4, V.fz_5, V.ow_5, V.ap_5, V.fz_6, V.ow_6, V.ap_6, V.fz_7, V.ow_7, V.ap_7, V.fz_8, V.ow_8, V.ap_8, V.fz_9, V.ow_9, V.ap_9, V.fz_10, V.ow_10, V.ap_10, V.fz_11, V.ow_11, V.ap_11, V.fz_12, V.ow_12, V.ap_12, V.fz_13, V.ow_13, V.ap_13, V.fz_14, V.ow_14, V.ap_14, V.fz_15, V.ow_15, V.ap_15, getE, setE, setMany, setNils, isTy, tyOf, List.map_cons, List.map_nil, List.length_cons, List.length_nil, List.cons_append, List.nil_append, List.append_nil, Nat.reduceSub, Nat.reduceAdd, atI_0, atI_1, atI_2, call_W5, call_W4, call_W2, call_W2o, call_W1, call_W1o, call_W0, call_W3, call_L0, call_L1, call_L1o, call_L2, call_L3, Option.some.injEq, Bool.false_eq_true, if_false]
        refine ⟨by omega, rfl, rfl, ?_⟩
        rw [fmod_p Lp, e, eqv_tn]
        exact hD _ _ _ rfl (h _ hu1)
  refine ⟨okb, fun z => ?_, fun F' so' => ?_⟩
  · rcases hd with ⟨rfl, hno⟩ | ⟨F, rfl, so⟩
    · unfold b__law_turned_right_3
      simp -implicitDefEqProofs only [V.rd_d, V.rd_o, V.rd_b, V.da_d, V.da_o, V.das_n, V.das_c, V.rds_n, V.rds_c, V.tr_b, V.tr_i, V.tr_n, V.tr_l, V.tr_t, V.tr_o, V.bn_add, V.bn_sub, V.bn_mul, V.bn_fdiv, V.bn_mod, V.bn_pow, V.bn_cat, V.cp_eq, V.cp_ne, V.cp_lt, V.cp_le, V.cp_gt, V.cp_ge, V.cp_in, V.cp_nin, V.is_n, V.isn_n, V.is_b, V.isn_b, V.is_i, V.isn_i, V.is_s, V.isn_s, V.is_l, V.isn_l, V.is_t, V.isn_t, V.is_bb, V.isn_bb, V.ix_l, V.ix_t, V.sl_l, V.bi_len, V.bi_lent, V.bi_abs, V.bi_max2, V.bi_min2, V.bi_int, V.bi_intb, V.bi_list, V.bi_listt, V.bi_tup, V.bi_tupt, V.bi_sum, V.bi_any, V.bi_all, V.bi_min1, V.bi_max1, V.bi_sorted, V.bi_repr, V.sq_d, V.sq_t, V.sq_o, V.ls_d, V.ls_o, V.tg_n, V.tg_t, V.vd_0, V.vo_0, V.vd_1, V.vo_1, V.vd_2, V.vo_2, V.vd_3, V.vo_3, V.vd_4, V.vo_4, V.vd_5, V.vo_5, V.vd_6, V.vo_6, V.vd_7, V.vo_7, V.vd_8, V.vo_8, V.vd_9, V.vo_9, V.vd_10, V.vo_10, V.vd_11, V.vo_11, V.vd_12, V.vo_12, V.vd_13, V.vo_13, V.vd_14, V.vo_14, V.vd_15, V.vo_15, V.e_int, V.e_bool, V.e_none, V.e_str, V.e_glob, V.e_bin, V.e_not, V.e_and, V.e_or, V.e_cmp, V.e_chain, V.e_ife, V.e_tup, V.e_lst, V.e_ix, V.e_call, V.e_callK, V.e_bi, V.e_inst, V.e_comp, V.ng, V.e_neg, V.e_slU, V.e_slL, V.e_lrg1, V.e_lrg3, V.es_n, V.es_c, V.it_seq, V.it_r1, V.it_r2, V.it_en, V.it_zip, V.ss_n, V.ss_c, V.s_asgF, V.kp_d, V.kp_o, V.s_asg, V.s_par, V.s_parN, V.tp_d, V.s_unp, V.s_expr, V.s_ret, V.s_retN, V.s_ite, V.s_for, V.s_pass, V.s_brk, V.s_cont, V.fz_0, V.ow_0, V.ap_0, V.fz_1, V.ow_1, V.ap_1, V.fz_2, V.ow_2, V.ap_2, V.fz_3, V.ow_3, V.ap_3, V.fz_4, V.ow_4, V.ap_4, V.fz_5, V.ow_5, V.ap_5, V.fz_6, V.ow_6, V.ap_6, V.fz_7, V.ow_7, V.ap_7, V.fz_8, V.ow_8, V.ap_8, V.fz_9, V.ow_9, V.ap_9, V.fz_10, V.ow_10, V.ap_10, V.fz_11, V.ow_11, V.ap_11, V.fz_12, V.ow_12, V.ap_12, V.fz_13, V.ow_13, V.ap_13, V.fz_14, V.ow_14, V.ap_14, V.fz_15, V.ow_15, V.ap_15, getE, setE, setMany, setNils, isTy, tyOf, List.map_cons, List.map_nil, List.length_cons, List.length_nil, List.cons_append, List.nil_append, List.append_nil, Nat.reduceSub, Nat.reduceAdd, atI_0, atI_1, atI_2, call_W5, call_W4, call_W2, call_W2o, call_W1, call_W1o, call_W0, call_W3, call_L0, call_L1, call_L1o, call_L2, call_L3, Option.some.injEq]
      refine ⟨rfl, rfl, ?_⟩
      rw [if_neg (by simp [PyData.eqv])]
      simp -implicitDefEqProofs only [V.rd_d, V.rd_o, V.rd_b, V.da_d, V.da_o, V.das_n, V.das_c, V.rds_n, V.rds_c, V.tr_b, V.tr_i, V.tr_n, V.tr_l, V.tr_t, V.tr_o, V.bn_add, V.bn_sub, V.bn_mul, V.bn_fdiv, V.bn_mod, V.bn_pow, V.bn_cat, V.cp_eq, V.cp_ne, V.cp_lt, V.cp_le, V.cp_gt, V.cp_ge, V.cp_in, V.cp_nin, V.is_n, V.isn_n, V.is_b, V.isn_b, V.is_i, V.isn_i, V.is_s, V.isn_s, V.is_l, V.isn_l, V.is_t, V.isn_t, V.is_bb, V.isn_bb, V.ix_l, V.ix_t, V.sl_l, V.bi_len, V.bi_lent, V.bi_abs, V.bi_max2, V.bi_min2, V.bi_int, V.bi_intb, V.bi_list, V.bi_listt, V.bi_tup, V.bi_tupt, V.bi_sum, V.bi_any, V.bi_all, V.bi_min1, V.bi_max1, V.bi_sorted, V.bi_repr, V.sq_d, V.sq_t, V.sq_o, V.ls_d, V.ls_o, V.tg_n, V.tg_t, V.vd_0, V.vo_0, V.vd_1, V.vo_1, V.vd_2, V.vo_2, V.vd_3, V.vo_3, V.vd_4, V.vo_4, V.vd_5, V.vo_5, V.vd_6, V.vo_6, V.vd_7, V.vo_7, V.vd_8, V.vo_8, V.vd_9, V.vo_9, V.vd_10, V.vo_10, V.vd_11, V.vo_11, V.vd_12, V.vo_12, V.vd_13, V.vo_13, V.vd_14, V.vo_14, V.vd_15, V.vo_15, V.e_int, V.e_bool, V.e_none, V.e_str, V.e_glob, V.e_bin, V.e_not, V.e_and, V.e_or, V.e_cmp, V.e_chain, V.e_ife, V.e_tup, V.e_lst, V.e_ix, V.e_call, V.e_callK, V.e_bi, V.e_inst, V.e_comp, V.ng, V.e_neg, V.e_slU, V.e_slL, V.e_lrg1, V.e_lrg3, V.es_n, V.es_c, V.it_seq, V.it_r1, V.it_r2, V.it_en, V.it_zip, V.ss_n, V.ss_c, V.s_asgF, V.kp_d, V.kp_o, V.s_asg, V.s_par, V.s_parN, V.tp_d, V.s_unp, V.s_expr, V.s_ret, V.s_retN, V.s_ite, V.s_for, V.s_pass, V.s_brk, V.s_cont, V.fz_0, V.ow_0, V.ap_0, V.fz_1, V.ow_1, V.ap_1, V.fz_2, V.ow_2, V.ap_2, V.fz_3, V.ow_3, V.ap_3, V.fz_4, V.ow_4, V.ap_4, V.fz_5, V.ow_5, V.ap_5, V.fz_6, V.ow_6, V.ap_6, V.fz_7, V.ow_7, V.ap_7, V.fz_8, V.ow_8, V.ap_8, V.fz_9, V.ow_9, V.ap_9, V.fz_10, V.ow_10, V.ap_10, V.fz_11, V.ow_11, V.ap_11, V.fz_12, V.ow_12, V.ap_12, V.fz_13, V.ow_13, V.ap_13, V.fz_14, V.ow_14, V.ap_14, V.fz_15, V.ow_15, V.ap_15, getE, setE, setMany, setNils, isTy, tyOf, List.map_cons, List.map_nil, List.length_cons, List.length_nil, List.cons_append, List.nil_append, List.append_nil, Nat.reduceSub, Nat.reduceAdd, atI_0, atI_1, atI_2, call_W5, call_W4, call_W2, call_W2o, call_W1, call_W1o, call_W0, call_W3, call_L0, call_L1, call_L1o, call_L2, call_L3, Option.some.injEq, Bool.false_eq_true, if_false]
      exact fin _
    · exact absurd (M_back.mpr (show M s t i j a b (- -F) by rw [Int.neg_neg]; exact (so.2.2 F).mpr ⟨0, by omega⟩)) (z _)
  · rcases hd with ⟨rfl, hno⟩ | ⟨F, rfl, so⟩
    · exact absurd (M_back.mp ((so'.2.2 F').mpr ⟨0, by omega⟩)) (hno _)
    · rw [ec] at so' ⊢
      have e := sol_same ((Sol_iff fun x => M_back).mpr (Sol_back Lp so)) so'
      unfold b__law_turned_right_3 tn
      simp -implicitDefEqProofs only [V.rd_d, V.rd_o, V.rd_b, V.da_d, V.da_o, V.das_n, V.das_c, V.rds_n, V.rds_c, V.tr_b, V.tr_i, V.tr_n, V.tr_l, V.tr_t, V.tr_o, V.bn_add, V.bn_sub, V.bn_mul, V.bn_fdiv, V.bn_mod, V.bn_pow, V.bn_cat, V.cp_eq, V.cp_ne, V.cp_lt, V.cp_le, V.cp_gt, V.cp_ge, V.cp_in, V.cp_nin, V.is_n, V.isn_n, V.is_b, V.isn_b, V.is_i, V.isn_i, V.is_s, V.isn_s, V.is_l, V.isn_l, V.is_t, V.isn_t, V.is_bb, V.isn_bb, V.ix_l, V.ix_t, V.sl_l, V.bi_len, V.bi_lent, V.bi_abs, V.bi_max2, V.bi_min2, V.bi_int, V.bi_intb, V.bi_list, V.bi_listt, V.bi_tup, V.bi_tupt, V.bi_sum, V.bi_any, V.bi_all, V.bi_min1, V.bi_max1, V.bi_sorted, V.bi_repr, V.sq_d, V.sq_t, V.sq_o, V.ls_d, V.ls_o, V.tg_n, V.tg_t, V.vd_0, V.vo_0, V.vd_1, V.vo_1, V.vd_2, V.vo_2, V.vd_3, V.vo_3, V.vd_4, V.vo_4, V.vd_5, V.vo_5, V.vd_6, V.vo_6, V.vd_7, V.vo_7, V.vd_8, V.vo_8, V.vd_9, V.vo_9, V.vd_10, V.vo_10, V.vd_11, V.vo_11, V.vd_12, V.vo_12, V.vd_13, V.vo_13, V.vd_14, V.vo_14, V.vd_15, V.vo_15, V.e_int, V.e_bool, V.e_none, V.e_str, V.e_glob, V.e_bin, V.e_not, V.e_and, V.e_or, V.e_cmp, V.e_chain, V.e_ife, V.e_tup, V.e_lst, V.e_ix, V.e_call, V.e_callK, V.e_bi, V.e_inst, V.e_comp, V.ng, V.e_neg, V.e_slU, V.e_slL, V.e_lrg1, V.e_lrg3, V.es_n, V.es_c, V.it_seq, V.it_r1, V.it_r2, V.it_en, V.it_zip, V.ss_n, V.ss_c, V.s_asgF, V.kp_d, V.kp_o, V.s_asg, V.s_par, V.s_parN, V.tp_d, V.s_unp, V.s_expr, V.s_ret, V.s_retN, V.s_ite, V.s_for, V.s_pass, V.s_brk, V.s_cont, V.fz_0, V.ow_0, V.ap_0, V.fz_1, V.ow_1, V.ap_1, V.fz_2, V.ow_2, V.ap_2, V.fz_3, V.ow_3, V.ap_3, V.fz_4, V.ow_4, V.ap_4, V.fz_5, V.ow_5, V.ap_5, V.fz_6, V.ow_6, V.ap_6, V.fz_7, V.ow_7, V.ap_7, V.fz_8, V.ow_8, V.ap_8, V.fz_9, V.ow_9, V.ap_9, V.fz_10, V.ow_10, V.ap_10, V.fz_11, V.ow_11, V.ap_11, V.fz_12, V.ow_12, V.ap_12, V.fz_13, V.ow_13, V.ap_13, V.fz_14, V.ow_14, V.ap_14, V.fz_15, V.ow_15, V.ap_15, getE, setE, setMany, setNils, isTy, tyOf, List.map_cons, List.map_nil, List.length_cons, List.length_nil, List.cons_append, List.nil_append, List.append_nil, Nat.reduceSub, Nat.reduceAdd, atI_0, atI_1, atI_2, call_W5, call_W4, call_W2, call_W2o, call_W1, call_W1o, call_W0, call_W3, call_L0, call_L1, call_L1o, call_L2, call_L3, Option.some.injEq]
      refine ⟨rfl, rfl, ?_⟩
      rw [if_neg (by simp [PyData.eqv])]
      simp -implicitDefEqProofs only [V.rd_d, V.rd_o, V.rd_b, V.da_d, V.da_o, V.das_n, V.das_c, V.rds_n, V.rds_c, V.tr_b, V.tr_i, V.tr_n, V.tr_l, V.tr_t, V.tr_o, V.bn_add, V.bn_sub, V.bn_mul, V.bn_fdiv, V.bn_mod, V.bn_pow, V.bn_cat, V.cp_eq, V.cp_ne, V.cp_lt, V.cp_le, V.cp_gt, V.cp_ge, V.cp_in, V.cp_nin, V.is_n, V.isn_n, V.is_b, V.isn_b, V.is_i, V.isn_i, V.is_s, V.isn_s, V.is_l, V.isn_l, V.is_t, V.isn_t, V.is_bb, V.isn_bb, V.ix_l, V.ix_t, V.sl_l, V.bi_len, V.bi_lent, V.bi_abs, V.bi_max2, V.bi_min2, V.bi_int, V.bi_intb, V.bi_list, V.bi_listt, V.bi_tup, V.bi_tupt, V.bi_sum, V.bi_any, V.bi_all, V.bi_min1, V.bi_max1, V.bi_sorted, V.bi_repr, V.sq_d, V.sq_t, V.sq_o, V.ls_d, V.ls_o, V.tg_n, V.tg_t, V.vd_0, V.vo_0, V.vd_1, V.vo_1, V.vd_2, V.vo_2, V.vd_3, V.vo_3, V.vd_4, V.vo_4, V.vd_5, V.vo_5, V.vd_6, V.vo_6, V.vd_7, V.vo_7, V.vd_8, V.vo_8, V.vd_9, V.vo_9, V.vd_10, V.vo_10, V.vd_11, V.vo_11, V.vd_12, V.vo_12, V.vd_13, V.vo_13, V.vd_14, V.vo_14, V.vd_15, V.vo_15, V.e_int, V.e_bool, V.e_none, V.e_str, V.e_glob, V.e_bin, V.e_not, V.e_and, V.e_or, V.e_cmp, V.e_chain, V.e_ife, V.e_tup, V.e_lst, V.e_ix, V.e_call, V.e_callK, V.e_bi, V.e_inst, V.e_comp, V.ng, V.e_neg, V.e_slU, V.e_slL, V.e_lrg1, V.e_lrg3, V.es_n, V.es_c, V.it_seq, V.it_r1, V.it_r2, V.it_en, V.it_zip, V.ss_n, V.ss_c, V.s_asgF, V.kp_d, V.kp_o, V.s_asg, V.s_par, V.s_parN, V.tp_d, V.s_unp, V.s_expr, V.s_ret, V.s_retN, V.s_ite, V.s_for, V.s_pass, V.s_brk, V.s_cont, V.fz_0, V.ow_0, V.ap_0, V.fz_1, V.ow_1, V.ap_1, V.fz_2, V.ow_2, V.ap_2, V.fz_3, V.ow_3, V.ap_3, V.fz_4, V.ow_4, V.ap_4, V.fz_5, V.ow_5, V.ap_5, V.fz_6, V.ow_6, V.ap_6, V.fz_7, V.ow_7, V.ap_7, V.fz_8, V.ow_8, V.ap_8, V.fz_9, V.ow_9, V.ap_9, V.fz_10, V.ow_10, V.ap_10, V.fz_11, V.ow_11, V.ap_11, V.fz_12, V.ow_12, V.ap_12, V.fz_13, V.ow_13, V.ap_13, V.fz_14, V.ow_14, V.ap_14, V.fz_15, V.ow_15, V.ap_15, getE, setE, setMany, setNils, isTy, tyOf, List.map_cons, List.map_nil, List.length_cons, List.length_nil, List.cons_append, List.nil_append, List.append_nil, Nat.reduceSub, Nat.reduceAdd, atI_0, atI_1, atI_2, call_W5, call_W4, call_W2, call_W2o, call_W1, call_W1o, call_W0, call_W3, call_L0, call_L1, call_L1o, call_L2, call_L3, Option.some.injEq, if_true]
      refine ⟨by omega, rfl, rfl, ?_⟩
      rw [fmod_p Lp, e, eqv_tn]
      simp -implicitDefEqProofs only [Bool.not_true, Bool.false_eq_true, if_false, V.rd_d, V.rd_o, V.rd_b, V.da_d, V.da_o, V.das_n, V.das_c, V.rds_n, V.rds_c, V.tr_b, V.tr_i, V.tr_n, V.tr_l, V.tr_t, V.tr_o, V.bn_add, V.bn_sub, V.bn_mul, V.bn_fdiv, V.bn_mod, V.bn_pow, V.bn_cat, V.cp_eq, V.cp_ne, V.cp_lt, V.cp_le, V.cp_gt, V.cp_ge, V.cp_in, V.cp_nin, V.is_n, V.isn_n, V.is_b, V.isn_b, V.is_i, V.isn_i, V.is_s, V.isn_s, V.is_l, V.isn_l, V.is_t, V.isn_t, V.is_bb, V.isn_bb, V.ix_l, V.ix_t, V.sl_l, V.bi_len, V.bi_lent, V.bi_abs, V.bi_max2, V.bi_min2, V.bi_int, V.bi_intb, V.bi_list, V.bi_listt, V.bi_tup, V.bi_tupt, V.bi_sum, V.bi_any, V.bi_all, V.bi_min1, V.bi_max1, V.bi_sorted, V.bi_repr, V.sq_d, V.sq_t, V.sq_o, V.ls_d, V.ls_o, V.tg_n, V.tg_t, V.vd_0, V.vo_0, V.vd_1, V.vo_1, V.vd_2, V.vo_2, V.vd_3, V.vo_3, V.vd_4, V.vo_4, V.vd_5, V.vo_5, V.vd_6, V.vo_6, V.vd_7, V.vo_7, V.vd_8, V.vo_8, V.vd_9, V.vo_9, V.vd_10, V.vo_10, V.vd_11, V.vo_11, V.vd_12, V.vo_12, V.vd_13, V.vo_13, V.vd_14, V.vo_14, V.vd_15, V.vo_15, V.e_int, V.e_bool, V.e_none, V.e_str, V.e_glob, V.e_bin, V.e_not, V.e_and, V.e_or, V.e_cmp, V.e_chain, V.e_ife, V.e_tup, V.e_lst, V.e_ix, V.e_call, V.e_callK, V.e_bi, V.e_inst, V.e_comp, V.ng, V.e_neg, V.e_slU, V.e_slL, V.e_lrg1, V.e_lrg3, V.es_n, V.es_c, V.it_seq, V.it_r1, V.it_r2, V.it_en, V.it_zip, V.ss_n, V.ss_c, V.s_asgF, V.kp_d, V.kp_o, V.s_asg, V.s_par, V.s_parN, V.tp_d, V.s_unp, V.s_expr, V.s_ret, V.s_retN, V.s_ite, V.s_for, V.s_pass, V.s_brk, V.s_cont, V.fz_0, V.ow_0, V.ap_0, V.fz_1, V.ow_1, V.ap_1, V.fz_2, V.ow_2, V.ap_2, V.fz_3, V.ow_3, V.ap_3, V.fz_4, V.ow_4, V.ap_4, V.fz_5, V.ow_5, V.ap_5, V.fz_6, V.ow_6, V.ap_6, V.fz_7, V.ow_7, V.ap_7, V.fz_8, V.ow_8, V.ap_8, V.fz_9, V.ow_9, V.ap_9, V.fz_10, V.ow_10, V.ap_10, V.fz_11, V.ow_11, V.ap_11, V.fz_12, V.ow_12, V.ap_12, V.fz_13, V.ow_13, V.ap_13, V.fz_14, V.ow_14, V.ap_14, V.fz_15, V.ow_15, V.ap_15, getE, setE, setMany, setNils, isTy, tyOf, List.map_cons, List.map_nil, List.length_cons, List.length_nil, List.cons_append, List.nil_append, List.append_nil, Nat.reduceSub, Nat.reduceAdd, atI_0, atI_1, atI_2, call_W5, call_W4, call_W2, call_W2o, call_W1, call_W1o, call_W0, call_W3, call_L0, call_L1, call_L1o, call_L2, call_L3, Option.some.injEq]
      exact fin _
end K50

set_option maxRecDepth 100000
set_option maxHeartbeats 1000000
namespace K50
open PySem PF NL
theorem bez_nat : ∀ a b : Nat, ∃ u v : Int, u * a + v * b = (Nat.gcd a b : Nat) := by
  intro a b
  induction a, b using Nat.gcd.induction with
  | H0 n => exact ⟨0, 1, by simp⟩
  | H1 m n hm ih =>
    obtain ⟨u, v, h⟩ := ih
    have e : ((n % m : Nat) : Int) = (n : Int) - (m : Int) * ((n / m : Nat) : Int) := by
      have := Nat.mod_add_div n m
      have h2 : ((n % m + m * (n / m) : Nat) : Int) = (n : Int) := by rw [this]
      rw [Int.natCast_add, Int.natCast_mul] at h2
      omega
    refine ⟨v - u * ((n / m : Nat) : Int), u, ?_⟩
    rw [Nat.gcd_rec, ← h, e]
    grind
theorem bez {s t : Int} (hs : 0 < s) (ht : 0 < t) : ∃ u v : Int, u * s + v * t = (Int.gcd s t : Nat) := by
  obtain ⟨u, v, h⟩ := bez_nat s.toNat t.toNat
  refine ⟨u, v, ?_⟩
  have e1 : ((s.toNat : Nat) : Int) = s := by omega
  have e2 : ((t.toNat : Nat) : Int) = t := by omega
  rw [e1, e2] at h
  rw [h]
  have e3 : s.natAbs = s.toNat := by omega
  have e4 : t.natAbs = t.toNat := by omega
  unfold Int.gcd
  rw [e3, e4]
theorem crt {s t f1 f2 : Int} (hs : 0 < s) (ht : 0 < t) (h : ((Int.gcd s t : Nat) : Int) ∣ f2 - f1) : ∃ x, s ∣ x - f1 ∧ t ∣ x - f2 := by
  obtain ⟨u, v, hb⟩ := bez hs ht
  obtain ⟨k, hk⟩ := h
  refine ⟨f1 + s * (u * k), ⟨u * k, by omega⟩, -(v * k), ?_⟩
  have : f2 = f1 + (u * s + v * t) * k := by rw [hb]; omega
  rw [this]
  grind
def pts (lo hi c : Int) : List Int := (List.range (rangeCn lo hi c)).map fun (i : Nat) => lo + (i : Int) * c
theorem rangeCL_pts {lo hi c : Int} : rangeCL lo hi c = (pts lo hi c).map .int := by
  unfold rangeCL pts
  rw [List.map_map]
  rfl
theorem mem_pts {lo hi c y : Int} (hc : 0 < c) : y ∈ pts lo hi c ↔ lo ≤ y ∧ y < hi ∧ c ∣ y - lo := by
  unfold pts rangeCn
  simp only [List.mem_map, List.mem_range]
  constructor
  · rintro ⟨i, hi', rfl⟩
    split at hi'
    · rename_i hlt
      have h0 : 0 ≤ (hi - lo - 1) / c := Int.ediv_nonneg (by omega) (by omega)
      have h1 : (i : Int) ≤ (hi - lo - 1) / c := by omega
      have h2 : (i : Int) * c ≤ hi - lo - 1 := Int.le_trans (Int.mul_le_mul_of_nonneg_right h1 (by omega)) (Int.ediv_mul_le _ (by omega))
      have h3 : 0 ≤ (i : Int) * c := Int.mul_nonneg (by omega) (by omega)
      exact ⟨by omega, by omega, i, by rw [Int.mul_comm]; omega⟩
    · omega
  · rintro ⟨h1, h2, k, hk⟩
    have k0 : 0 ≤ k := by
      rcases Int.lt_or_le k 0 with z | z
      · have := Int.mul_neg_of_pos_of_neg hc z
        omega
      · exact z
    refine ⟨k.toNat, ?_, ?_⟩
    · rw [if_pos (by omega)]
      have : k ≤ (hi - lo - 1) / c := Int.le_ediv_of_mul_le hc (by rw [Int.mul_comm]; omega)
      omega
    · rw [show ((k.toNat : Nat) : Int) = k by omega, Int.mul_comm]
      omega
theorem pts_lt {lo hi c : Int} (hc : 0 < c) : (pts lo hi c).Pairwise (· < ·) := by
  unfold pts
  rw [List.pairwise_map]
  refine List.Pairwise.imp (fun {a b} h => ?_) (List.pairwise_lt_range)
  have := Int.mul_lt_mul_of_pos_right (show (a : Int) < b by omega) hc
  omega
def colL (s t i j a : Int) : List Int := ((iv 0 (lcm2 s t)).filter fun k => (i + k) % s == a).map fun k => (j - k) % t
theorem iv_nd (lo hi : Int) : (iv lo hi).Pairwise (· ≠ ·) := by
  unfold iv
  rw [List.pairwise_map]
  exact List.Pairwise.imp (fun {a b} h => by omega) (List.pairwise_lt_range)
theorem col_perm {s t i j a : Int} (ok : okM s t i j a 0) : (pts ((i + j - a) % (Int.gcd s t : Int)) t (Int.gcd s t)).Perm (colL s t i j a) := by
  obtain ⟨h1, h2, h3, h4, h5, h6⟩ := ok
  have sp : 0 < s := by omega
  have tp : 0 < t := by omega
  have gp := gcd_posR (u := s) tp
  have Lp := lcm2_pos sp tp
  obtain ⟨gs, hgs⟩ := Int.gcd_dvd_left s t
  obtain ⟨gt, hgt⟩ := Int.gcd_dvd_right s t
  generalize hg : ((Int.gcd s t : Nat) : Int) = g at gp hgs hgt
  have c0 := Int.emod_nonneg (i + j - a) (show g ≠ 0 by omega)
  have c1 := Int.emod_lt_of_pos (i + j - a) gp
  refine (List.perm_ext_iff_of_nodup ?_ ?_).mpr fun y => ?_
  · exact List.Pairwise.imp (fun {a b} h => by omega) (pts_lt gp)
  · unfold colL
    refine (List.pairwise_map).mpr ?_
    refine List.Pairwise.imp_of_mem (R := (· ≠ ·)) (fun {x y} hx hy ne he => ?_) ((iv_nd 0 (lcm2 s t)).filter _)
    obtain ⟨x1, x2⟩ := List.mem_filter.mp hx
    obtain ⟨y1, y2⟩ := List.mem_filter.mp hy
    obtain ⟨x3, x4⟩ := mem_iv.mp x1
    obtain ⟨y3, y4⟩ := mem_iv.mp y1
    have d1 : s ∣ x - y := by
      have : (i + x) % s = (i + y) % s := by rw [eq_of_beq x2, eq_of_beq y2]
      have := mod_eq.mp this
      rwa [show i + x - (i + y) = x - y by omega] at this
    have d2 : t ∣ x - y := by
      have := mod_eq.mp he
      rw [show j - x - (j - y) = -(x - y) by omega, Int.dvd_neg] at this
      exact this
    have := dvd_small (lcm2_dvd tp d1 d2) (by omega) (by omega)
    omega
  · rw [mem_pts gp, dvd_mod]
    unfold colL
    simp only [List.mem_map, List.mem_filter, mem_iv, beq_iff_eq]
    constructor
    · rintro ⟨y0, y1, yd⟩
      have hd : ((Int.gcd s t : Nat) : Int) ∣ (j - y) - (a - i) := by
        rw [hg]
        obtain ⟨q, hq⟩ := yd
        exact ⟨-q, by grind⟩
      obtain ⟨x, hx1, hx2⟩ := crt sp tp hd
      refine ⟨x % lcm2 s t, ⟨⟨Int.emod_nonneg _ (by omega), Int.emod_lt_of_pos _ Lp⟩, ?_⟩, ?_⟩
      · rw [mod_is h5.1 h5.2]
        have h7 : lcm2 s t ∣ x - x % lcm2 s t := dvd_mod.mpr ⟨0, by omega⟩
        obtain ⟨p, hp⟩ := Int.dvd_trans (lcm2_left tp) h7
        obtain ⟨r, hr⟩ := hx1
        exact ⟨r - p, by grind⟩
      · rw [mod_is (by omega) y1]
        have h7 : lcm2 s t ∣ x - x % lcm2 s t := dvd_mod.mpr ⟨0, by omega⟩
        obtain ⟨p, hp⟩ := Int.dvd_trans (lcm2_right tp) h7
        obtain ⟨r, hr⟩ := hx2
        exact ⟨p - r, by grind⟩
    · rintro ⟨x, ⟨⟨x0, x1⟩, hx⟩, rfl⟩
      have b1 := Int.emod_nonneg (j - x) (show t ≠ 0 by omega)
      have b2 := Int.emod_lt_of_pos (j - x) tp
      have hd : g ∣ (j - x) % t - (i + j - a) := by
        rw [mod_is h5.1 h5.2] at hx
        obtain ⟨p, hp⟩ := hx
        have e := Int.emod_add_mul_ediv (j - x) t
        refine ⟨-(gt * ((j - x) / t)) - gs * p, ?_⟩
        have e1 : t * ((j - x) / t) = g * (gt * ((j - x) / t)) := by rw [← Int.mul_assoc, ← hgt]
        have e2 : s * p = g * (gs * p) := by rw [← Int.mul_assoc, ← hgs]
        rw [e1] at e
        rw [e2] at hp
        grind
      refine ⟨?_, b2, hd⟩
      obtain ⟨q, hq⟩ := dvd_mod.mpr hd
      rcases Int.lt_or_le q 0 with z | z
      · have : g * q ≤ g * (-1) := Int.mul_le_mul_of_nonneg_left (by omega) (by omega)
        omega
      · have := Int.mul_nonneg (show 0 ≤ g by omega) z
        omega
theorem sorted_is {s t i j a : Int} (ok : okM s t i j a 0) {ns : List Int} (hp : ns.Perm (colL s t i j a)) (hs : ns.Pairwise (· ≤ ·)) : ns = pts ((i + j - a) % (Int.gcd s t : Int)) t (Int.gcd s t) := by
  have gp := gcd_posR (u := s) (show 0 < t by have := ok.2.1.1; omega)
  refine List.Perm.eq_of_pairwise (le := (· ≤ ·)) (fun a b _ _ h1 h2 => by omega) hs (List.Pairwise.imp (fun {a b} h => by omega) (pts_lt gp)) (hp.trans (col_perm ok).symm)
end K50

set_option maxRecDepth 100000
set_option maxHeartbeats 1000000
namespace K50
open PySem PF NL
def w__law_right : LF := fun l xs k => xs = [] ∧ Urn 0 l ∧ ∀ l', k (.d (.bool true)) l'
theorem m__law_right : w__law_right.Mono := fun l xs k k' h ⟨h1, h2, h3⟩ => ⟨h1, h2, fun l' => h _ _ (h3 l')⟩
def sp__law_right : ASp := spL w__law_right m__law_right
def cc__law_right_1 : E := (.cmp .eq (.var 11) (.ix (.var 4) (.int 0)))
def ce__law_right_2 : E := (.var 12)
def b__law_right_19 : Ss := (.cons (.ret (.call "_law_turned_right" sp__law_turned_right (.cons (.var 0) (.cons (.var 9) (.cons (.var 10) (.cons (.var 2) (.cons (.var 4) (.cons (.var 5) .nil)))))))) .nil)
def b__law_right_18 : Ss := (.cons (.ite (.not (.call "_law_counts_right" sp__law_counts_right (.cons (.var 0) (.cons (.var 9) (.cons (.var 10) (.cons (.var 2) (.cons (.var 4) (.cons (.var 5) .nil)))))))) (.cons (.ret (.bool false))
  .nil) .nil) b__law_right_19)
def b__law_right_17 : Ss := (.cons (.ite (.not (.call "_law_says" sp__law_says (.cons (.callK "is_even" sp_is_even ["teeth", "other_teeth"] ["other_teeth", "teeth"] (.cons (.var 9) (.cons (.var 10) .nil))) (.cons (.cmp .eq (.bi .len (.cons (.var 3) .nil)) (.bin .mul (.var 9) (.var 10))) .nil)))) (.cons (.ret (.bool false))
  .nil) .nil) b__law_right_18)
def b__law_right_16 : Ss := (.cons (.ite (.or (.cmp .ne (.callK "pairs_met" sp_pairs_met ["teeth", "other_teeth"] ["other_teeth", "teeth"] (.cons (.var 9) (.cons (.var 10) .nil))) (.bi .len (.cons (.var 3) .nil))) (.not (.call "_law_says" sp__law_says (.cons (.call "is_even" sp_is_even (.cons (.var 9) (.cons (.var 10) .nil))) (.cons (.cmp .eq (.bi .len (.cons (.var 3) .nil)) (.bin .mul (.var 9) (.var 10))) .nil))))) (.cons (.ret (.bool false))
  .nil) .nil) b__law_right_17)
def b__law_right_15 : Ss := (.cons (.ite (.or (.cmp .ne (.call "partners" sp_partners (.cons (.var 9) (.cons (.var 10) (.cons (.var 2) (.cons (.ix (.var 4) (.int 0)) .nil))))) (.var 7)) (.cmp .ne (.call "pairs_met" sp_pairs_met (.cons (.var 9) (.cons (.var 10) .nil))) (.bi .len (.cons (.var 3) .nil)))) (.cons (.ret (.bool false))
  .nil) .nil) b__law_right_16)
def b__law_right_14 : Ss := (.cons (.frz 8) b__law_right_15)
def b__law_right_13 : Ss := (.cons (.append 8 (.int 0)) b__law_right_14)
def b__law_right_12 : Ss := (.cons (.ite (.or (.cmp .ne (.var 8) (.var 7)) (.or (.not (.inst (.var 8) [.list])) (.cmp .eq (.callK "partners" sp_partners ["teeth", "other_teeth", "begin", "tooth"] ["tooth", "begin", "other_teeth", "teeth"] (.cons (.int 0) (.cons (.var 2) (.cons (.var 10) (.cons (.var 9) .nil))))) (.lst .nil)))) (.cons (.ret (.bool false))
  .nil) .nil) b__law_right_13)
def b__law_right_11 : Ss := (.cons (.asg 8 (.call "partners" sp_partners (.cons (.var 9) (.cons (.var 10) (.cons (.var 2) (.cons (.ix (.var 4) (.int 0)) .nil)))))) b__law_right_12)
def b__law_right_10 : Ss := (.cons (.asgF 7 (.bi .sorted (.cons (.comp ce__law_right_2 (some ()) cc__law_right_1 (.tp [11, 12]) (.seq (.var 3)) [("_law_i", 11), ("_law_j", 12)]) .nil))) b__law_right_11)
def b__law_right_9 : Ss := (.cons (.ite (.cmp .ne (.callK "meets" sp_meets ["teeth", "other_teeth", "begin", "tooth", "other_tooth"] ["other_tooth", "tooth", "begin", "other_teeth", "teeth"] (.cons (.ix (.var 4) (.int 1)) (.cons (.ix (.var 4) (.int 0)) (.cons (.var 2) (.cons (.var 10) (.cons (.var 9) .nil)))))) (.var 5)) (.cons (.ret (.bool false))
  .nil) .nil) b__law_right_10)
def b__law_right_8 : Ss := (.cons (.ite (.cmp .ne (.var 6) (.var 5)) (.cons (.ret (.bool false))
  .nil) .nil) b__law_right_9)
def b__law_right_7 : Ss := (.cons (.asgF 6 (.call "meets" sp_meets (.cons (.var 9) (.cons (.var 10) (.cons (.var 2) (.cons (.ix (.var 4) (.int 0)) (.cons (.ix (.var 4) (.int 1)) .nil))))))) b__law_right_8)
def b__law_right_6 : Ss := (.cons (.asgF 5 (.call "_law_progression" sp__law_progression (.cons (.var 3) (.cons (.var 4) .nil)))) b__law_right_7)
def b__law_right_5 : Ss := (.cons (.asgF 4 (.ix (.lst (.cons (.tup (.cons (.call "_law_pick" sp__law_pick (.cons (.var 0) (.cons (.var 9) .nil))) (.cons (.call "_law_pick" sp__law_pick (.cons (.var 0) (.cons (.var 10) .nil))) .nil))) (.cons (.ix (.var 3) (.call "_law_pick" sp__law_pick (.cons (.var 0) (.cons (.bi .len (.cons (.var 3) .nil)) .nil)))) .nil))) (.call "_law_pick" sp__law_pick (.cons (.var 0) (.cons (.int 2) .nil))))) b__law_right_6)
def b__law_right_4 : Ss := (.cons (.asgF 3 (.call "_law_passes" sp__law_passes (.cons (.var 9) (.cons (.var 10) (.cons (.var 2) .nil))))) b__law_right_5)
def b__law_right_3 : Ss := (.cons (.asgF 2 (.tup (.cons (.call "_law_pick" sp__law_pick (.cons (.var 0) (.cons (.var 9) .nil))) (.cons (.call "_law_pick" sp__law_pick (.cons (.var 0) (.cons (.var 10) .nil))) .nil)))) b__law_right_4)
def b__law_right_2 : Ss := (.cons (.par [9, 10] (.cons (.bin .add (.int 1) (.call "_law_pick" sp__law_pick (.cons (.var 0) (.cons (.var 1) .nil)))) (.cons (.bin .add (.int 1) (.call "_law_pick" sp__law_pick (.cons (.var 0) (.cons (.var 1) .nil)))) .nil))) b__law_right_3)
def b__law_right : Ss := (.cons (.asgF 1 (.ix (.lst (.cons (.int 12) (.cons (.int 100) .nil))) (.bi .int (.cons (.cmp .eq (.call "_law_pick" sp__law_pick (.cons (.var 0) (.cons (.int 8) .nil))) (.int 7)) .nil)))) b__law_right_2)
abbrev RE (l : List PyData) (m : Option AV) (s t i j a b : Int) (due told sm fd : Option AV) : AEnv := [some (.o l), m, some (.d (.tuple [.int i, .int j])), some (.d (.list (rows s t i j (lcm2 s t)))), some (.d (.tuple [.int a, .int b])), due, told, sm, fd, some (.d (.int s)), some (.d (.int t)), none, none]
theorem gcd_one {s t : Int} (hs : 0 < s) (ht : 0 < t) : (((Int.gcd s t : Nat) : Int) == 1) = (lcm2 s t == s * t) := by
  obtain ⟨g, N, K, gp, hg, h1, hN, h2, h3, h4, co⟩ := lcm2_eq (w := s) ht
  have e : s * t = g * lcm2 s t := by rw [h2, h1]; grind
  have Lp := lcm2_pos hs ht
  rw [← hg, e, Bool.eq_iff_iff]
  simp only [beq_iff_eq]
  constructor
  · rintro rfl; omega
  · intro h
    have : (g - 1) * lcm2 s t = 0 := by grind
    rcases Int.mul_eq_zero.mp this with z | z
    · omega
    · omega
theorem ro_st {x y : AV} : reorder ["teeth", "other_teeth"] ["other_teeth", "teeth"] [x, y] = some [y, x] := rfl
theorem ro_m {v w x y z : AV} : reorder ["teeth", "other_teeth", "begin", "tooth", "other_tooth"] ["other_tooth", "tooth", "begin", "other_teeth", "teeth"] [v, w, x, y, z] = some [z, y, x, w, v] := rfl
theorem ro_p {w x y z : AV} : reorder ["teeth", "other_teeth", "begin", "tooth"] ["tooth", "begin", "other_teeth", "teeth"] [w, x, y, z] = some [z, y, x, w] := rfl
section
variable {l : List PyData} {n : Nat} {m told sm fd : Option AV} {s t i j a b : Int} {due : PyData} {D : AEnds}
theorem call_L5 {f : LF} {m : f.Mono} {l : List PyData} {a b c d e : PyData} {env : AEnv} {Q : AV → AEnv → Prop} {X : XQ} : callK (spL f m) [.b 0, .d a, .d b, .d c, .d d, .d e] (some (.o l) :: env) Q X ↔ f l [a, b, c, d, e] fun r l' => Q r (some (.o l') :: env) := call_L (vs := [.d a, .d b, .d c, .d d, .d e]) (xs := [a, b, c, d, e]) (env := some (.o l) :: env) rfl rfl
theorem t18 (ok : okM s t i j a b) (hd : dueOk s t i j a b due) (hu : Urn n l) (hn : n < 1000) (h : ∀ l' env, getE env 0 = some (.o l') → D.rt (.d (.bool true)) env) : wSs X0 b__law_right_18 (RE l m s t i j a b (some (.d due)) told sm fd) D := by
  unfold b__law_right_18
  simp -implicitDefEqProofs only [RE, V.rd_d, V.rd_o, V.rd_b, V.da_d, V.da_o, V.das_n, V.das_c, V.rds_n, V.rds_c, V.tr_b, V.tr_i, V.tr_n, V.tr_l, V.tr_t, V.tr_o, V.bn_add, V.bn_sub, V.bn_mul, V.bn_fdiv, V.bn_mod, V.bn_pow, V.bn_cat, V.cp_eq, V.cp_ne, V.cp_lt, V.cp_le, V.cp_gt, V.cp_ge, V.cp_in, V.cp_nin, V.is_n, V.isn_n, V.is_b, V.isn_b, V.is_i, V.isn_i, V.is_s, V.isn_s, V.is_l, V.isn_l, V.is_t, V.isn_t, V.is_bb, V.isn_bb, V.ix_l, V.ix_t, V.sl_l, V.bi_len, V.bi_lent, V.bi_abs, V.bi_max2, V.bi_min2, V.bi_int, V.bi_intb, V.bi_list, V.bi_listt, V.bi_tup, V.bi_tupt, V.bi_sum, V.bi_any, V.bi_all, V.bi_min1, V.bi_max1, V.bi_sorted, V.bi_repr, V.sq_d, V.sq_t, V.sq_o, V.ls_d, V.ls_o, V.tg_n, V.tg_t, V.vd_0, V.vo_0, V.vd_1, V.vo_1, V.vd_2, V.vo_2, V.vd_3, V.vo_3, V.vd_4, V.vo_4, V.vd_5, V.vo_5, V.vd_6, V.vo_6, V.vd_7, V.vo_7, V.vd_8, V.vo_8, V.vd_9, V.vo_9, V.vd_10, V.vo_10, V.vd_11, V.vo_11, V.vd_12, V.vo_12, V.vd_13, V.vo_13, V.vd_14, V.vo_14, V.vd_15, V.vo_15, V.e_int, V.e_bool, V.e_none, V.e_str, V.e_glob, V.e_bin, V.e_not, V.e_and, V.e_or, V.e_cmp, V.e_chain, V.e_ife, V.e_tup, V.e_lst, V.e_ix, V.e_call, V.e_callK, V.e_bi, V.e_inst, V.e_comp, V.ng, V.e_neg, V.e_slU, V.e_slL, V.e_lrg1, V.e_lrg3, V.es_n, V.es_c, V.it_seq, V.it_r1, V.it_r2, V.it_en, V.it_zip, V.ss_n, V.ss_c, V.s_asgF, V.kp_d, V.kp_o, V.s_asg, V.s_par, V.s_parN, V.tp_d, V.s_unp, V.s_expr, V.s_ret, V.s_retN, V.s_ite, V.s_for, V.s_pass, V.s_brk, V.s_cont, V.fz_0, V.ow_0, V.ap_0, V.fz_1, V.ow_1, V.ap_1, V.fz_2, V.ow_2, V.ap_2, V.fz_3, V.ow_3, V.ap_3, V.fz_4, V.ow_4, V.ap_4, V.fz_5, V.ow_5, V.ap_5, V.fz_6, V.ow_6, V.ap_6, V.fz_7, V.ow_7, V.ap_7, V.fz_8, V.ow_8, V.ap_8, V.fz_9, V.ow_9, V.ap_9, V.fz_10, V.ow_10, V.ap_10, V.fz_11, V.ow_11, V.ap_11, V.fz_12, V.ow_12, V.ap_12, V.fz_13, V.ow_13, V.ap_13, V.fz_14, V.ow_14, V.ap_14, V.fz_15, V.ow_15, V.ap_15, getE, setE, setMany, setNils, isTy, tyOf, List.map_cons, List.map_nil, List.length_cons, List.length_nil, List.cons_append, List.nil_append, List.append_nil, Nat.reduceSub, Nat.reduceAdd, atI_0, atI_1, atI_2, call_W5, call_W4, call_W2, call_W2o, call_W1, call_W1o, call_W0, call_W3, call_L0, call_L1, call_L1o, call_L2, call_L3, Option.some.injEq, sp__law_counts_right, call_L5]
  refine ⟨n, s, t, i, j, a, b, due, rfl, ok, hd, hu, by omega, fun l1 hu1 => ?_⟩
  simp -implicitDefEqProofs only [V.rd_d, V.rd_o, V.rd_b, V.da_d, V.da_o, V.das_n, V.das_c, V.rds_n, V.rds_c, V.tr_b, V.tr_i, V.tr_n, V.tr_l, V.tr_t, V.tr_o, V.bn_add, V.bn_sub, V.bn_mul, V.bn_fdiv, V.bn_mod, V.bn_pow, V.bn_cat, V.cp_eq, V.cp_ne, V.cp_lt, V.cp_le, V.cp_gt, V.cp_ge, V.cp_in, V.cp_nin, V.is_n, V.isn_n, V.is_b, V.isn_b, V.is_i, V.isn_i, V.is_s, V.isn_s, V.is_l, V.isn_l, V.is_t, V.isn_t, V.is_bb, V.isn_bb, V.ix_l, V.ix_t, V.sl_l, V.bi_len, V.bi_lent, V.bi_abs, V.bi_max2, V.bi_min2, V.bi_int, V.bi_intb, V.bi_list, V.bi_listt, V.bi_tup, V.bi_tupt, V.bi_sum, V.bi_any, V.bi_all, V.bi_min1, V.bi_max1, V.bi_sorted, V.bi_repr, V.sq_d, V.sq_t, V.sq_o, V.ls_d, V.ls_o, V.tg_n, V.tg_t, V.vd_0, V.vo_0, V.vd_1, V.vo_1, V.vd_2, V.vo_2, V.vd_3, V.vo_3, V.vd_4, V.vo_4, V.vd_5, V.vo_5, V.vd_6, V.vo_6, V.vd_7, V.vo_7, V.vd_8, V.vo_8, V.vd_9, V.vo_9, V.vd_10, V.vo_10, V.vd_11, V.vo_11, V.vd_12, V.vo_12, V.vd_13, V.vo_13, V.vd_14, V.vo_14, V.vd_15, V.vo_15, V.e_int, V.e_bool, V.e_none, V.e_str, V.e_glob, V.e_bin, V.e_not, V.e_and, V.e_or, V.e_cmp, V.e_chain, V.e_ife, V.e_tup, V.e_lst, V.e_ix, V.e_call, V.e_callK, V.e_bi, V.e_inst, V.e_comp, V.ng, V.e_neg, V.e_slU, V.e_slL, V.e_lrg1, V.e_lrg3, V.es_n, V.es_c, V.it_seq, V.it_r1, V.it_r2, V.it_en, V.it_zip, V.ss_n, V.ss_c, V.s_asgF, V.kp_d, V.kp_o, V.s_asg, V.s_par, V.s_parN, V.tp_d, V.s_unp, V.s_expr, V.s_ret, V.s_retN, V.s_ite, V.s_for, V.s_pass, V.s_brk, V.s_cont, V.fz_0, V.ow_0, V.ap_0, V.fz_1, V.ow_1, V.ap_1, V.fz_2, V.ow_2, V.ap_2, V.fz_3, V.ow_3, V.ap_3, V.fz_4, V.ow_4, V.ap_4, V.fz_5, V.ow_5, V.ap_5, V.fz_6, V.ow_6, V.ap_6, V.fz_7, V.ow_7, V.ap_7, V.fz_8, V.ow_8, V.ap_8, V.fz_9, V.ow_9, V.ap_9, V.fz_10, V.ow_10, V.ap_10, V.fz_11, V.ow_11, V.ap_11, V.fz_12, V.ow_12, V.ap_12, V.fz_13, V.ow_13, V.ap_13, V.fz_14, V.ow_14, V.ap_14, V.fz_15, V.ow_15, V.ap_15, getE, setE, setMany, setNils, isTy, tyOf, List.map_cons, List.map_nil, List.length_cons, List.length_nil, List.cons_append, List.nil_append, List.append_nil, Nat.reduceSub, Nat.reduceAdd, atI_0, atI_1, atI_2, call_W5, call_W4, call_W2, call_W2o, call_W1, call_W1o, call_W0, call_W3, call_L0, call_L1, call_L1o, call_L2, call_L3, Option.some.injEq, Bool.not_true, Bool.false_eq_true, if_false]
  unfold b__law_right_19
  simp -implicitDefEqProofs only [V.rd_d, V.rd_o, V.rd_b, V.da_d, V.da_o, V.das_n, V.das_c, V.rds_n, V.rds_c, V.tr_b, V.tr_i, V.tr_n, V.tr_l, V.tr_t, V.tr_o, V.bn_add, V.bn_sub, V.bn_mul, V.bn_fdiv, V.bn_mod, V.bn_pow, V.bn_cat, V.cp_eq, V.cp_ne, V.cp_lt, V.cp_le, V.cp_gt, V.cp_ge, V.cp_in, V.cp_nin, V.is_n, V.isn_n, V.is_b, V.isn_b, V.is_i, V.isn_i, V.is_s, V.isn_s, V.is_l, V.isn_l, V.is_t, V.isn_t, V.is_bb, V.isn_bb, V.ix_l, V.ix_t, V.sl_l, V.bi_len, V.bi_lent, V.bi_abs, V.bi_max2, V.bi_min2, V.bi_int, V.bi_intb, V.bi_list, V.bi_listt, V.bi_tup, V.bi_tupt, V.bi_sum, V.bi_any, V.bi_all, V.bi_min1, V.bi_max1, V.bi_sorted, V.bi_repr, V.sq_d, V.sq_t, V.sq_o, V.ls_d, V.ls_o, V.tg_n, V.tg_t, V.vd_0, V.vo_0, V.vd_1, V.vo_1, V.vd_2, V.vo_2, V.vd_3, V.vo_3, V.vd_4, V.vo_4, V.vd_5, V.vo_5, V.vd_6, V.vo_6, V.vd_7, V.vo_7, V.vd_8, V.vo_8, V.vd_9, V.vo_9, V.vd_10, V.vo_10, V.vd_11, V.vo_11, V.vd_12, V.vo_12, V.vd_13, V.vo_13, V.vd_14, V.vo_14, V.vd_15, V.vo_15, V.e_int, V.e_bool, V.e_none, V.e_str, V.e_glob, V.e_bin, V.e_not, V.e_and, V.e_or, V.e_cmp, V.e_chain, V.e_ife, V.e_tup, V.e_lst, V.e_ix, V.e_call, V.e_callK, V.e_bi, V.e_inst, V.e_comp, V.ng, V.e_neg, V.e_slU, V.e_slL, V.e_lrg1, V.e_lrg3, V.es_n, V.es_c, V.it_seq, V.it_r1, V.it_r2, V.it_en, V.it_zip, V.ss_n, V.ss_c, V.s_asgF, V.kp_d, V.kp_o, V.s_asg, V.s_par, V.s_parN, V.tp_d, V.s_unp, V.s_expr, V.s_ret, V.s_retN, V.s_ite, V.s_for, V.s_pass, V.s_brk, V.s_cont, V.fz_0, V.ow_0, V.ap_0, V.fz_1, V.ow_1, V.ap_1, V.fz_2, V.ow_2, V.ap_2, V.fz_3, V.ow_3, V.ap_3, V.fz_4, V.ow_4, V.ap_4, V.fz_5, V.ow_5, V.ap_5, V.fz_6, V.ow_6, V.ap_6, V.fz_7, V.ow_7, V.ap_7, V.fz_8, V.ow_8, V.ap_8, V.fz_9, V.ow_9, V.ap_9, V.fz_10, V.ow_10, V.ap_10, V.fz_11, V.ow_11, V.ap_11, V.fz_12, V.ow_12, V.ap_12, V.fz_13, V.ow_13, V.ap_13, V.fz_14, V.ow_14, V.ap_14, V.fz_15, V.ow_15, V.ap_15, getE, setE, setMany, setNils, isTy, tyOf, List.map_cons, List.map_nil, List.length_cons, List.length_nil, List.cons_append, List.nil_append, List.append_nil, Nat.reduceSub, Nat.reduceAdd, atI_0, atI_1, atI_2, call_W5, call_W4, call_W2, call_W2o, call_W1, call_W1o, call_W0, call_W3, call_L0, call_L1, call_L1o, call_L2, call_L3, Option.some.injEq, sp__law_turned_right, call_L5]
  exact ⟨n + 2, s, t, i, j, a, b, due, rfl, ok, hd, hu1, by omega, fun l2 hu2 => h _ _ rfl⟩
theorem t16 (ok : okM s t i j a b) (hd : dueOk s t i j a b due) (hu : Urn n l) (hn : n < 1000) (h : ∀ l' env, getE env 0 = some (.o l') → D.rt (.d (.bool true)) env) : wSs X0 b__law_right_16 (RE l m s t i j a b (some (.d due)) told sm fd) D := by
  obtain ⟨Lp, Ll⟩ := iL_pos ok
  obtain ⟨h1, h2, _⟩ := ok
  have sp : 0 < s := by omega
  have tp : 0 < t := by omega
  have sz20 : ∀ x : Int, 0 ≤ x → x ≤ 1000 → sz 20 x := fun x h1 h2 => by unfold sz; omega
  have mk : mulOk s t := (sz20 s (by omega) (by omega)).mulOk (sz20 t (by omega) (by omega)) (by decide)
  have hl := rows_len (s := s) (t := t) (i := i) (j := j) (n := lcm2 s t) (by omega)
  unfold b__law_right_16
  simp -implicitDefEqProofs only [RE, V.rd_d, V.rd_o, V.rd_b, V.da_d, V.da_o, V.das_n, V.das_c, V.rds_n, V.rds_c, V.tr_b, V.tr_i, V.tr_n, V.tr_l, V.tr_t, V.tr_o, V.bn_add, V.bn_sub, V.bn_mul, V.bn_fdiv, V.bn_mod, V.bn_pow, V.bn_cat, V.cp_eq, V.cp_ne, V.cp_lt, V.cp_le, V.cp_gt, V.cp_ge, V.cp_in, V.cp_nin, V.is_n, V.isn_n, V.is_b, V.isn_b, V.is_i, V.isn_i, V.is_s, V.isn_s, V.is_l, V.isn_l, V.is_t, V.isn_t, V.is_bb, V.isn_bb, V.ix_l, V.ix_t, V.sl_l, V.bi_len, V.bi_lent, V.bi_abs, V.bi_max2, V.bi_min2, V.bi_int, V.bi_intb, V.bi_list, V.bi_listt, V.bi_tup, V.bi_tupt, V.bi_sum, V.bi_any, V.bi_all, V.bi_min1, V.bi_max1, V.bi_sorted, V.bi_repr, V.sq_d, V.sq_t, V.sq_o, V.ls_d, V.ls_o, V.tg_n, V.tg_t, V.vd_0, V.vo_0, V.vd_1, V.vo_1, V.vd_2, V.vo_2, V.vd_3, V.vo_3, V.vd_4, V.vo_4, V.vd_5, V.vo_5, V.vd_6, V.vo_6, V.vd_7, V.vo_7, V.vd_8, V.vo_8, V.vd_9, V.vo_9, V.vd_10, V.vo_10, V.vd_11, V.vo_11, V.vd_12, V.vo_12, V.vd_13, V.vo_13, V.vd_14, V.vo_14, V.vd_15, V.vo_15, V.e_int, V.e_bool, V.e_none, V.e_str, V.e_glob, V.e_bin, V.e_not, V.e_and, V.e_or, V.e_cmp, V.e_chain, V.e_ife, V.e_tup, V.e_lst, V.e_ix, V.e_call, V.e_callK, V.e_bi, V.e_inst, V.e_comp, V.ng, V.e_neg, V.e_slU, V.e_slL, V.e_lrg1, V.e_lrg3, V.es_n, V.es_c, V.it_seq, V.it_r1, V.it_r2, V.it_en, V.it_zip, V.ss_n, V.ss_c, V.s_asgF, V.kp_d, V.kp_o, V.s_asg, V.s_par, V.s_parN, V.tp_d, V.s_unp, V.s_expr, V.s_ret, V.s_retN, V.s_ite, V.s_for, V.s_pass, V.s_brk, V.s_cont, V.fz_0, V.ow_0, V.ap_0, V.fz_1, V.ow_1, V.ap_1, V.fz_2, V.ow_2, V.ap_2, V.fz_3, V.ow_3, V.ap_3, V.fz_4, V.ow_4, V.ap_4, V.fz_5, V.ow_5, V.ap_5, V.fz_6, V.ow_6, V.ap_6, V.fz_7, V.ow_7, V.ap_7, V.fz_8, V.ow_8, V.ap_8, V.fz_9, V.ow_9, V.ap_9, V.fz_10, V.ow_10, V.ap_10, V.fz_11, V.ow_11, V.ap_11, V.fz_12, V.ow_12, V.ap_12, V.fz_13, V.ow_13, V.ap_13, V.fz_14, V.ow_14, V.ap_14, V.fz_15, V.ow_15, V.ap_15, getE, setE, setMany, setNils, isTy, tyOf, List.map_cons, List.map_nil, List.length_cons, List.length_nil, List.cons_append, List.nil_append, List.append_nil, Nat.reduceSub, Nat.reduceAdd, atI_0, atI_1, atI_2, call_W5, call_W4, call_W2, call_W2o, call_W1, call_W1o, call_W0, call_W3, call_L0, call_L1, call_L1o, call_L2, call_L3, Option.some.injEq, ro_st, sp_pairs_met, w_pairs_met, hl]
  refine ⟨⟨h2, h1⟩, rfl, rfl, ?_⟩
  rw [lcm2_comm sp tp, if_neg (by simp [PyData.eqv])]
  simp -implicitDefEqProofs only [V.rd_d, V.rd_o, V.rd_b, V.da_d, V.da_o, V.das_n, V.das_c, V.rds_n, V.rds_c, V.tr_b, V.tr_i, V.tr_n, V.tr_l, V.tr_t, V.tr_o, V.bn_add, V.bn_sub, V.bn_mul, V.bn_fdiv, V.bn_mod, V.bn_pow, V.bn_cat, V.cp_eq, V.cp_ne, V.cp_lt, V.cp_le, V.cp_gt, V.cp_ge, V.cp_in, V.cp_nin, V.is_n, V.isn_n, V.is_b, V.isn_b, V.is_i, V.isn_i, V.is_s, V.isn_s, V.is_l, V.isn_l, V.is_t, V.isn_t, V.is_bb, V.isn_bb, V.ix_l, V.ix_t, V.sl_l, V.bi_len, V.bi_lent, V.bi_abs, V.bi_max2, V.bi_min2, V.bi_int, V.bi_intb, V.bi_list, V.bi_listt, V.bi_tup, V.bi_tupt, V.bi_sum, V.bi_any, V.bi_all, V.bi_min1, V.bi_max1, V.bi_sorted, V.bi_repr, V.sq_d, V.sq_t, V.sq_o, V.ls_d, V.ls_o, V.tg_n, V.tg_t, V.vd_0, V.vo_0, V.vd_1, V.vo_1, V.vd_2, V.vo_2, V.vd_3, V.vo_3, V.vd_4, V.vo_4, V.vd_5, V.vo_5, V.vd_6, V.vo_6, V.vd_7, V.vo_7, V.vd_8, V.vo_8, V.vd_9, V.vo_9, V.vd_10, V.vo_10, V.vd_11, V.vo_11, V.vd_12, V.vo_12, V.vd_13, V.vo_13, V.vd_14, V.vo_14, V.vd_15, V.vo_15, V.e_int, V.e_bool, V.e_none, V.e_str, V.e_glob, V.e_bin, V.e_not, V.e_and, V.e_or, V.e_cmp, V.e_chain, V.e_ife, V.e_tup, V.e_lst, V.e_ix, V.e_call, V.e_callK, V.e_bi, V.e_inst, V.e_comp, V.ng, V.e_neg, V.e_slU, V.e_slL, V.e_lrg1, V.e_lrg3, V.es_n, V.es_c, V.it_seq, V.it_r1, V.it_r2, V.it_en, V.it_zip, V.ss_n, V.ss_c, V.s_asgF, V.kp_d, V.kp_o, V.s_asg, V.s_par, V.s_parN, V.tp_d, V.s_unp, V.s_expr, V.s_ret, V.s_retN, V.s_ite, V.s_for, V.s_pass, V.s_brk, V.s_cont, V.fz_0, V.ow_0, V.ap_0, V.fz_1, V.ow_1, V.ap_1, V.fz_2, V.ow_2, V.ap_2, V.fz_3, V.ow_3, V.ap_3, V.fz_4, V.ow_4, V.ap_4, V.fz_5, V.ow_5, V.ap_5, V.fz_6, V.ow_6, V.ap_6, V.fz_7, V.ow_7, V.ap_7, V.fz_8, V.ow_8, V.ap_8, V.fz_9, V.ow_9, V.ap_9, V.fz_10, V.ow_10, V.ap_10, V.fz_11, V.ow_11, V.ap_11, V.fz_12, V.ow_12, V.ap_12, V.fz_13, V.ow_13, V.ap_13, V.fz_14, V.ow_14, V.ap_14, V.fz_15, V.ow_15, V.ap_15, getE, setE, setMany, setNils, isTy, tyOf, List.map_cons, List.map_nil, List.length_cons, List.length_nil, List.cons_append, List.nil_append, List.append_nil, Nat.reduceSub, Nat.reduceAdd, atI_0, atI_1, atI_2, call_W5, call_W4, call_W2, call_W2o, call_W1, call_W1o, call_W0, call_W3, call_L0, call_L1, call_L1o, call_L2, call_L3, Option.some.injEq, sp_is_even, w_is_even, hl]
  refine ⟨⟨h1.1, h2.1⟩, mk, rfl, rfl, ?_⟩
  simp -implicitDefEqProofs only [V.rd_d, V.rd_o, V.rd_b, V.da_d, V.da_o, V.das_n, V.das_c, V.rds_n, V.rds_c, V.tr_b, V.tr_i, V.tr_n, V.tr_l, V.tr_t, V.tr_o, V.bn_add, V.bn_sub, V.bn_mul, V.bn_fdiv, V.bn_mod, V.bn_pow, V.bn_cat, V.cp_eq, V.cp_ne, V.cp_lt, V.cp_le, V.cp_gt, V.cp_ge, V.cp_in, V.cp_nin, V.is_n, V.isn_n, V.is_b, V.isn_b, V.is_i, V.isn_i, V.is_s, V.isn_s, V.is_l, V.isn_l, V.is_t, V.isn_t, V.is_bb, V.isn_bb, V.ix_l, V.ix_t, V.sl_l, V.bi_len, V.bi_lent, V.bi_abs, V.bi_max2, V.bi_min2, V.bi_int, V.bi_intb, V.bi_list, V.bi_listt, V.bi_tup, V.bi_tupt, V.bi_sum, V.bi_any, V.bi_all, V.bi_min1, V.bi_max1, V.bi_sorted, V.bi_repr, V.sq_d, V.sq_t, V.sq_o, V.ls_d, V.ls_o, V.tg_n, V.tg_t, V.vd_0, V.vo_0, V.vd_1, V.vo_1, V.vd_2, V.vo_2, V.vd_3, V.vo_3, V.vd_4, V.vo_4, V.vd_5, V.vo_5, V.vd_6, V.vo_6, V.vd_7, V.vo_7, V.vd_8, V.vo_8, V.vd_9, V.vo_9, V.vd_10, V.vo_10, V.vd_11, V.vo_11, V.vd_12, V.vo_12, V.vd_13, V.vo_13, V.vd_14, V.vo_14, V.vd_15, V.vo_15, V.e_int, V.e_bool, V.e_none, V.e_str, V.e_glob, V.e_bin, V.e_not, V.e_and, V.e_or, V.e_cmp, V.e_chain, V.e_ife, V.e_tup, V.e_lst, V.e_ix, V.e_call, V.e_callK, V.e_bi, V.e_inst, V.e_comp, V.ng, V.e_neg, V.e_slU, V.e_slL, V.e_lrg1, V.e_lrg3, V.es_n, V.es_c, V.it_seq, V.it_r1, V.it_r2, V.it_en, V.it_zip, V.ss_n, V.ss_c, V.s_asgF, V.kp_d, V.kp_o, V.s_asg, V.s_par, V.s_parN, V.tp_d, V.s_unp, V.s_expr, V.s_ret, V.s_retN, V.s_ite, V.s_for, V.s_pass, V.s_brk, V.s_cont, V.fz_0, V.ow_0, V.ap_0, V.fz_1, V.ow_1, V.ap_1, V.fz_2, V.ow_2, V.ap_2, V.fz_3, V.ow_3, V.ap_3, V.fz_4, V.ow_4, V.ap_4, V.fz_5, V.ow_5, V.ap_5, V.fz_6, V.ow_6, V.ap_6, V.fz_7, V.ow_7, V.ap_7, V.fz_8, V.ow_8, V.ap_8, V.fz_9, V.ow_9, V.ap_9, V.fz_10, V.ow_10, V.ap_10, V.fz_11, V.ow_11, V.ap_11, V.fz_12, V.ow_12, V.ap_12, V.fz_13, V.ow_13, V.ap_13, V.fz_14, V.ow_14, V.ap_14, V.fz_15, V.ow_15, V.ap_15, getE, setE, setMany, setNils, isTy, tyOf, List.map_cons, List.map_nil, List.length_cons, List.length_nil, List.cons_append, List.nil_append, List.append_nil, Nat.reduceSub, Nat.reduceAdd, atI_0, atI_1, atI_2, call_W5, call_W4, call_W2, call_W2o, call_W1, call_W1o, call_W0, call_W3, call_L0, call_L1, call_L1o, call_L2, call_L3, Option.some.injEq, sp__law_says, w__law_says]
  refine ⟨gcd_one sp tp, ?_⟩
  simp -implicitDefEqProofs only [V.rd_d, V.rd_o, V.rd_b, V.da_d, V.da_o, V.das_n, V.das_c, V.rds_n, V.rds_c, V.tr_b, V.tr_i, V.tr_n, V.tr_l, V.tr_t, V.tr_o, V.bn_add, V.bn_sub, V.bn_mul, V.bn_fdiv, V.bn_mod, V.bn_pow, V.bn_cat, V.cp_eq, V.cp_ne, V.cp_lt, V.cp_le, V.cp_gt, V.cp_ge, V.cp_in, V.cp_nin, V.is_n, V.isn_n, V.is_b, V.isn_b, V.is_i, V.isn_i, V.is_s, V.isn_s, V.is_l, V.isn_l, V.is_t, V.isn_t, V.is_bb, V.isn_bb, V.ix_l, V.ix_t, V.sl_l, V.bi_len, V.bi_lent, V.bi_abs, V.bi_max2, V.bi_min2, V.bi_int, V.bi_intb, V.bi_list, V.bi_listt, V.bi_tup, V.bi_tupt, V.bi_sum, V.bi_any, V.bi_all, V.bi_min1, V.bi_max1, V.bi_sorted, V.bi_repr, V.sq_d, V.sq_t, V.sq_o, V.ls_d, V.ls_o, V.tg_n, V.tg_t, V.vd_0, V.vo_0, V.vd_1, V.vo_1, V.vd_2, V.vo_2, V.vd_3, V.vo_3, V.vd_4, V.vo_4, V.vd_5, V.vo_5, V.vd_6, V.vo_6, V.vd_7, V.vo_7, V.vd_8, V.vo_8, V.vd_9, V.vo_9, V.vd_10, V.vo_10, V.vd_11, V.vo_11, V.vd_12, V.vo_12, V.vd_13, V.vo_13, V.vd_14, V.vo_14, V.vd_15, V.vo_15, V.e_int, V.e_bool, V.e_none, V.e_str, V.e_glob, V.e_bin, V.e_not, V.e_and, V.e_or, V.e_cmp, V.e_chain, V.e_ife, V.e_tup, V.e_lst, V.e_ix, V.e_call, V.e_callK, V.e_bi, V.e_inst, V.e_comp, V.ng, V.e_neg, V.e_slU, V.e_slL, V.e_lrg1, V.e_lrg3, V.es_n, V.es_c, V.it_seq, V.it_r1, V.it_r2, V.it_en, V.it_zip, V.ss_n, V.ss_c, V.s_asgF, V.kp_d, V.kp_o, V.s_asg, V.s_par, V.s_parN, V.tp_d, V.s_unp, V.s_expr, V.s_ret, V.s_retN, V.s_ite, V.s_for, V.s_pass, V.s_brk, V.s_cont, V.fz_0, V.ow_0, V.ap_0, V.fz_1, V.ow_1, V.ap_1, V.fz_2, V.ow_2, V.ap_2, V.fz_3, V.ow_3, V.ap_3, V.fz_4, V.ow_4, V.ap_4, V.fz_5, V.ow_5, V.ap_5, V.fz_6, V.ow_6, V.ap_6, V.fz_7, V.ow_7, V.ap_7, V.fz_8, V.ow_8, V.ap_8, V.fz_9, V.ow_9, V.ap_9, V.fz_10, V.ow_10, V.ap_10, V.fz_11, V.ow_11, V.ap_11, V.fz_12, V.ow_12, V.ap_12, V.fz_13, V.ow_13, V.ap_13, V.fz_14, V.ow_14, V.ap_14, V.fz_15, V.ow_15, V.ap_15, getE, setE, setMany, setNils, isTy, tyOf, List.map_cons, List.map_nil, List.length_cons, List.length_nil, List.cons_append, List.nil_append, List.append_nil, Nat.reduceSub, Nat.reduceAdd, atI_0, atI_1, atI_2, call_W5, call_W4, call_W2, call_W2o, call_W1, call_W1o, call_W0, call_W3, call_L0, call_L1, call_L1o, call_L2, call_L3, Option.some.injEq, Bool.not_true, Bool.false_eq_true, if_false]
  unfold b__law_right_17
  simp -implicitDefEqProofs only [V.rd_d, V.rd_o, V.rd_b, V.da_d, V.da_o, V.das_n, V.das_c, V.rds_n, V.rds_c, V.tr_b, V.tr_i, V.tr_n, V.tr_l, V.tr_t, V.tr_o, V.bn_add, V.bn_sub, V.bn_mul, V.bn_fdiv, V.bn_mod, V.bn_pow, V.bn_cat, V.cp_eq, V.cp_ne, V.cp_lt, V.cp_le, V.cp_gt, V.cp_ge, V.cp_in, V.cp_nin, V.is_n, V.isn_n, V.is_b, V.isn_b, V.is_i, V.isn_i, V.is_s, V.isn_s, V.is_l, V.isn_l, V.is_t, V.isn_t, V.is_bb, V.isn_bb, V.ix_l, V.ix_t, V.sl_l, V.bi_len, V.bi_lent, V.bi_abs, V.bi_max2, V.bi_min2, V.bi_int, V.bi_intb, V.bi_list, V.bi_listt, V.bi_tup, V.bi_tupt, V.bi_sum, V.bi_any, V.bi_all, V.bi_min1, V.bi_max1, V.bi_sorted, V.bi_repr, V.sq_d, V.sq_t, V.sq_o, V.ls_d, V.ls_o, V.tg_n, V.tg_t, V.vd_0, V.vo_0, V.vd_1, V.vo_1, V.vd_2, V.vo_2, V.vd_3, V.vo_3, V.vd_4, V.vo_4, V.vd_5, V.vo_5, V.vd_6, V.vo_6, V.vd_7, V.vo_7, V.vd_8, V.vo_8, V.vd_9, V.vo_9, V.vd_10, V.vo_10, V.vd_11, V.vo_11, V.vd_12, V.vo_12, V.vd_13, V.vo_13, V.vd_14, V.vo_14, V.vd_15, V.vo_15, V.e_int, V.e_bool, V.e_none, V.e_str, V.e_glob, V.e_bin, V.e_not, V.e_and, V.e_or, V.e_cmp, V.e_chain, V.e_ife, V.e_tup, V.e_lst, V.e_ix, V.e_call, V.e_callK, V.e_bi, V.e_inst, V.e_comp, V.ng, V.e_neg, V.e_slU, V.e_slL, V.e_lrg1, V.e_lrg3, V.es_n, V.es_c, V.it_seq, V.it_r1, V.it_r2, V.it_en, V.it_zip, V.ss_n, V.ss_c, V.s_asgF, V.kp_d, V.kp_o, V.s_asg, V.s_par, V.s_parN, V.tp_d, V.s_unp, V.s_expr, V.s_ret, V.s_retN, V.s_ite, V.s_for, V.s_pass, V.s_brk, V.s_cont, V.fz_0, V.ow_0, V.ap_0, V.fz_1, V.ow_1, V.ap_1, V.fz_2, V.ow_2, V.ap_2, V.fz_3, V.ow_3, V.ap_3, V.fz_4, V.ow_4, V.ap_4, V.fz_5, V.ow_5, V.ap_5, V.fz_6, V.ow_6, V.ap_6, V.fz_7, V.ow_7, V.ap_7, V.fz_8, V.ow_8, V.ap_8, V.fz_9, V.ow_9, V.ap_9, V.fz_10, V.ow_10, V.ap_10, V.fz_11, V.ow_11, V.ap_11, V.fz_12, V.ow_12, V.ap_12, V.fz_13, V.ow_13, V.ap_13, V.fz_14, V.ow_14, V.ap_14, V.fz_15, V.ow_15, V.ap_15, getE, setE, setMany, setNils, isTy, tyOf, List.map_cons, List.map_nil, List.length_cons, List.length_nil, List.cons_append, List.nil_append, List.append_nil, Nat.reduceSub, Nat.reduceAdd, atI_0, atI_1, atI_2, call_W5, call_W4, call_W2, call_W2o, call_W1, call_W1o, call_W0, call_W3, call_L0, call_L1, call_L1o, call_L2, call_L3, Option.some.injEq, ro_st, sp_is_even, w_is_even, hl]
  refine ⟨⟨h2.1, h1.1⟩, mk, rfl, rfl, ?_⟩
  simp -implicitDefEqProofs only [V.rd_d, V.rd_o, V.rd_b, V.da_d, V.da_o, V.das_n, V.das_c, V.rds_n, V.rds_c, V.tr_b, V.tr_i, V.tr_n, V.tr_l, V.tr_t, V.tr_o, V.bn_add, V.bn_sub, V.bn_mul, V.bn_fdiv, V.bn_mod, V.bn_pow, V.bn_cat, V.cp_eq, V.cp_ne, V.cp_lt, V.cp_le, V.cp_gt, V.cp_ge, V.cp_in, V.cp_nin, V.is_n, V.isn_n, V.is_b, V.isn_b, V.is_i, V.isn_i, V.is_s, V.isn_s, V.is_l, V.isn_l, V.is_t, V.isn_t, V.is_bb, V.isn_bb, V.ix_l, V.ix_t, V.sl_l, V.bi_len, V.bi_lent, V.bi_abs, V.bi_max2, V.bi_min2, V.bi_int, V.bi_intb, V.bi_list, V.bi_listt, V.bi_tup, V.bi_tupt, V.bi_sum, V.bi_any, V.bi_all, V.bi_min1, V.bi_max1, V.bi_sorted, V.bi_repr, V.sq_d, V.sq_t, V.sq_o, V.ls_d, V.ls_o, V.tg_n, V.tg_t, V.vd_0, V.vo_0, V.vd_1, V.vo_1, V.vd_2, V.vo_2, V.vd_3, V.vo_3, V.vd_4, V.vo_4, V.vd_5, V.vo_5, V.vd_6, V.vo_6, V.vd_7, V.vo_7, V.vd_8, V.vo_8, V.vd_9, V.vo_9, V.vd_10, V.vo_10, V.vd_11, V.vo_11, V.vd_12, V.vo_12, V.vd_13, V.vo_13, V.vd_14, V.vo_14, V.vd_15, V.vo_15, V.e_int, V.e_bool, V.e_none, V.e_str, V.e_glob, V.e_bin, V.e_not, V.e_and, V.e_or, V.e_cmp, V.e_chain, V.e_ife, V.e_tup, V.e_lst, V.e_ix, V.e_call, V.e_callK, V.e_bi, V.e_inst, V.e_comp, V.ng, V.e_neg, V.e_slU, V.e_slL, V.e_lrg1, V.e_lrg3, V.es_n, V.es_c, V.it_seq, V.it_r1, V.it_r2, V.it_en, V.it_zip, V.ss_n, V.ss_c, V.s_asgF, V.kp_d, V.kp_o, V.s_asg, V.s_par, V.s_parN, V.tp_d, V.s_unp, V.s_expr, V.s_ret, V.s_retN, V.s_ite, V.s_for, V.s_pass, V.s_brk, V.s_cont, V.fz_0, V.ow_0, V.ap_0, V.fz_1, V.ow_1, V.ap_1, V.fz_2, V.ow_2, V.ap_2, V.fz_3, V.ow_3, V.ap_3, V.fz_4, V.ow_4, V.ap_4, V.fz_5, V.ow_5, V.ap_5, V.fz_6, V.ow_6, V.ap_6, V.fz_7, V.ow_7, V.ap_7, V.fz_8, V.ow_8, V.ap_8, V.fz_9, V.ow_9, V.ap_9, V.fz_10, V.ow_10, V.ap_10, V.fz_11, V.ow_11, V.ap_11, V.fz_12, V.ow_12, V.ap_12, V.fz_13, V.ow_13, V.ap_13, V.fz_14, V.ow_14, V.ap_14, V.fz_15, V.ow_15, V.ap_15, getE, setE, setMany, setNils, isTy, tyOf, List.map_cons, List.map_nil, List.length_cons, List.length_nil, List.cons_append, List.nil_append, List.append_nil, Nat.reduceSub, Nat.reduceAdd, atI_0, atI_1, atI_2, call_W5, call_W4, call_W2, call_W2o, call_W1, call_W1o, call_W0, call_W3, call_L0, call_L1, call_L1o, call_L2, call_L3, Option.some.injEq, sp__law_says, w__law_says]
  refine ⟨by rw [Int.gcd_comm]; exact gcd_one sp tp, ?_⟩
  simp -implicitDefEqProofs only [V.rd_d, V.rd_o, V.rd_b, V.da_d, V.da_o, V.das_n, V.das_c, V.rds_n, V.rds_c, V.tr_b, V.tr_i, V.tr_n, V.tr_l, V.tr_t, V.tr_o, V.bn_add, V.bn_sub, V.bn_mul, V.bn_fdiv, V.bn_mod, V.bn_pow, V.bn_cat, V.cp_eq, V.cp_ne, V.cp_lt, V.cp_le, V.cp_gt, V.cp_ge, V.cp_in, V.cp_nin, V.is_n, V.isn_n, V.is_b, V.isn_b, V.is_i, V.isn_i, V.is_s, V.isn_s, V.is_l, V.isn_l, V.is_t, V.isn_t, V.is_bb, V.isn_bb, V.ix_l, V.ix_t, V.sl_l, V.bi_len, V.bi_lent, V.bi_abs, V.bi_max2, V.bi_min2, V.bi_int, V.bi_intb, V.bi_list, V.bi_listt, V.bi_tup, V.bi_tupt, V.bi_sum, V.bi_any, V.bi_all, V.bi_min1, V.bi_max1, V.bi_sorted, V.bi_repr, V.sq_d, V.sq_t, V.sq_o, V.ls_d, V.ls_o, V.tg_n, V.tg_t, V.vd_0, V.vo_0, V.vd_1, V.vo_1, V.vd_2, V.vo_2, V.vd_3, V.vo_3, V.vd_4, V.vo_4, V.vd_5, V.vo_5, V.vd_6, V.vo_6, V.vd_7, V.vo_7, V.vd_8, V.vo_8, V.vd_9, V.vo_9, V.vd_10, V.vo_10, V.vd_11, V.vo_11, V.vd_12, V.vo_12, V.vd_13, V.vo_13, V.vd_14, V.vo_14, V.vd_15, V.vo_15, V.e_int, V.e_bool, V.e_none, V.e_str, V.e_glob, V.e_bin, V.e_not, V.e_and, V.e_or, V.e_cmp, V.e_chain, V.e_ife, V.e_tup, V.e_lst, V.e_ix, V.e_call, V.e_callK, V.e_bi, V.e_inst, V.e_comp, V.ng, V.e_neg, V.e_slU, V.e_slL, V.e_lrg1, V.e_lrg3, V.es_n, V.es_c, V.it_seq, V.it_r1, V.it_r2, V.it_en, V.it_zip, V.ss_n, V.ss_c, V.s_asgF, V.kp_d, V.kp_o, V.s_asg, V.s_par, V.s_parN, V.tp_d, V.s_unp, V.s_expr, V.s_ret, V.s_retN, V.s_ite, V.s_for, V.s_pass, V.s_brk, V.s_cont, V.fz_0, V.ow_0, V.ap_0, V.fz_1, V.ow_1, V.ap_1, V.fz_2, V.ow_2, V.ap_2, V.fz_3, V.ow_3, V.ap_3, V.fz_4, V.ow_4, V.ap_4, V.fz_5, V.ow_5, V.ap_5, V.fz_6, V.ow_6, V.ap_6, V.fz_7, V.ow_7, V.ap_7, V.fz_8, V.ow_8, V.ap_8, V.fz_9, V.ow_9, V.ap_9, V.fz_10, V.ow_10, V.ap_10, V.fz_11, V.ow_11, V.ap_11, V.fz_12, V.ow_12, V.ap_12, V.fz_13, V.ow_13, V.ap_13, V.fz_14, V.ow_14, V.ap_14, V.fz_15, V.ow_15, V.ap_15, getE, setE, setMany, setNils, isTy, tyOf, List.map_cons, List.map_nil, List.length_cons, List.length_nil, List.cons_append, List.nil_append, List.append_nil, Nat.reduceSub, Nat.reduceAdd, atI_0, atI_1, atI_2, call_W5, call_W4, call_W2, call_W2o, call_W1, call_W1o, call_W0, call_W3, call_L0, call_L1, call_L1o, call_L2, call_L3, Option.some.injEq, Bool.not_true, Bool.false_eq_true, if_false]
  exact t18 ⟨h1, h2, by assumption⟩ hd hu hn h
abbrev ptL (s t i j a : Int) : List Int := pts ((i + j - a) % (Int.gcd s t : Int)) t (Int.gcd s t)
theorem eqv_ints (xs : List Int) : PyData.eqv (.list (xs.map .int)) (.list (xs.map .int)) = true := by
  simp only [PyData.eqv]
  refine eqvAll_same fun x hx => ?_
  obtain ⟨i, _, rfl⟩ := List.mem_map.mp hx
  simp [PyData.eqv]
theorem t10 (ok : okM s t i j a b) (hd : dueOk s t i j a b due) (hu : Urn n l) (hn : n < 1000) (h : ∀ l' env, getE env 0 = some (.o l') → D.rt (.d (.bool true)) env) : wSs X0 b__law_right_11 (RE l m s t i j a b (some (.d due)) told (some (.d (.list ((ptL s t i j a).map .int)))) none) D := by
  obtain ⟨Lp, Ll⟩ := iL_pos ok
  have ok' := ok
  obtain ⟨h1, h2, h3, h4, h5, h6⟩ := ok
  have sp : 0 < s := by omega
  have tp : 0 < t := by omega
  have gp := gcd_posR (u := s) tp
  have gl := gcd_leR (u := s) tp
  have hl := rows_len (s := s) (t := t) (i := i) (j := j) (n := lcm2 s t) (by omega)
  have oka : okM s t i j a 0 := ⟨h1, h2, h3, h4, h5, by omega, by omega⟩
  have ok0 : okM s t i j 0 0 := ⟨h1, h2, h3, h4, ⟨by omega, by omega⟩, by omega, by omega⟩
  unfold b__law_right_11
  simp -implicitDefEqProofs only [RE, ptL, V.rd_d, V.rd_o, V.rd_b, V.da_d, V.da_o, V.das_n, V.das_c, V.rds_n, V.rds_c, V.tr_b, V.tr_i, V.tr_n, V.tr_l, V.tr_t, V.tr_o, V.bn_add, V.bn_sub, V.bn_mul, V.bn_fdiv, V.bn_mod, V.bn_pow, V.bn_cat, V.cp_eq, V.cp_ne, V.cp_lt, V.cp_le, V.cp_gt, V.cp_ge, V.cp_in, V.cp_nin, V.is_n, V.isn_n, V.is_b, V.isn_b, V.is_i, V.isn_i, V.is_s, V.isn_s, V.is_l, V.isn_l, V.is_t, V.isn_t, V.is_bb, V.isn_bb, V.ix_l, V.ix_t, V.sl_l, V.bi_len, V.bi_lent, V.bi_abs, V.bi_max2, V.bi_min2, V.bi_int, V.bi_intb, V.bi_list, V.bi_listt, V.bi_tup, V.bi_tupt, V.bi_sum, V.bi_any, V.bi_all, V.bi_min1, V.bi_max1, V.bi_sorted, V.bi_repr, V.sq_d, V.sq_t, V.sq_o, V.ls_d, V.ls_o, V.tg_n, V.tg_t, V.vd_0, V.vo_0, V.vd_1, V.vo_1, V.vd_2, V.vo_2, V.vd_3, V.vo_3, V.vd_4, V.vo_4, V.vd_5, V.vo_5, V.vd_6, V.vo_6, V.vd_7, V.vo_7, V.vd_8, V.vo_8, V.vd_9, V.vo_9, V.vd_10, V.vo_10, V.vd_11, V.vo_11, V.vd_12, V.vo_12, V.vd_13, V.vo_13, V.vd_14, V.vo_14, V.vd_15, V.vo_15, V.e_int, V.e_bool, V.e_none, V.e_str, V.e_glob, V.e_bin, V.e_not, V.e_and, V.e_or, V.e_cmp, V.e_chain, V.e_ife, V.e_tup, V.e_lst, V.e_ix, V.e_call, V.e_callK, V.e_bi, V.e_inst, V.e_comp, V.ng, V.e_neg, V.e_slU, V.e_slL, V.e_lrg1, V.e_lrg3, V.es_n, V.es_c, V.it_seq, V.it_r1, V.it_r2, V.it_en, V.it_zip, V.ss_n, V.ss_c, V.s_asgF, V.kp_d, V.kp_o, V.s_asg, V.s_par, V.s_parN, V.tp_d, V.s_unp, V.s_expr, V.s_ret, V.s_retN, V.s_ite, V.s_for, V.s_pass, V.s_brk, V.s_cont, V.fz_0, V.ow_0, V.ap_0, V.fz_1, V.ow_1, V.ap_1, V.fz_2, V.ow_2, V.ap_2, V.fz_3, V.ow_3, V.ap_3, V.fz_4, V.ow_4, V.ap_4, V.fz_5, V.ow_5, V.ap_5, V.fz_6, V.ow_6, V.ap_6, V.fz_7, V.ow_7, V.ap_7, V.fz_8, V.ow_8, V.ap_8, V.fz_9, V.ow_9, V.ap_9, V.fz_10, V.ow_10, V.ap_10, V.fz_11, V.ow_11, V.ap_11, V.fz_12, V.ow_12, V.ap_12, V.fz_13, V.ow_13, V.ap_13, V.fz_14, V.ow_14, V.ap_14, V.fz_15, V.ow_15, V.ap_15, getE, setE, setMany, setNils, isTy, tyOf, List.map_cons, List.map_nil, List.length_cons, List.length_nil, List.cons_append, List.nil_append, List.append_nil, Nat.reduceSub, Nat.reduceAdd, atI_0, atI_1, atI_2, call_W5, call_W4, call_W2, call_W2o, call_W1, call_W1o, call_W0, call_W3, call_L0, call_L1, call_L1o, call_L2, call_L3, Option.some.injEq, sp_partners, w_partners]
  refine ⟨oka, ?_⟩
  try simp -implicitDefEqProofs only [V.rd_d, V.rd_o, V.rd_b, V.da_d, V.da_o, V.das_n, V.das_c, V.rds_n, V.rds_c, V.tr_b, V.tr_i, V.tr_n, V.tr_l, V.tr_t, V.tr_o, V.bn_add, V.bn_sub, V.bn_mul, V.bn_fdiv, V.bn_mod, V.bn_pow, V.bn_cat, V.cp_eq, V.cp_ne, V.cp_lt, V.cp_le, V.cp_gt, V.cp_ge, V.cp_in, V.cp_nin, V.is_n, V.isn_n, V.is_b, V.isn_b, V.is_i, V.isn_i, V.is_s, V.isn_s, V.is_l, V.isn_l, V.is_t, V.isn_t, V.is_bb, V.isn_bb, V.ix_l, V.ix_t, V.sl_l, V.bi_len, V.bi_lent, V.bi_abs, V.bi_max2, V.bi_min2, V.bi_int, V.bi_intb, V.bi_list, V.bi_listt, V.bi_tup, V.bi_tupt, V.bi_sum, V.bi_any, V.bi_all, V.bi_min1, V.bi_max1, V.bi_sorted, V.bi_repr, V.sq_d, V.sq_t, V.sq_o, V.ls_d, V.ls_o, V.tg_n, V.tg_t, V.vd_0, V.vo_0, V.vd_1, V.vo_1, V.vd_2, V.vo_2, V.vd_3, V.vo_3, V.vd_4, V.vo_4, V.vd_5, V.vo_5, V.vd_6, V.vo_6, V.vd_7, V.vo_7, V.vd_8, V.vo_8, V.vd_9, V.vo_9, V.vd_10, V.vo_10, V.vd_11, V.vo_11, V.vd_12, V.vo_12, V.vd_13, V.vo_13, V.vd_14, V.vo_14, V.vd_15, V.vo_15, V.e_int, V.e_bool, V.e_none, V.e_str, V.e_glob, V.e_bin, V.e_not, V.e_and, V.e_or, V.e_cmp, V.e_chain, V.e_ife, V.e_tup, V.e_lst, V.e_ix, V.e_call, V.e_callK, V.e_bi, V.e_inst, V.e_comp, V.ng, V.e_neg, V.e_slU, V.e_slL, V.e_lrg1, V.e_lrg3, V.es_n, V.es_c, V.it_seq, V.it_r1, V.it_r2, V.it_en, V.it_zip, V.ss_n, V.ss_c, V.s_asgF, V.kp_d, V.kp_o, V.s_asg, V.s_par, V.s_parN, V.tp_d, V.s_unp, V.s_expr, V.s_ret, V.s_retN, V.s_ite, V.s_for, V.s_pass, V.s_brk, V.s_cont, V.fz_0, V.ow_0, V.ap_0, V.fz_1, V.ow_1, V.ap_1, V.fz_2, V.ow_2, V.ap_2, V.fz_3, V.ow_3, V.ap_3, V.fz_4, V.ow_4, V.ap_4, V.fz_5, V.ow_5, V.ap_5, V.fz_6, V.ow_6, V.ap_6, V.fz_7, V.ow_7, V.ap_7, V.fz_8, V.ow_8, V.ap_8, V.fz_9, V.ow_9, V.ap_9, V.fz_10, V.ow_10, V.ap_10, V.fz_11, V.ow_11, V.ap_11, V.fz_12, V.ow_12, V.ap_12, V.fz_13, V.ow_13, V.ap_13, V.fz_14, V.ow_14, V.ap_14, V.fz_15, V.ow_15, V.ap_15, getE, setE, setMany, setNils, isTy, tyOf, List.map_cons, List.map_nil, List.length_cons, List.length_nil, List.cons_append, List.nil_append, List.append_nil, Nat.reduceSub, Nat.reduceAdd, atI_0, atI_1, atI_2, call_W5, call_W4, call_W2, call_W2o, call_W1, call_W1o, call_W0, call_W3, call_L0, call_L1, call_L1o, call_L2, call_L3, Option.some.injEq]
  rw [rangeCL_pts]
  unfold b__law_right_12
  try simp -implicitDefEqProofs only [V.rd_d, V.rd_o, V.rd_b, V.da_d, V.da_o, V.das_n, V.das_c, V.rds_n, V.rds_c, V.tr_b, V.tr_i, V.tr_n, V.tr_l, V.tr_t, V.tr_o, V.bn_add, V.bn_sub, V.bn_mul, V.bn_fdiv, V.bn_mod, V.bn_pow, V.bn_cat, V.cp_eq, V.cp_ne, V.cp_lt, V.cp_le, V.cp_gt, V.cp_ge, V.cp_in, V.cp_nin, V.is_n, V.isn_n, V.is_b, V.isn_b, V.is_i, V.isn_i, V.is_s, V.isn_s, V.is_l, V.isn_l, V.is_t, V.isn_t, V.is_bb, V.isn_bb, V.ix_l, V.ix_t, V.sl_l, V.bi_len, V.bi_lent, V.bi_abs, V.bi_max2, V.bi_min2, V.bi_int, V.bi_intb, V.bi_list, V.bi_listt, V.bi_tup, V.bi_tupt, V.bi_sum, V.bi_any, V.bi_all, V.bi_min1, V.bi_max1, V.bi_sorted, V.bi_repr, V.sq_d, V.sq_t, V.sq_o, V.ls_d, V.ls_o, V.tg_n, V.tg_t, V.vd_0, V.vo_0, V.vd_1, V.vo_1, V.vd_2, V.vo_2, V.vd_3, V.vo_3, V.vd_4, V.vo_4, V.vd_5, V.vo_5, V.vd_6, V.vo_6, V.vd_7, V.vo_7, V.vd_8, V.vo_8, V.vd_9, V.vo_9, V.vd_10, V.vo_10, V.vd_11, V.vo_11, V.vd_12, V.vo_12, V.vd_13, V.vo_13, V.vd_14, V.vo_14, V.vd_15, V.vo_15, V.e_int, V.e_bool, V.e_none, V.e_str, V.e_glob, V.e_bin, V.e_not, V.e_and, V.e_or, V.e_cmp, V.e_chain, V.e_ife, V.e_tup, V.e_lst, V.e_ix, V.e_call, V.e_callK, V.e_bi, V.e_inst, V.e_comp, V.ng, V.e_neg, V.e_slU, V.e_slL, V.e_lrg1, V.e_lrg3, V.es_n, V.es_c, V.it_seq, V.it_r1, V.it_r2, V.it_en, V.it_zip, V.ss_n, V.ss_c, V.s_asgF, V.kp_d, V.kp_o, V.s_asg, V.s_par, V.s_parN, V.tp_d, V.s_unp, V.s_expr, V.s_ret, V.s_retN, V.s_ite, V.s_for, V.s_pass, V.s_brk, V.s_cont, V.fz_0, V.ow_0, V.ap_0, V.fz_1, V.ow_1, V.ap_1, V.fz_2, V.ow_2, V.ap_2, V.fz_3, V.ow_3, V.ap_3, V.fz_4, V.ow_4, V.ap_4, V.fz_5, V.ow_5, V.ap_5, V.fz_6, V.ow_6, V.ap_6, V.fz_7, V.ow_7, V.ap_7, V.fz_8, V.ow_8, V.ap_8, V.fz_9, V.ow_9, V.ap_9, V.fz_10, V.ow_10, V.ap_10, V.fz_11, V.ow_11, V.ap_11, V.fz_12, V.ow_12, V.ap_12, V.fz_13, V.ow_13, V.ap_13, V.fz_14, V.ow_14, V.ap_14, V.fz_15, V.ow_15, V.ap_15, getE, setE, setMany, setNils, isTy, tyOf, List.map_cons, List.map_nil, List.length_cons, List.length_nil, List.cons_append, List.nil_append, List.append_nil, Nat.reduceSub, Nat.reduceAdd, atI_0, atI_1, atI_2, call_W5, call_W4, call_W2, call_W2o, call_W1, call_W1o, call_W0, call_W3, call_L0, call_L1, call_L1o, call_L2, call_L3, Option.some.injEq]
  refine ⟨shp_ints _, shp_ints _, ?_⟩
  rw [eqv_ints, if_neg (by decide)]
  rw [if_neg (by decide)]
  simp -implicitDefEqProofs only [V.rd_d, V.rd_o, V.rd_b, V.da_d, V.da_o, V.das_n, V.das_c, V.rds_n, V.rds_c, V.tr_b, V.tr_i, V.tr_n, V.tr_l, V.tr_t, V.tr_o, V.bn_add, V.bn_sub, V.bn_mul, V.bn_fdiv, V.bn_mod, V.bn_pow, V.bn_cat, V.cp_eq, V.cp_ne, V.cp_lt, V.cp_le, V.cp_gt, V.cp_ge, V.cp_in, V.cp_nin, V.is_n, V.isn_n, V.is_b, V.isn_b, V.is_i, V.isn_i, V.is_s, V.isn_s, V.is_l, V.isn_l, V.is_t, V.isn_t, V.is_bb, V.isn_bb, V.ix_l, V.ix_t, V.sl_l, V.bi_len, V.bi_lent, V.bi_abs, V.bi_max2, V.bi_min2, V.bi_int, V.bi_intb, V.bi_list, V.bi_listt, V.bi_tup, V.bi_tupt, V.bi_sum, V.bi_any, V.bi_all, V.bi_min1, V.bi_max1, V.bi_sorted, V.bi_repr, V.sq_d, V.sq_t, V.sq_o, V.ls_d, V.ls_o, V.tg_n, V.tg_t, V.vd_0, V.vo_0, V.vd_1, V.vo_1, V.vd_2, V.vo_2, V.vd_3, V.vo_3, V.vd_4, V.vo_4, V.vd_5, V.vo_5, V.vd_6, V.vo_6, V.vd_7, V.vo_7, V.vd_8, V.vo_8, V.vd_9, V.vo_9, V.vd_10, V.vo_10, V.vd_11, V.vo_11, V.vd_12, V.vo_12, V.vd_13, V.vo_13, V.vd_14, V.vo_14, V.vd_15, V.vo_15, V.e_int, V.e_bool, V.e_none, V.e_str, V.e_glob, V.e_bin, V.e_not, V.e_and, V.e_or, V.e_cmp, V.e_chain, V.e_ife, V.e_tup, V.e_lst, V.e_ix, V.e_call, V.e_callK, V.e_bi, V.e_inst, V.e_comp, V.ng, V.e_neg, V.e_slU, V.e_slL, V.e_lrg1, V.e_lrg3, V.es_n, V.es_c, V.it_seq, V.it_r1, V.it_r2, V.it_en, V.it_zip, V.ss_n, V.ss_c, V.s_asgF, V.kp_d, V.kp_o, V.s_asg, V.s_par, V.s_parN, V.tp_d, V.s_unp, V.s_expr, V.s_ret, V.s_retN, V.s_ite, V.s_for, V.s_pass, V.s_brk, V.s_cont, V.fz_0, V.ow_0, V.ap_0, V.fz_1, V.ow_1, V.ap_1, V.fz_2, V.ow_2, V.ap_2, V.fz_3, V.ow_3, V.ap_3, V.fz_4, V.ow_4, V.ap_4, V.fz_5, V.ow_5, V.ap_5, V.fz_6, V.ow_6, V.ap_6, V.fz_7, V.ow_7, V.ap_7, V.fz_8, V.ow_8, V.ap_8, V.fz_9, V.ow_9, V.ap_9, V.fz_10, V.ow_10, V.ap_10, V.fz_11, V.ow_11, V.ap_11, V.fz_12, V.ow_12, V.ap_12, V.fz_13, V.ow_13, V.ap_13, V.fz_14, V.ow_14, V.ap_14, V.fz_15, V.ow_15, V.ap_15, getE, setE, setMany, setNils, isTy, tyOf, List.map_cons, List.map_nil, List.length_cons, List.length_nil, List.cons_append, List.nil_append, List.append_nil, Nat.reduceSub, Nat.reduceAdd, atI_0, atI_1, atI_2, call_W5, call_W4, call_W2, call_W2o, call_W1, call_W1o, call_W0, call_W3, call_L0, call_L1, call_L1o, call_L2, call_L3, Option.some.injEq, ro_p, sp_partners, w_partners]
  refine ⟨ok0, ?_⟩
  try simp -implicitDefEqProofs only [V.rd_d, V.rd_o, V.rd_b, V.da_d, V.da_o, V.das_n, V.das_c, V.rds_n, V.rds_c, V.tr_b, V.tr_i, V.tr_n, V.tr_l, V.tr_t, V.tr_o, V.bn_add, V.bn_sub, V.bn_mul, V.bn_fdiv, V.bn_mod, V.bn_pow, V.bn_cat, V.cp_eq, V.cp_ne, V.cp_lt, V.cp_le, V.cp_gt, V.cp_ge, V.cp_in, V.cp_nin, V.is_n, V.isn_n, V.is_b, V.isn_b, V.is_i, V.isn_i, V.is_s, V.isn_s, V.is_l, V.isn_l, V.is_t, V.isn_t, V.is_bb, V.isn_bb, V.ix_l, V.ix_t, V.sl_l, V.bi_len, V.bi_lent, V.bi_abs, V.bi_max2, V.bi_min2, V.bi_int, V.bi_intb, V.bi_list, V.bi_listt, V.bi_tup, V.bi_tupt, V.bi_sum, V.bi_any, V.bi_all, V.bi_min1, V.bi_max1, V.bi_sorted, V.bi_repr, V.sq_d, V.sq_t, V.sq_o, V.ls_d, V.ls_o, V.tg_n, V.tg_t, V.vd_0, V.vo_0, V.vd_1, V.vo_1, V.vd_2, V.vo_2, V.vd_3, V.vo_3, V.vd_4, V.vo_4, V.vd_5, V.vo_5, V.vd_6, V.vo_6, V.vd_7, V.vo_7, V.vd_8, V.vo_8, V.vd_9, V.vo_9, V.vd_10, V.vo_10, V.vd_11, V.vo_11, V.vd_12, V.vo_12, V.vd_13, V.vo_13, V.vd_14, V.vo_14, V.vd_15, V.vo_15, V.e_int, V.e_bool, V.e_none, V.e_str, V.e_glob, V.e_bin, V.e_not, V.e_and, V.e_or, V.e_cmp, V.e_chain, V.e_ife, V.e_tup, V.e_lst, V.e_ix, V.e_call, V.e_callK, V.e_bi, V.e_inst, V.e_comp, V.ng, V.e_neg, V.e_slU, V.e_slL, V.e_lrg1, V.e_lrg3, V.es_n, V.es_c, V.it_seq, V.it_r1, V.it_r2, V.it_en, V.it_zip, V.ss_n, V.ss_c, V.s_asgF, V.kp_d, V.kp_o, V.s_asg, V.s_par, V.s_parN, V.tp_d, V.s_unp, V.s_expr, V.s_ret, V.s_retN, V.s_ite, V.s_for, V.s_pass, V.s_brk, V.s_cont, V.fz_0, V.ow_0, V.ap_0, V.fz_1, V.ow_1, V.ap_1, V.fz_2, V.ow_2, V.ap_2, V.fz_3, V.ow_3, V.ap_3, V.fz_4, V.ow_4, V.ap_4, V.fz_5, V.ow_5, V.ap_5, V.fz_6, V.ow_6, V.ap_6, V.fz_7, V.ow_7, V.ap_7, V.fz_8, V.ow_8, V.ap_8, V.fz_9, V.ow_9, V.ap_9, V.fz_10, V.ow_10, V.ap_10, V.fz_11, V.ow_11, V.ap_11, V.fz_12, V.ow_12, V.ap_12, V.fz_13, V.ow_13, V.ap_13, V.fz_14, V.ow_14, V.ap_14, V.fz_15, V.ow_15, V.ap_15, getE, setE, setMany, setNils, isTy, tyOf, List.map_cons, List.map_nil, List.length_cons, List.length_nil, List.cons_append, List.nil_append, List.append_nil, Nat.reduceSub, Nat.reduceAdd, atI_0, atI_1, atI_2, call_W5, call_W4, call_W2, call_W2o, call_W1, call_W1o, call_W0, call_W3, call_L0, call_L1, call_L1o, call_L2, call_L3, Option.some.injEq]
  rw [rangeCL_pts]
  refine ⟨shp_ints _, rfl, ?_⟩
  have c0 := Int.emod_nonneg (i + j - 0) (show ((Int.gcd s t : Nat) : Int) ≠ 0 by omega)
  have c1 := Int.emod_lt_of_pos (i + j - 0) gp
  have hne : PyData.eqv (.list ((pts ((i + j - 0) % ((Int.gcd s t : Nat) : Int)) t (Int.gcd s t)).map .int)) (.list []) = false := by
    have hm : (i + j - 0) % ((Int.gcd s t : Nat) : Int) ∈ pts ((i + j - 0) % ((Int.gcd s t : Nat) : Int)) t (Int.gcd s t) := (mem_pts gp).mpr ⟨Int.le_refl _, by omega, 0, by omega⟩
    cases hq : pts ((i + j - 0) % ((Int.gcd s t : Nat) : Int)) t (Int.gcd s t) with
    | nil => rw [hq] at hm; cases hm
    | cons x xs => simp [PyData.eqv, PyData.eqvAll]
  rw [hne, if_neg Bool.false_ne_true]
  unfold b__law_right_13
  try simp -implicitDefEqProofs only [V.rd_d, V.rd_o, V.rd_b, V.da_d, V.da_o, V.das_n, V.das_c, V.rds_n, V.rds_c, V.tr_b, V.tr_i, V.tr_n, V.tr_l, V.tr_t, V.tr_o, V.bn_add, V.bn_sub, V.bn_mul, V.bn_fdiv, V.bn_mod, V.bn_pow, V.bn_cat, V.cp_eq, V.cp_ne, V.cp_lt, V.cp_le, V.cp_gt, V.cp_ge, V.cp_in, V.cp_nin, V.is_n, V.isn_n, V.is_b, V.isn_b, V.is_i, V.isn_i, V.is_s, V.isn_s, V.is_l, V.isn_l, V.is_t, V.isn_t, V.is_bb, V.isn_bb, V.ix_l, V.ix_t, V.sl_l, V.bi_len, V.bi_lent, V.bi_abs, V.bi_max2, V.bi_min2, V.bi_int, V.bi_intb, V.bi_list, V.bi_listt, V.bi_tup, V.bi_tupt, V.bi_sum, V.bi_any, V.bi_all, V.bi_min1, V.bi_max1, V.bi_sorted, V.bi_repr, V.sq_d, V.sq_t, V.sq_o, V.ls_d, V.ls_o, V.tg_n, V.tg_t, V.vd_0, V.vo_0, V.vd_1, V.vo_1, V.vd_2, V.vo_2, V.vd_3, V.vo_3, V.vd_4, V.vo_4, V.vd_5, V.vo_5, V.vd_6, V.vo_6, V.vd_7, V.vo_7, V.vd_8, V.vo_8, V.vd_9, V.vo_9, V.vd_10, V.vo_10, V.vd_11, V.vo_11, V.vd_12, V.vo_12, V.vd_13, V.vo_13, V.vd_14, V.vo_14, V.vd_15, V.vo_15, V.e_int, V.e_bool, V.e_none, V.e_str, V.e_glob, V.e_bin, V.e_not, V.e_and, V.e_or, V.e_cmp, V.e_chain, V.e_ife, V.e_tup, V.e_lst, V.e_ix, V.e_call, V.e_callK, V.e_bi, V.e_inst, V.e_comp, V.ng, V.e_neg, V.e_slU, V.e_slL, V.e_lrg1, V.e_lrg3, V.es_n, V.es_c, V.it_seq, V.it_r1, V.it_r2, V.it_en, V.it_zip, V.ss_n, V.ss_c, V.s_asgF, V.kp_d, V.kp_o, V.s_asg, V.s_par, V.s_parN, V.tp_d, V.s_unp, V.s_expr, V.s_ret, V.s_retN, V.s_ite, V.s_for, V.s_pass, V.s_brk, V.s_cont, V.fz_0, V.ow_0, V.ap_0, V.fz_1, V.ow_1, V.ap_1, V.fz_2, V.ow_2, V.ap_2, V.fz_3, V.ow_3, V.ap_3, V.fz_4, V.ow_4, V.ap_4, V.fz_5, V.ow_5, V.ap_5, V.fz_6, V.ow_6, V.ap_6, V.fz_7, V.ow_7, V.ap_7, V.fz_8, V.ow_8, V.ap_8, V.fz_9, V.ow_9, V.ap_9, V.fz_10, V.ow_10, V.ap_10, V.fz_11, V.ow_11, V.ap_11, V.fz_12, V.ow_12, V.ap_12, V.fz_13, V.ow_13, V.ap_13, V.fz_14, V.ow_14, V.ap_14, V.fz_15, V.ow_15, V.ap_15, getE, setE, setMany, setNils, isTy, tyOf, List.map_cons, List.map_nil, List.length_cons, List.length_nil, List.cons_append, List.nil_append, List.append_nil, Nat.reduceSub, Nat.reduceAdd, atI_0, atI_1, atI_2, call_W5, call_W4, call_W2, call_W2o, call_W1, call_W1o, call_W0, call_W3, call_L0, call_L1, call_L1o, call_L2, call_L3, Option.some.injEq]
  have pl : ((pts ((i + j - a) % ((Int.gcd s t : Nat) : Int)) t (Int.gcd s t)).map PyData.int).length < sizeLine := by
    rw [List.length_map]
    unfold pts rangeCn
    rw [List.length_map, List.length_range, sizeLine_eq]
    have q0 := Int.emod_nonneg (i + j - a) (show ((Int.gcd s t : Nat) : Int) ≠ 0 by omega)
    split
    · have : (t - (i + j - a) % ((Int.gcd s t : Nat) : Int) - 1) / ((Int.gcd s t : Nat) : Int) ≤ t - (i + j - a) % ((Int.gcd s t : Nat) : Int) - 1 := Int.ediv_le_self _ (by omega)
      omega
    · decide
  refine ⟨pl, ?_⟩
  unfold b__law_right_14
  try simp -implicitDefEqProofs only [V.rd_d, V.rd_o, V.rd_b, V.da_d, V.da_o, V.das_n, V.das_c, V.rds_n, V.rds_c, V.tr_b, V.tr_i, V.tr_n, V.tr_l, V.tr_t, V.tr_o, V.bn_add, V.bn_sub, V.bn_mul, V.bn_fdiv, V.bn_mod, V.bn_pow, V.bn_cat, V.cp_eq, V.cp_ne, V.cp_lt, V.cp_le, V.cp_gt, V.cp_ge, V.cp_in, V.cp_nin, V.is_n, V.isn_n, V.is_b, V.isn_b, V.is_i, V.isn_i, V.is_s, V.isn_s, V.is_l, V.isn_l, V.is_t, V.isn_t, V.is_bb, V.isn_bb, V.ix_l, V.ix_t, V.sl_l, V.bi_len, V.bi_lent, V.bi_abs, V.bi_max2, V.bi_min2, V.bi_int, V.bi_intb, V.bi_list, V.bi_listt, V.bi_tup, V.bi_tupt, V.bi_sum, V.bi_any, V.bi_all, V.bi_min1, V.bi_max1, V.bi_sorted, V.bi_repr, V.sq_d, V.sq_t, V.sq_o, V.ls_d, V.ls_o, V.tg_n, V.tg_t, V.vd_0, V.vo_0, V.vd_1, V.vo_1, V.vd_2, V.vo_2, V.vd_3, V.vo_3, V.vd_4, V.vo_4, V.vd_5, V.vo_5, V.vd_6, V.vo_6, V.vd_7, V.vo_7, V.vd_8, V.vo_8, V.vd_9, V.vo_9, V.vd_10, V.vo_10, V.vd_11, V.vo_11, V.vd_12, V.vo_12, V.vd_13, V.vo_13, V.vd_14, V.vo_14, V.vd_15, V.vo_15, V.e_int, V.e_bool, V.e_none, V.e_str, V.e_glob, V.e_bin, V.e_not, V.e_and, V.e_or, V.e_cmp, V.e_chain, V.e_ife, V.e_tup, V.e_lst, V.e_ix, V.e_call, V.e_callK, V.e_bi, V.e_inst, V.e_comp, V.ng, V.e_neg, V.e_slU, V.e_slL, V.e_lrg1, V.e_lrg3, V.es_n, V.es_c, V.it_seq, V.it_r1, V.it_r2, V.it_en, V.it_zip, V.ss_n, V.ss_c, V.s_asgF, V.kp_d, V.kp_o, V.s_asg, V.s_par, V.s_parN, V.tp_d, V.s_unp, V.s_expr, V.s_ret, V.s_retN, V.s_ite, V.s_for, V.s_pass, V.s_brk, V.s_cont, V.fz_0, V.ow_0, V.ap_0, V.fz_1, V.ow_1, V.ap_1, V.fz_2, V.ow_2, V.ap_2, V.fz_3, V.ow_3, V.ap_3, V.fz_4, V.ow_4, V.ap_4, V.fz_5, V.ow_5, V.ap_5, V.fz_6, V.ow_6, V.ap_6, V.fz_7, V.ow_7, V.ap_7, V.fz_8, V.ow_8, V.ap_8, V.fz_9, V.ow_9, V.ap_9, V.fz_10, V.ow_10, V.ap_10, V.fz_11, V.ow_11, V.ap_11, V.fz_12, V.ow_12, V.ap_12, V.fz_13, V.ow_13, V.ap_13, V.fz_14, V.ow_14, V.ap_14, V.fz_15, V.ow_15, V.ap_15, getE, setE, setMany, setNils, isTy, tyOf, List.map_cons, List.map_nil, List.length_cons, List.length_nil, List.cons_append, List.nil_append, List.append_nil, Nat.reduceSub, Nat.reduceAdd, atI_0, atI_1, atI_2, call_W5, call_W4, call_W2, call_W2o, call_W1, call_W1o, call_W0, call_W3, call_L0, call_L1, call_L1o, call_L2, call_L3, Option.some.injEq]
  unfold b__law_right_15
  simp -implicitDefEqProofs only [V.rd_d, V.rd_o, V.rd_b, V.da_d, V.da_o, V.das_n, V.das_c, V.rds_n, V.rds_c, V.tr_b, V.tr_i, V.tr_n, V.tr_l, V.tr_t, V.tr_o, V.bn_add, V.bn_sub, V.bn_mul, V.bn_fdiv, V.bn_mod, V.bn_pow, V.bn_cat, V.cp_eq, V.cp_ne, V.cp_lt, V.cp_le, V.cp_gt, V.cp_ge, V.cp_in, V.cp_nin, V.is_n, V.isn_n, V.is_b, V.isn_b, V.is_i, V.isn_i, V.is_s, V.isn_s, V.is_l, V.isn_l, V.is_t, V.isn_t, V.is_bb, V.isn_bb, V.ix_l, V.ix_t, V.sl_l, V.bi_len, V.bi_lent, V.bi_abs, V.bi_max2, V.bi_min2, V.bi_int, V.bi_intb, V.bi_list, V.bi_listt, V.bi_tup, V.bi_tupt, V.bi_sum, V.bi_any, V.bi_all, V.bi_min1, V.bi_max1, V.bi_sorted, V.bi_repr, V.sq_d, V.sq_t, V.sq_o, V.ls_d, V.ls_o, V.tg_n, V.tg_t, V.vd_0, V.vo_0, V.vd_1, V.vo_1, V.vd_2, V.vo_2, V.vd_3, V.vo_3, V.vd_4, V.vo_4, V.vd_5, V.vo_5, V.vd_6, V.vo_6, V.vd_7, V.vo_7, V.vd_8, V.vo_8, V.vd_9, V.vo_9, V.vd_10, V.vo_10, V.vd_11, V.vo_11, V.vd_12, V.vo_12, V.vd_13, V.vo_13, V.vd_14, V.vo_14, V.vd_15, V.vo_15, V.e_int, V.e_bool, V.e_none, V.e_str, V.e_glob, V.e_bin, V.e_not, V.e_and, V.e_or, V.e_cmp, V.e_chain, V.e_ife, V.e_tup, V.e_lst, V.e_ix, V.e_call, V.e_callK, V.e_bi, V.e_inst, V.e_comp, V.ng, V.e_neg, V.e_slU, V.e_slL, V.e_lrg1, V.e_lrg3, V.es_n, V.es_c, V.it_seq, V.it_r1, V.it_r2, V.it_en, V.it_zip, V.ss_n, V.ss_c, V.s_asgF, V.kp_d, V.kp_o, V.s_asg, V.s_par, V.s_parN, V.tp_d, V.s_unp, V.s_expr, V.s_ret, V.s_retN, V.s_ite, V.s_for, V.s_pass, V.s_brk, V.s_cont, V.fz_0, V.ow_0, V.ap_0, V.fz_1, V.ow_1, V.ap_1, V.fz_2, V.ow_2, V.ap_2, V.fz_3, V.ow_3, V.ap_3, V.fz_4, V.ow_4, V.ap_4, V.fz_5, V.ow_5, V.ap_5, V.fz_6, V.ow_6, V.ap_6, V.fz_7, V.ow_7, V.ap_7, V.fz_8, V.ow_8, V.ap_8, V.fz_9, V.ow_9, V.ap_9, V.fz_10, V.ow_10, V.ap_10, V.fz_11, V.ow_11, V.ap_11, V.fz_12, V.ow_12, V.ap_12, V.fz_13, V.ow_13, V.ap_13, V.fz_14, V.ow_14, V.ap_14, V.fz_15, V.ow_15, V.ap_15, getE, setE, setMany, setNils, isTy, tyOf, List.map_cons, List.map_nil, List.length_cons, List.length_nil, List.cons_append, List.nil_append, List.append_nil, Nat.reduceSub, Nat.reduceAdd, atI_0, atI_1, atI_2, call_W5, call_W4, call_W2, call_W2o, call_W1, call_W1o, call_W0, call_W3, call_L0, call_L1, call_L1o, call_L2, call_L3, Option.some.injEq, sp_partners, w_partners]
  refine ⟨oka, ?_⟩
  try simp -implicitDefEqProofs only [V.rd_d, V.rd_o, V.rd_b, V.da_d, V.da_o, V.das_n, V.das_c, V.rds_n, V.rds_c, V.tr_b, V.tr_i, V.tr_n, V.tr_l, V.tr_t, V.tr_o, V.bn_add, V.bn_sub, V.bn_mul, V.bn_fdiv, V.bn_mod, V.bn_pow, V.bn_cat, V.cp_eq, V.cp_ne, V.cp_lt, V.cp_le, V.cp_gt, V.cp_ge, V.cp_in, V.cp_nin, V.is_n, V.isn_n, V.is_b, V.isn_b, V.is_i, V.isn_i, V.is_s, V.isn_s, V.is_l, V.isn_l, V.is_t, V.isn_t, V.is_bb, V.isn_bb, V.ix_l, V.ix_t, V.sl_l, V.bi_len, V.bi_lent, V.bi_abs, V.bi_max2, V.bi_min2, V.bi_int, V.bi_intb, V.bi_list, V.bi_listt, V.bi_tup, V.bi_tupt, V.bi_sum, V.bi_any, V.bi_all, V.bi_min1, V.bi_max1, V.bi_sorted, V.bi_repr, V.sq_d, V.sq_t, V.sq_o, V.ls_d, V.ls_o, V.tg_n, V.tg_t, V.vd_0, V.vo_0, V.vd_1, V.vo_1, V.vd_2, V.vo_2, V.vd_3, V.vo_3, V.vd_4, V.vo_4, V.vd_5, V.vo_5, V.vd_6, V.vo_6, V.vd_7, V.vo_7, V.vd_8, V.vo_8, V.vd_9, V.vo_9, V.vd_10, V.vo_10, V.vd_11, V.vo_11, V.vd_12, V.vo_12, V.vd_13, V.vo_13, V.vd_14, V.vo_14, V.vd_15, V.vo_15, V.e_int, V.e_bool, V.e_none, V.e_str, V.e_glob, V.e_bin, V.e_not, V.e_and, V.e_or, V.e_cmp, V.e_chain, V.e_ife, V.e_tup, V.e_lst, V.e_ix, V.e_call, V.e_callK, V.e_bi, V.e_inst, V.e_comp, V.ng, V.e_neg, V.e_slU, V.e_slL, V.e_lrg1, V.e_lrg3, V.es_n, V.es_c, V.it_seq, V.it_r1, V.it_r2, V.it_en, V.it_zip, V.ss_n, V.ss_c, V.s_asgF, V.kp_d, V.kp_o, V.s_asg, V.s_par, V.s_parN, V.tp_d, V.s_unp, V.s_expr, V.s_ret, V.s_retN, V.s_ite, V.s_for, V.s_pass, V.s_brk, V.s_cont, V.fz_0, V.ow_0, V.ap_0, V.fz_1, V.ow_1, V.ap_1, V.fz_2, V.ow_2, V.ap_2, V.fz_3, V.ow_3, V.ap_3, V.fz_4, V.ow_4, V.ap_4, V.fz_5, V.ow_5, V.ap_5, V.fz_6, V.ow_6, V.ap_6, V.fz_7, V.ow_7, V.ap_7, V.fz_8, V.ow_8, V.ap_8, V.fz_9, V.ow_9, V.ap_9, V.fz_10, V.ow_10, V.ap_10, V.fz_11, V.ow_11, V.ap_11, V.fz_12, V.ow_12, V.ap_12, V.fz_13, V.ow_13, V.ap_13, V.fz_14, V.ow_14, V.ap_14, V.fz_15, V.ow_15, V.ap_15, getE, setE, setMany, setNils, isTy, tyOf, List.map_cons, List.map_nil, List.length_cons, List.length_nil, List.cons_append, List.nil_append, List.append_nil, Nat.reduceSub, Nat.reduceAdd, atI_0, atI_1, atI_2, call_W5, call_W4, call_W2, call_W2o, call_W1, call_W1o, call_W0, call_W3, call_L0, call_L1, call_L1o, call_L2, call_L3, Option.some.injEq]
  rw [rangeCL_pts]
  refine ⟨shp_ints _, shp_ints _, ?_⟩
  rw [eqv_ints, if_neg (by decide)]
  simp -implicitDefEqProofs only [V.rd_d, V.rd_o, V.rd_b, V.da_d, V.da_o, V.das_n, V.das_c, V.rds_n, V.rds_c, V.tr_b, V.tr_i, V.tr_n, V.tr_l, V.tr_t, V.tr_o, V.bn_add, V.bn_sub, V.bn_mul, V.bn_fdiv, V.bn_mod, V.bn_pow, V.bn_cat, V.cp_eq, V.cp_ne, V.cp_lt, V.cp_le, V.cp_gt, V.cp_ge, V.cp_in, V.cp_nin, V.is_n, V.isn_n, V.is_b, V.isn_b, V.is_i, V.isn_i, V.is_s, V.isn_s, V.is_l, V.isn_l, V.is_t, V.isn_t, V.is_bb, V.isn_bb, V.ix_l, V.ix_t, V.sl_l, V.bi_len, V.bi_lent, V.bi_abs, V.bi_max2, V.bi_min2, V.bi_int, V.bi_intb, V.bi_list, V.bi_listt, V.bi_tup, V.bi_tupt, V.bi_sum, V.bi_any, V.bi_all, V.bi_min1, V.bi_max1, V.bi_sorted, V.bi_repr, V.sq_d, V.sq_t, V.sq_o, V.ls_d, V.ls_o, V.tg_n, V.tg_t, V.vd_0, V.vo_0, V.vd_1, V.vo_1, V.vd_2, V.vo_2, V.vd_3, V.vo_3, V.vd_4, V.vo_4, V.vd_5, V.vo_5, V.vd_6, V.vo_6, V.vd_7, V.vo_7, V.vd_8, V.vo_8, V.vd_9, V.vo_9, V.vd_10, V.vo_10, V.vd_11, V.vo_11, V.vd_12, V.vo_12, V.vd_13, V.vo_13, V.vd_14, V.vo_14, V.vd_15, V.vo_15, V.e_int, V.e_bool, V.e_none, V.e_str, V.e_glob, V.e_bin, V.e_not, V.e_and, V.e_or, V.e_cmp, V.e_chain, V.e_ife, V.e_tup, V.e_lst, V.e_ix, V.e_call, V.e_callK, V.e_bi, V.e_inst, V.e_comp, V.ng, V.e_neg, V.e_slU, V.e_slL, V.e_lrg1, V.e_lrg3, V.es_n, V.es_c, V.it_seq, V.it_r1, V.it_r2, V.it_en, V.it_zip, V.ss_n, V.ss_c, V.s_asgF, V.kp_d, V.kp_o, V.s_asg, V.s_par, V.s_parN, V.tp_d, V.s_unp, V.s_expr, V.s_ret, V.s_retN, V.s_ite, V.s_for, V.s_pass, V.s_brk, V.s_cont, V.fz_0, V.ow_0, V.ap_0, V.fz_1, V.ow_1, V.ap_1, V.fz_2, V.ow_2, V.ap_2, V.fz_3, V.ow_3, V.ap_3, V.fz_4, V.ow_4, V.ap_4, V.fz_5, V.ow_5, V.ap_5, V.fz_6, V.ow_6, V.ap_6, V.fz_7, V.ow_7, V.ap_7, V.fz_8, V.ow_8, V.ap_8, V.fz_9, V.ow_9, V.ap_9, V.fz_10, V.ow_10, V.ap_10, V.fz_11, V.ow_11, V.ap_11, V.fz_12, V.ow_12, V.ap_12, V.fz_13, V.ow_13, V.ap_13, V.fz_14, V.ow_14, V.ap_14, V.fz_15, V.ow_15, V.ap_15, getE, setE, setMany, setNils, isTy, tyOf, List.map_cons, List.map_nil, List.length_cons, List.length_nil, List.cons_append, List.nil_append, List.append_nil, Nat.reduceSub, Nat.reduceAdd, atI_0, atI_1, atI_2, call_W5, call_W4, call_W2, call_W2o, call_W1, call_W1o, call_W0, call_W3, call_L0, call_L1, call_L1o, call_L2, call_L3, Option.some.injEq, sp_pairs_met, w_pairs_met, hl]
  refine ⟨⟨h1, h2⟩, rfl, rfl, ?_⟩
  rw [if_neg (by simp [PyData.eqv])]
  exact t16 ok' hd hu hn h
end
end K50

set_option maxRecDepth 100000
set_option maxHeartbeats 1000000
namespace K50
open PySem PF NL
section
variable {l : List PyData} {n : Nat} {m told sm fd : Option AV} {s t i j a b : Int} {due : PyData} {D : AEnds}
def duo (l : List PyData) (m : Option AV) (s t i j a b : Int) (due : PyData) (told : Option AV) (v : Option PyData) : AEnv := match v with
  | some (.tuple [x, y]) => [some (.o l), m, some (.d (.tuple [.int i, .int j])), some (.d (.list (rows s t i j (lcm2 s t)))), some (.d (.tuple [.int a, .int b])), some (.d due), told, none, none, some (.d (.int s)), some (.d (.int t)), some (.d x), some (.d y)]
  | _ => RE l m s t i j a b (some (.d due)) told none none
theorem ints_of (xs : List Int) : intsOf (xs.map .int) = some xs := by
  induction xs with
  | nil => rfl
  | cons x xs ih => show (intsOf (xs.map .int)).map (x :: ·) = _; rw [ih]; rfl
theorem t9 (ok : okM s t i j a b) (hd : dueOk s t i j a b due) (hu : Urn n l) (hn : n < 1000) (h : ∀ l' env, getE env 0 = some (.o l') → D.rt (.d (.bool true)) env) : wSs X0 b__law_right_10 (RE l m s t i j a b (some (.d due)) told none none) D := by
  have oka : okM s t i j a 0 := by
    obtain ⟨h1, h2, h3, h4, h5, h6⟩ := ok
    exact ⟨h1, h2, h3, h4, h5, by omega, by omega⟩
  unfold b__law_right_10
  simp -implicitDefEqProofs only [RE, V.rd_d, V.rd_o, V.rd_b, V.da_d, V.da_o, V.das_n, V.das_c, V.rds_n, V.rds_c, V.tr_b, V.tr_i, V.tr_n, V.tr_l, V.tr_t, V.tr_o, V.bn_add, V.bn_sub, V.bn_mul, V.bn_fdiv, V.bn_mod, V.bn_pow, V.bn_cat, V.cp_eq, V.cp_ne, V.cp_lt, V.cp_le, V.cp_gt, V.cp_ge, V.cp_in, V.cp_nin, V.is_n, V.isn_n, V.is_b, V.isn_b, V.is_i, V.isn_i, V.is_s, V.isn_s, V.is_l, V.isn_l, V.is_t, V.isn_t, V.is_bb, V.isn_bb, V.ix_l, V.ix_t, V.sl_l, V.bi_len, V.bi_lent, V.bi_abs, V.bi_max2, V.bi_min2, V.bi_int, V.bi_intb, V.bi_list, V.bi_listt, V.bi_tup, V.bi_tupt, V.bi_sum, V.bi_any, V.bi_all, V.bi_min1, V.bi_max1, V.bi_sorted, V.bi_repr, V.sq_d, V.sq_t, V.sq_o, V.ls_d, V.ls_o, V.tg_n, V.tg_t, V.vd_0, V.vo_0, V.vd_1, V.vo_1, V.vd_2, V.vo_2, V.vd_3, V.vo_3, V.vd_4, V.vo_4, V.vd_5, V.vo_5, V.vd_6, V.vo_6, V.vd_7, V.vo_7, V.vd_8, V.vo_8, V.vd_9, V.vo_9, V.vd_10, V.vo_10, V.vd_11, V.vo_11, V.vd_12, V.vo_12, V.vd_13, V.vo_13, V.vd_14, V.vo_14, V.vd_15, V.vo_15, V.e_int, V.e_bool, V.e_none, V.e_str, V.e_glob, V.e_bin, V.e_not, V.e_and, V.e_or, V.e_cmp, V.e_chain, V.e_ife, V.e_tup, V.e_lst, V.e_ix, V.e_call, V.e_callK, V.e_bi, V.e_inst, V.e_comp, V.ng, V.e_neg, V.e_slU, V.e_slL, V.e_lrg1, V.e_lrg3, V.es_n, V.es_c, V.it_seq, V.it_r1, V.it_r2, V.it_en, V.it_zip, V.ss_n, V.ss_c, V.s_asgF, V.kp_d, V.kp_o, V.s_asg, V.s_par, V.s_parN, V.tp_d, V.s_unp, V.s_expr, V.s_ret, V.s_retN, V.s_ite, V.s_for, V.s_pass, V.s_brk, V.s_cont, V.fz_0, V.ow_0, V.ap_0, V.fz_1, V.ow_1, V.ap_1, V.fz_2, V.ow_2, V.ap_2, V.fz_3, V.ow_3, V.ap_3, V.fz_4, V.ow_4, V.ap_4, V.fz_5, V.ow_5, V.ap_5, V.fz_6, V.ow_6, V.ap_6, V.fz_7, V.ow_7, V.ap_7, V.fz_8, V.ow_8, V.ap_8, V.fz_9, V.ow_9, V.ap_9, V.fz_10, V.ow_10, V.ap_10, V.fz_11, V.ow_11, V.ap_11, V.fz_12, V.ow_12, V.ap_12, V.fz_13, V.ow_13, V.ap_13, V.fz_14, V.ow_14, V.ap_14, V.fz_15, V.ow_15, V.ap_15, getE, setE, setMany, setNils, isTy, tyOf, List.map_cons, List.map_nil, List.length_cons, List.length_nil, List.cons_append, List.nil_append, List.append_nil, Nat.reduceSub, Nat.reduceAdd, atI_0, atI_1, atI_2, call_W5, call_W4, call_W2, call_W2o, call_W1, call_W1o, call_W0, call_W3, call_L0, call_L1, call_L1o, call_L2, call_L3, Option.some.injEq]
  refine ⟨⟨trivial, trivial, trivial⟩, ?_⟩
  refine comp_f (duo l m s t i j a b due told) (fun z => match z with | .tuple [.int x, _] => x == a | _ => false) (fun z => match z with | .tuple [_, y] => y | _ => .none) rfl (fun x => ?_) rfl (fun x => ?_) (fun z hz k q => ?_) (fun z => by cases z) (fun z hz _ q hq => ?_) (fun z hz _ q hq => ?_) ?_
  · unfold duo; split <;> rfl
  · unfold duo; split <;> rfl
  · obtain ⟨x, hx, rfl⟩ := List.mem_map.mp hz
    exact ⟨rfl, q⟩
  · obtain ⟨x, hx, rfl⟩ := List.mem_map.mp hz
    unfold cc__law_right_1
    simp -implicitDefEqProofs only [duo, row, tn, V.rd_d, V.rd_o, V.rd_b, V.da_d, V.da_o, V.das_n, V.das_c, V.rds_n, V.rds_c, V.tr_b, V.tr_i, V.tr_n, V.tr_l, V.tr_t, V.tr_o, V.bn_add, V.bn_sub, V.bn_mul, V.bn_fdiv, V.bn_mod, V.bn_pow, V.bn_cat, V.cp_eq, V.cp_ne, V.cp_lt, V.cp_le, V.cp_gt, V.cp_ge, V.cp_in, V.cp_nin, V.is_n, V.isn_n, V.is_b, V.isn_b, V.is_i, V.isn_i, V.is_s, V.isn_s, V.is_l, V.isn_l, V.is_t, V.isn_t, V.is_bb, V.isn_bb, V.ix_l, V.ix_t, V.sl_l, V.bi_len, V.bi_lent, V.bi_abs, V.bi_max2, V.bi_min2, V.bi_int, V.bi_intb, V.bi_list, V.bi_listt, V.bi_tup, V.bi_tupt, V.bi_sum, V.bi_any, V.bi_all, V.bi_min1, V.bi_max1, V.bi_sorted, V.bi_repr, V.sq_d, V.sq_t, V.sq_o, V.ls_d, V.ls_o, V.tg_n, V.tg_t, V.vd_0, V.vo_0, V.vd_1, V.vo_1, V.vd_2, V.vo_2, V.vd_3, V.vo_3, V.vd_4, V.vo_4, V.vd_5, V.vo_5, V.vd_6, V.vo_6, V.vd_7, V.vo_7, V.vd_8, V.vo_8, V.vd_9, V.vo_9, V.vd_10, V.vo_10, V.vd_11, V.vo_11, V.vd_12, V.vo_12, V.vd_13, V.vo_13, V.vd_14, V.vo_14, V.vd_15, V.vo_15, V.e_int, V.e_bool, V.e_none, V.e_str, V.e_glob, V.e_bin, V.e_not, V.e_and, V.e_or, V.e_cmp, V.e_chain, V.e_ife, V.e_tup, V.e_lst, V.e_ix, V.e_call, V.e_callK, V.e_bi, V.e_inst, V.e_comp, V.ng, V.e_neg, V.e_slU, V.e_slL, V.e_lrg1, V.e_lrg3, V.es_n, V.es_c, V.it_seq, V.it_r1, V.it_r2, V.it_en, V.it_zip, V.ss_n, V.ss_c, V.s_asgF, V.kp_d, V.kp_o, V.s_asg, V.s_par, V.s_parN, V.tp_d, V.s_unp, V.s_expr, V.s_ret, V.s_retN, V.s_ite, V.s_for, V.s_pass, V.s_brk, V.s_cont, V.fz_0, V.ow_0, V.ap_0, V.fz_1, V.ow_1, V.ap_1, V.fz_2, V.ow_2, V.ap_2, V.fz_3, V.ow_3, V.ap_3, V.fz_4, V.ow_4, V.ap_4, V.fz_5, V.ow_5, V.ap_5, V.fz_6, V.ow_6, V.ap_6, V.fz_7, V.ow_7, V.ap_7, V.fz_8, V.ow_8, V.ap_8, V.fz_9, V.ow_9, V.ap_9, V.fz_10, V.ow_10, V.ap_10, V.fz_11, V.ow_11, V.ap_11, V.fz_12, V.ow_12, V.ap_12, V.fz_13, V.ow_13, V.ap_13, V.fz_14, V.ow_14, V.ap_14, V.fz_15, V.ow_15, V.ap_15, getE, setE, setMany, setNils, isTy, tyOf, List.map_cons, List.map_nil, List.length_cons, List.length_nil, List.cons_append, List.nil_append, List.append_nil, Nat.reduceSub, Nat.reduceAdd, atI_0, atI_1, atI_2, call_W5, call_W4, call_W2, call_W2o, call_W1, call_W1o, call_W0, call_W3, call_L0, call_L1, call_L1o, call_L2, call_L3, Option.some.injEq]
    exact ⟨rfl, rfl, hq⟩
  · obtain ⟨x, hx, rfl⟩ := List.mem_map.mp hz
    unfold ce__law_right_2
    simp -implicitDefEqProofs only [duo, row, tn, V.rd_d, V.rd_o, V.rd_b, V.da_d, V.da_o, V.das_n, V.das_c, V.rds_n, V.rds_c, V.tr_b, V.tr_i, V.tr_n, V.tr_l, V.tr_t, V.tr_o, V.bn_add, V.bn_sub, V.bn_mul, V.bn_fdiv, V.bn_mod, V.bn_pow, V.bn_cat, V.cp_eq, V.cp_ne, V.cp_lt, V.cp_le, V.cp_gt, V.cp_ge, V.cp_in, V.cp_nin, V.is_n, V.isn_n, V.is_b, V.isn_b, V.is_i, V.isn_i, V.is_s, V.isn_s, V.is_l, V.isn_l, V.is_t, V.isn_t, V.is_bb, V.isn_bb, V.ix_l, V.ix_t, V.sl_l, V.bi_len, V.bi_lent, V.bi_abs, V.bi_max2, V.bi_min2, V.bi_int, V.bi_intb, V.bi_list, V.bi_listt, V.bi_tup, V.bi_tupt, V.bi_sum, V.bi_any, V.bi_all, V.bi_min1, V.bi_max1, V.bi_sorted, V.bi_repr, V.sq_d, V.sq_t, V.sq_o, V.ls_d, V.ls_o, V.tg_n, V.tg_t, V.vd_0, V.vo_0, V.vd_1, V.vo_1, V.vd_2, V.vo_2, V.vd_3, V.vo_3, V.vd_4, V.vo_4, V.vd_5, V.vo_5, V.vd_6, V.vo_6, V.vd_7, V.vo_7, V.vd_8, V.vo_8, V.vd_9, V.vo_9, V.vd_10, V.vo_10, V.vd_11, V.vo_11, V.vd_12, V.vo_12, V.vd_13, V.vo_13, V.vd_14, V.vo_14, V.vd_15, V.vo_15, V.e_int, V.e_bool, V.e_none, V.e_str, V.e_glob, V.e_bin, V.e_not, V.e_and, V.e_or, V.e_cmp, V.e_chain, V.e_ife, V.e_tup, V.e_lst, V.e_ix, V.e_call, V.e_callK, V.e_bi, V.e_inst, V.e_comp, V.ng, V.e_neg, V.e_slU, V.e_slL, V.e_lrg1, V.e_lrg3, V.es_n, V.es_c, V.it_seq, V.it_r1, V.it_r2, V.it_en, V.it_zip, V.ss_n, V.ss_c, V.s_asgF, V.kp_d, V.kp_o, V.s_asg, V.s_par, V.s_parN, V.tp_d, V.s_unp, V.s_expr, V.s_ret, V.s_retN, V.s_ite, V.s_for, V.s_pass, V.s_brk, V.s_cont, V.fz_0, V.ow_0, V.ap_0, V.fz_1, V.ow_1, V.ap_1, V.fz_2, V.ow_2, V.ap_2, V.fz_3, V.ow_3, V.ap_3, V.fz_4, V.ow_4, V.ap_4, V.fz_5, V.ow_5, V.ap_5, V.fz_6, V.ow_6, V.ap_6, V.fz_7, V.ow_7, V.ap_7, V.fz_8, V.ow_8, V.ap_8, V.fz_9, V.ow_9, V.ap_9, V.fz_10, V.ow_10, V.ap_10, V.fz_11, V.ow_11, V.ap_11, V.fz_12, V.ow_12, V.ap_12, V.fz_13, V.ow_13, V.ap_13, V.fz_14, V.ow_14, V.ap_14, V.fz_15, V.ow_15, V.ap_15, getE, setE, setMany, setNils, isTy, tyOf, List.map_cons, List.map_nil, List.length_cons, List.length_nil, List.cons_append, List.nil_append, List.append_nil, Nat.reduceSub, Nat.reduceAdd, atI_0, atI_1, atI_2, call_W5, call_W4, call_W2, call_W2o, call_W1, call_W1o, call_W0, call_W3, call_L0, call_L1, call_L1o, call_L2, call_L3, Option.some.injEq]
    exact hq
  intro env' hb
  have e : (((rows s t i j (lcm2 s t)).filter fun z => match z with | .tuple [.int x, _] => x == a | _ => false).map fun z => match z with | .tuple [_, y] => y | _ => .none) = (colL s t i j a).map .int := by
    unfold rows colL
    rw [List.filter_map, List.map_map, List.map_map]
    rfl
  rw [e, hb]
  simp -implicitDefEqProofs only [V.rd_d, V.rd_o, V.rd_b, V.da_d, V.da_o, V.das_n, V.das_c, V.rds_n, V.rds_c, V.tr_b, V.tr_i, V.tr_n, V.tr_l, V.tr_t, V.tr_o, V.bn_add, V.bn_sub, V.bn_mul, V.bn_fdiv, V.bn_mod, V.bn_pow, V.bn_cat, V.cp_eq, V.cp_ne, V.cp_lt, V.cp_le, V.cp_gt, V.cp_ge, V.cp_in, V.cp_nin, V.is_n, V.isn_n, V.is_b, V.isn_b, V.is_i, V.isn_i, V.is_s, V.isn_s, V.is_l, V.isn_l, V.is_t, V.isn_t, V.is_bb, V.isn_bb, V.ix_l, V.ix_t, V.sl_l, V.bi_len, V.bi_lent, V.bi_abs, V.bi_max2, V.bi_min2, V.bi_int, V.bi_intb, V.bi_list, V.bi_listt, V.bi_tup, V.bi_tupt, V.bi_sum, V.bi_any, V.bi_all, V.bi_min1, V.bi_max1, V.bi_sorted, V.bi_repr, V.sq_d, V.sq_t, V.sq_o, V.ls_d, V.ls_o, V.tg_n, V.tg_t, V.vd_0, V.vo_0, V.vd_1, V.vo_1, V.vd_2, V.vo_2, V.vd_3, V.vo_3, V.vd_4, V.vo_4, V.vd_5, V.vo_5, V.vd_6, V.vo_6, V.vd_7, V.vo_7, V.vd_8, V.vo_8, V.vd_9, V.vo_9, V.vd_10, V.vo_10, V.vd_11, V.vo_11, V.vd_12, V.vo_12, V.vd_13, V.vo_13, V.vd_14, V.vo_14, V.vd_15, V.vo_15, V.e_int, V.e_bool, V.e_none, V.e_str, V.e_glob, V.e_bin, V.e_not, V.e_and, V.e_or, V.e_cmp, V.e_chain, V.e_ife, V.e_tup, V.e_lst, V.e_ix, V.e_call, V.e_callK, V.e_bi, V.e_inst, V.e_comp, V.ng, V.e_neg, V.e_slU, V.e_slL, V.e_lrg1, V.e_lrg3, V.es_n, V.es_c, V.it_seq, V.it_r1, V.it_r2, V.it_en, V.it_zip, V.ss_n, V.ss_c, V.s_asgF, V.kp_d, V.kp_o, V.s_asg, V.s_par, V.s_parN, V.tp_d, V.s_unp, V.s_expr, V.s_ret, V.s_retN, V.s_ite, V.s_for, V.s_pass, V.s_brk, V.s_cont, V.fz_0, V.ow_0, V.ap_0, V.fz_1, V.ow_1, V.ap_1, V.fz_2, V.ow_2, V.ap_2, V.fz_3, V.ow_3, V.ap_3, V.fz_4, V.ow_4, V.ap_4, V.fz_5, V.ow_5, V.ap_5, V.fz_6, V.ow_6, V.ap_6, V.fz_7, V.ow_7, V.ap_7, V.fz_8, V.ow_8, V.ap_8, V.fz_9, V.ow_9, V.ap_9, V.fz_10, V.ow_10, V.ap_10, V.fz_11, V.ow_11, V.ap_11, V.fz_12, V.ow_12, V.ap_12, V.fz_13, V.ow_13, V.ap_13, V.fz_14, V.ow_14, V.ap_14, V.fz_15, V.ow_15, V.ap_15, getE, setE, setMany, setNils, isTy, tyOf, List.map_cons, List.map_nil, List.length_cons, List.length_nil, List.cons_append, List.nil_append, List.append_nil, Nat.reduceSub, Nat.reduceAdd, atI_0, atI_1, atI_2, call_W5, call_W4, call_W2, call_W2o, call_W1, call_W1o, call_W0, call_W3, call_L0, call_L1, call_L1o, call_L2, call_L3, Option.some.injEq, ints_of]
  intro ns hp hs
  rw [sorted_is oka hp hs]
  try simp -implicitDefEqProofs only [V.rd_d, V.rd_o, V.rd_b, V.da_d, V.da_o, V.das_n, V.das_c, V.rds_n, V.rds_c, V.tr_b, V.tr_i, V.tr_n, V.tr_l, V.tr_t, V.tr_o, V.bn_add, V.bn_sub, V.bn_mul, V.bn_fdiv, V.bn_mod, V.bn_pow, V.bn_cat, V.cp_eq, V.cp_ne, V.cp_lt, V.cp_le, V.cp_gt, V.cp_ge, V.cp_in, V.cp_nin, V.is_n, V.isn_n, V.is_b, V.isn_b, V.is_i, V.isn_i, V.is_s, V.isn_s, V.is_l, V.isn_l, V.is_t, V.isn_t, V.is_bb, V.isn_bb, V.ix_l, V.ix_t, V.sl_l, V.bi_len, V.bi_lent, V.bi_abs, V.bi_max2, V.bi_min2, V.bi_int, V.bi_intb, V.bi_list, V.bi_listt, V.bi_tup, V.bi_tupt, V.bi_sum, V.bi_any, V.bi_all, V.bi_min1, V.bi_max1, V.bi_sorted, V.bi_repr, V.sq_d, V.sq_t, V.sq_o, V.ls_d, V.ls_o, V.tg_n, V.tg_t, V.vd_0, V.vo_0, V.vd_1, V.vo_1, V.vd_2, V.vo_2, V.vd_3, V.vo_3, V.vd_4, V.vo_4, V.vd_5, V.vo_5, V.vd_6, V.vo_6, V.vd_7, V.vo_7, V.vd_8, V.vo_8, V.vd_9, V.vo_9, V.vd_10, V.vo_10, V.vd_11, V.vo_11, V.vd_12, V.vo_12, V.vd_13, V.vo_13, V.vd_14, V.vo_14, V.vd_15, V.vo_15, V.e_int, V.e_bool, V.e_none, V.e_str, V.e_glob, V.e_bin, V.e_not, V.e_and, V.e_or, V.e_cmp, V.e_chain, V.e_ife, V.e_tup, V.e_lst, V.e_ix, V.e_call, V.e_callK, V.e_bi, V.e_inst, V.e_comp, V.ng, V.e_neg, V.e_slU, V.e_slL, V.e_lrg1, V.e_lrg3, V.es_n, V.es_c, V.it_seq, V.it_r1, V.it_r2, V.it_en, V.it_zip, V.ss_n, V.ss_c, V.s_asgF, V.kp_d, V.kp_o, V.s_asg, V.s_par, V.s_parN, V.tp_d, V.s_unp, V.s_expr, V.s_ret, V.s_retN, V.s_ite, V.s_for, V.s_pass, V.s_brk, V.s_cont, V.fz_0, V.ow_0, V.ap_0, V.fz_1, V.ow_1, V.ap_1, V.fz_2, V.ow_2, V.ap_2, V.fz_3, V.ow_3, V.ap_3, V.fz_4, V.ow_4, V.ap_4, V.fz_5, V.ow_5, V.ap_5, V.fz_6, V.ow_6, V.ap_6, V.fz_7, V.ow_7, V.ap_7, V.fz_8, V.ow_8, V.ap_8, V.fz_9, V.ow_9, V.ap_9, V.fz_10, V.ow_10, V.ap_10, V.fz_11, V.ow_11, V.ap_11, V.fz_12, V.ow_12, V.ap_12, V.fz_13, V.ow_13, V.ap_13, V.fz_14, V.ow_14, V.ap_14, V.fz_15, V.ow_15, V.ap_15, getE, setE, setMany, setNils, isTy, tyOf, List.map_cons, List.map_nil, List.length_cons, List.length_nil, List.cons_append, List.nil_append, List.append_nil, Nat.reduceSub, Nat.reduceAdd, atI_0, atI_1, atI_2, call_W5, call_W4, call_W2, call_W2o, call_W1, call_W1o, call_W0, call_W3, call_L0, call_L1, call_L1o, call_L2, call_L3, Option.some.injEq]
  exact t10 ok hd hu hn h
theorem t6 (ok : okM s t i j a b) (hu : Urn n l) (hn : n < 1000) (h : ∀ l' env, getE env 0 = some (.o l') → D.rt (.d (.bool true)) env) : wSs X0 b__law_right_6 (RE l m s t i j a b none none none none) D := by
  have key : ∀ due, dueOk s t i j a b due → SeqAt.shaped due = true → PyData.eqv due due = true → wSs X0 b__law_right_7 (RE l m s t i j a b (some (.d due)) none none none) D := fun due hd hs he => by
    have nn : ∀ {P : Prop}, (∀ x, ¬ M s t i j a b x) → ∀ F, Sol (M s t i j a b) F (lcm2 s t) → P := fun z F so => absurd ((so.2.2 F).mpr ⟨0, by omega⟩) (z F)
    have t9' : ∀ told, wSs X0 b__law_right_9 (RE l m s t i j a b (some (.d due)) told none none) D := fun told => by
      unfold b__law_right_9
      simp -implicitDefEqProofs only [RE, V.rd_d, V.rd_o, V.rd_b, V.da_d, V.da_o, V.das_n, V.das_c, V.rds_n, V.rds_c, V.tr_b, V.tr_i, V.tr_n, V.tr_l, V.tr_t, V.tr_o, V.bn_add, V.bn_sub, V.bn_mul, V.bn_fdiv, V.bn_mod, V.bn_pow, V.bn_cat, V.cp_eq, V.cp_ne, V.cp_lt, V.cp_le, V.cp_gt, V.cp_ge, V.cp_in, V.cp_nin, V.is_n, V.isn_n, V.is_b, V.isn_b, V.is_i, V.isn_i, V.is_s, V.isn_s, V.is_l, V.isn_l, V.is_t, V.isn_t, V.is_bb, V.isn_bb, V.ix_l, V.ix_t, V.sl_l, V.bi_len, V.bi_lent, V.bi_abs, V.bi_max2, V.bi_min2, V.bi_int, V.bi_intb, V.bi_list, V.bi_listt, V.bi_tup, V.bi_tupt, V.bi_sum, V.bi_any, V.bi_all, V.bi_min1, V.bi_max1, V.bi_sorted, V.bi_repr, V.sq_d, V.sq_t, V.sq_o, V.ls_d, V.ls_o, V.tg_n, V.tg_t, V.vd_0, V.vo_0, V.vd_1, V.vo_1, V.vd_2, V.vo_2, V.vd_3, V.vo_3, V.vd_4, V.vo_4, V.vd_5, V.vo_5, V.vd_6, V.vo_6, V.vd_7, V.vo_7, V.vd_8, V.vo_8, V.vd_9, V.vo_9, V.vd_10, V.vo_10, V.vd_11, V.vo_11, V.vd_12, V.vo_12, V.vd_13, V.vo_13, V.vd_14, V.vo_14, V.vd_15, V.vo_15, V.e_int, V.e_bool, V.e_none, V.e_str, V.e_glob, V.e_bin, V.e_not, V.e_and, V.e_or, V.e_cmp, V.e_chain, V.e_ife, V.e_tup, V.e_lst, V.e_ix, V.e_call, V.e_callK, V.e_bi, V.e_inst, V.e_comp, V.ng, V.e_neg, V.e_slU, V.e_slL, V.e_lrg1, V.e_lrg3, V.es_n, V.es_c, V.it_seq, V.it_r1, V.it_r2, V.it_en, V.it_zip, V.ss_n, V.ss_c, V.s_asgF, V.kp_d, V.kp_o, V.s_asg, V.s_par, V.s_parN, V.tp_d, V.s_unp, V.s_expr, V.s_ret, V.s_retN, V.s_ite, V.s_for, V.s_pass, V.s_brk, V.s_cont, V.fz_0, V.ow_0, V.ap_0, V.fz_1, V.ow_1, V.ap_1, V.fz_2, V.ow_2, V.ap_2, V.fz_3, V.ow_3, V.ap_3, V.fz_4, V.ow_4, V.ap_4, V.fz_5, V.ow_5, V.ap_5, V.fz_6, V.ow_6, V.ap_6, V.fz_7, V.ow_7, V.ap_7, V.fz_8, V.ow_8, V.ap_8, V.fz_9, V.ow_9, V.ap_9, V.fz_10, V.ow_10, V.ap_10, V.fz_11, V.ow_11, V.ap_11, V.fz_12, V.ow_12, V.ap_12, V.fz_13, V.ow_13, V.ap_13, V.fz_14, V.ow_14, V.ap_14, V.fz_15, V.ow_15, V.ap_15, getE, setE, setMany, setNils, isTy, tyOf, List.map_cons, List.map_nil, List.length_cons, List.length_nil, List.cons_append, List.nil_append, List.append_nil, Nat.reduceSub, Nat.reduceAdd, atI_0, atI_1, atI_2, call_W5, call_W4, call_W2, call_W2o, call_W1, call_W1o, call_W0, call_W3, call_L0, call_L1, call_L1o, call_L2, call_L3, Option.some.injEq, ro_m, sp_meets, w_meets]
      refine ⟨ok, fun z => ?_, fun F so => ?_⟩
      · rcases hd with ⟨rfl, hno⟩ | ⟨F, rfl, so⟩
        · simp -implicitDefEqProofs only [V.rd_d, V.rd_o, V.rd_b, V.da_d, V.da_o, V.das_n, V.das_c, V.rds_n, V.rds_c, V.tr_b, V.tr_i, V.tr_n, V.tr_l, V.tr_t, V.tr_o, V.bn_add, V.bn_sub, V.bn_mul, V.bn_fdiv, V.bn_mod, V.bn_pow, V.bn_cat, V.cp_eq, V.cp_ne, V.cp_lt, V.cp_le, V.cp_gt, V.cp_ge, V.cp_in, V.cp_nin, V.is_n, V.isn_n, V.is_b, V.isn_b, V.is_i, V.isn_i, V.is_s, V.isn_s, V.is_l, V.isn_l, V.is_t, V.isn_t, V.is_bb, V.isn_bb, V.ix_l, V.ix_t, V.sl_l, V.bi_len, V.bi_lent, V.bi_abs, V.bi_max2, V.bi_min2, V.bi_int, V.bi_intb, V.bi_list, V.bi_listt, V.bi_tup, V.bi_tupt, V.bi_sum, V.bi_any, V.bi_all, V.bi_min1, V.bi_max1, V.bi_sorted, V.bi_repr, V.sq_d, V.sq_t, V.sq_o, V.ls_d, V.ls_o, V.tg_n, V.tg_t, V.vd_0, V.vo_0, V.vd_1, V.vo_1, V.vd_2, V.vo_2, V.vd_3, V.vo_3, V.vd_4, V.vo_4, V.vd_5, V.vo_5, V.vd_6, V.vo_6, V.vd_7, V.vo_7, V.vd_8, V.vo_8, V.vd_9, V.vo_9, V.vd_10, V.vo_10, V.vd_11, V.vo_11, V.vd_12, V.vo_12, V.vd_13, V.vo_13, V.vd_14, V.vo_14, V.vd_15, V.vo_15, V.e_int, V.e_bool, V.e_none, V.e_str, V.e_glob, V.e_bin, V.e_not, V.e_and, V.e_or, V.e_cmp, V.e_chain, V.e_ife, V.e_tup, V.e_lst, V.e_ix, V.e_call, V.e_callK, V.e_bi, V.e_inst, V.e_comp, V.ng, V.e_neg, V.e_slU, V.e_slL, V.e_lrg1, V.e_lrg3, V.es_n, V.es_c, V.it_seq, V.it_r1, V.it_r2, V.it_en, V.it_zip, V.ss_n, V.ss_c, V.s_asgF, V.kp_d, V.kp_o, V.s_asg, V.s_par, V.s_parN, V.tp_d, V.s_unp, V.s_expr, V.s_ret, V.s_retN, V.s_ite, V.s_for, V.s_pass, V.s_brk, V.s_cont, V.fz_0, V.ow_0, V.ap_0, V.fz_1, V.ow_1, V.ap_1, V.fz_2, V.ow_2, V.ap_2, V.fz_3, V.ow_3, V.ap_3, V.fz_4, V.ow_4, V.ap_4, V.fz_5, V.ow_5, V.ap_5, V.fz_6, V.ow_6, V.ap_6, V.fz_7, V.ow_7, V.ap_7, V.fz_8, V.ow_8, V.ap_8, V.fz_9, V.ow_9, V.ap_9, V.fz_10, V.ow_10, V.ap_10, V.fz_11, V.ow_11, V.ap_11, V.fz_12, V.ow_12, V.ap_12, V.fz_13, V.ow_13, V.ap_13, V.fz_14, V.ow_14, V.ap_14, V.fz_15, V.ow_15, V.ap_15, getE, setE, setMany, setNils, isTy, tyOf, List.map_cons, List.map_nil, List.length_cons, List.length_nil, List.cons_append, List.nil_append, List.append_nil, Nat.reduceSub, Nat.reduceAdd, atI_0, atI_1, atI_2, call_W5, call_W4, call_W2, call_W2o, call_W1, call_W1o, call_W0, call_W3, call_L0, call_L1, call_L1o, call_L2, call_L3, Option.some.injEq]
          refine ⟨rfl, rfl, ?_⟩
          rw [he, if_neg (by decide)]
          exact t9 ok (.inl ⟨rfl, hno⟩) hu hn h
        · exact nn z F so
      · rcases hd with ⟨rfl, hno⟩ | ⟨F', rfl, so'⟩
        · exact nn hno F so
        · rw [sol_same so' so]
          try simp -implicitDefEqProofs only [V.rd_d, V.rd_o, V.rd_b, V.da_d, V.da_o, V.das_n, V.das_c, V.rds_n, V.rds_c, V.tr_b, V.tr_i, V.tr_n, V.tr_l, V.tr_t, V.tr_o, V.bn_add, V.bn_sub, V.bn_mul, V.bn_fdiv, V.bn_mod, V.bn_pow, V.bn_cat, V.cp_eq, V.cp_ne, V.cp_lt, V.cp_le, V.cp_gt, V.cp_ge, V.cp_in, V.cp_nin, V.is_n, V.isn_n, V.is_b, V.isn_b, V.is_i, V.isn_i, V.is_s, V.isn_s, V.is_l, V.isn_l, V.is_t, V.isn_t, V.is_bb, V.isn_bb, V.ix_l, V.ix_t, V.sl_l, V.bi_len, V.bi_lent, V.bi_abs, V.bi_max2, V.bi_min2, V.bi_int, V.bi_intb, V.bi_list, V.bi_listt, V.bi_tup, V.bi_tupt, V.bi_sum, V.bi_any, V.bi_all, V.bi_min1, V.bi_max1, V.bi_sorted, V.bi_repr, V.sq_d, V.sq_t, V.sq_o, V.ls_d, V.ls_o, V.tg_n, V.tg_t, V.vd_0, V.vo_0, V.vd_1, V.vo_1, V.vd_2, V.vo_2, V.vd_3, V.vo_3, V.vd_4, V.vo_4, V.vd_5, V.vo_5, V.vd_6, V.vo_6, V.vd_7, V.vo_7, V.vd_8, V.vo_8, V.vd_9, V.vo_9, V.vd_10, V.vo_10, V.vd_11, V.vo_11, V.vd_12, V.vo_12, V.vd_13, V.vo_13, V.vd_14, V.vo_14, V.vd_15, V.vo_15, V.e_int, V.e_bool, V.e_none, V.e_str, V.e_glob, V.e_bin, V.e_not, V.e_and, V.e_or, V.e_cmp, V.e_chain, V.e_ife, V.e_tup, V.e_lst, V.e_ix, V.e_call, V.e_callK, V.e_bi, V.e_inst, V.e_comp, V.ng, V.e_neg, V.e_slU, V.e_slL, V.e_lrg1, V.e_lrg3, V.es_n, V.es_c, V.it_seq, V.it_r1, V.it_r2, V.it_en, V.it_zip, V.ss_n, V.ss_c, V.s_asgF, V.kp_d, V.kp_o, V.s_asg, V.s_par, V.s_parN, V.tp_d, V.s_unp, V.s_expr, V.s_ret, V.s_retN, V.s_ite, V.s_for, V.s_pass, V.s_brk, V.s_cont, V.fz_0, V.ow_0, V.ap_0, V.fz_1, V.ow_1, V.ap_1, V.fz_2, V.ow_2, V.ap_2, V.fz_3, V.ow_3, V.ap_3, V.fz_4, V.ow_4, V.ap_4, V.fz_5, V.ow_5, V.ap_5, V.fz_6, V.ow_6, V.ap_6, V.fz_7, V.ow_7, V.ap_7, V.fz_8, V.ow_8, V.ap_8, V.fz_9, V.ow_9, V.ap_9, V.fz_10, V.ow_10, V.ap_10, V.fz_11, V.ow_11, V.ap_11, V.fz_12, V.ow_12, V.ap_12, V.fz_13, V.ow_13, V.ap_13, V.fz_14, V.ow_14, V.ap_14, V.fz_15, V.ow_15, V.ap_15, getE, setE, setMany, setNils, isTy, tyOf, List.map_cons, List.map_nil, List.length_cons, List.length_nil, List.cons_append, List.nil_append, List.append_nil, Nat.reduceSub, Nat.reduceAdd, atI_0, atI_1, atI_2, call_W5, call_W4, call_W2, call_W2o, call_W1, call_W1o, call_W0, call_W3, call_L0, call_L1, call_L1o, call_L2, call_L3, Option.some.injEq]
          refine ⟨hs, hs, ?_⟩
          rw [he, if_neg (by decide)]
          exact t9 ok (.inr ⟨F', rfl, so'⟩) hu hn h
    unfold b__law_right_7
    simp -implicitDefEqProofs only [RE, V.rd_d, V.rd_o, V.rd_b, V.da_d, V.da_o, V.das_n, V.das_c, V.rds_n, V.rds_c, V.tr_b, V.tr_i, V.tr_n, V.tr_l, V.tr_t, V.tr_o, V.bn_add, V.bn_sub, V.bn_mul, V.bn_fdiv, V.bn_mod, V.bn_pow, V.bn_cat, V.cp_eq, V.cp_ne, V.cp_lt, V.cp_le, V.cp_gt, V.cp_ge, V.cp_in, V.cp_nin, V.is_n, V.isn_n, V.is_b, V.isn_b, V.is_i, V.isn_i, V.is_s, V.isn_s, V.is_l, V.isn_l, V.is_t, V.isn_t, V.is_bb, V.isn_bb, V.ix_l, V.ix_t, V.sl_l, V.bi_len, V.bi_lent, V.bi_abs, V.bi_max2, V.bi_min2, V.bi_int, V.bi_intb, V.bi_list, V.bi_listt, V.bi_tup, V.bi_tupt, V.bi_sum, V.bi_any, V.bi_all, V.bi_min1, V.bi_max1, V.bi_sorted, V.bi_repr, V.sq_d, V.sq_t, V.sq_o, V.ls_d, V.ls_o, V.tg_n, V.tg_t, V.vd_0, V.vo_0, V.vd_1, V.vo_1, V.vd_2, V.vo_2, V.vd_3, V.vo_3, V.vd_4, V.vo_4, V.vd_5, V.vo_5, V.vd_6, V.vo_6, V.vd_7, V.vo_7, V.vd_8, V.vo_8, V.vd_9, V.vo_9, V.vd_10, V.vo_10, V.vd_11, V.vo_11, V.vd_12, V.vo_12, V.vd_13, V.vo_13, V.vd_14, V.vo_14, V.vd_15, V.vo_15, V.e_int, V.e_bool, V.e_none, V.e_str, V.e_glob, V.e_bin, V.e_not, V.e_and, V.e_or, V.e_cmp, V.e_chain, V.e_ife, V.e_tup, V.e_lst, V.e_ix, V.e_call, V.e_callK, V.e_bi, V.e_inst, V.e_comp, V.ng, V.e_neg, V.e_slU, V.e_slL, V.e_lrg1, V.e_lrg3, V.es_n, V.es_c, V.it_seq, V.it_r1, V.it_r2, V.it_en, V.it_zip, V.ss_n, V.ss_c, V.s_asgF, V.kp_d, V.kp_o, V.s_asg, V.s_par, V.s_parN, V.tp_d, V.s_unp, V.s_expr, V.s_ret, V.s_retN, V.s_ite, V.s_for, V.s_pass, V.s_brk, V.s_cont, V.fz_0, V.ow_0, V.ap_0, V.fz_1, V.ow_1, V.ap_1, V.fz_2, V.ow_2, V.ap_2, V.fz_3, V.ow_3, V.ap_3, V.fz_4, V.ow_4, V.ap_4, V.fz_5, V.ow_5, V.ap_5, V.fz_6, V.ow_6, V.ap_6, V.fz_7, V.ow_7, V.ap_7, V.fz_8, V.ow_8, V.ap_8, V.fz_9, V.ow_9, V.ap_9, V.fz_10, V.ow_10, V.ap_10, V.fz_11, V.ow_11, V.ap_11, V.fz_12, V.ow_12, V.ap_12, V.fz_13, V.ow_13, V.ap_13, V.fz_14, V.ow_14, V.ap_14, V.fz_15, V.ow_15, V.ap_15, getE, setE, setMany, setNils, isTy, tyOf, List.map_cons, List.map_nil, List.length_cons, List.length_nil, List.cons_append, List.nil_append, List.append_nil, Nat.reduceSub, Nat.reduceAdd, atI_0, atI_1, atI_2, call_W5, call_W4, call_W2, call_W2o, call_W1, call_W1o, call_W0, call_W3, call_L0, call_L1, call_L1o, call_L2, call_L3, Option.some.injEq, sp_meets, w_meets]
    refine ⟨ok, fun z => ?_, fun F so => ?_⟩
    · rcases hd with ⟨rfl, hno⟩ | ⟨F, rfl, so⟩
      · unfold b__law_right_8
        simp -implicitDefEqProofs only [V.rd_d, V.rd_o, V.rd_b, V.da_d, V.da_o, V.das_n, V.das_c, V.rds_n, V.rds_c, V.tr_b, V.tr_i, V.tr_n, V.tr_l, V.tr_t, V.tr_o, V.bn_add, V.bn_sub, V.bn_mul, V.bn_fdiv, V.bn_mod, V.bn_pow, V.bn_cat, V.cp_eq, V.cp_ne, V.cp_lt, V.cp_le, V.cp_gt, V.cp_ge, V.cp_in, V.cp_nin, V.is_n, V.isn_n, V.is_b, V.isn_b, V.is_i, V.isn_i, V.is_s, V.isn_s, V.is_l, V.isn_l, V.is_t, V.isn_t, V.is_bb, V.isn_bb, V.ix_l, V.ix_t, V.sl_l, V.bi_len, V.bi_lent, V.bi_abs, V.bi_max2, V.bi_min2, V.bi_int, V.bi_intb, V.bi_list, V.bi_listt, V.bi_tup, V.bi_tupt, V.bi_sum, V.bi_any, V.bi_all, V.bi_min1, V.bi_max1, V.bi_sorted, V.bi_repr, V.sq_d, V.sq_t, V.sq_o, V.ls_d, V.ls_o, V.tg_n, V.tg_t, V.vd_0, V.vo_0, V.vd_1, V.vo_1, V.vd_2, V.vo_2, V.vd_3, V.vo_3, V.vd_4, V.vo_4, V.vd_5, V.vo_5, V.vd_6, V.vo_6, V.vd_7, V.vo_7, V.vd_8, V.vo_8, V.vd_9, V.vo_9, V.vd_10, V.vo_10, V.vd_11, V.vo_11, V.vd_12, V.vo_12, V.vd_13, V.vo_13, V.vd_14, V.vo_14, V.vd_15, V.vo_15, V.e_int, V.e_bool, V.e_none, V.e_str, V.e_glob, V.e_bin, V.e_not, V.e_and, V.e_or, V.e_cmp, V.e_chain, V.e_ife, V.e_tup, V.e_lst, V.e_ix, V.e_call, V.e_callK, V.e_bi, V.e_inst, V.e_comp, V.ng, V.e_neg, V.e_slU, V.e_slL, V.e_lrg1, V.e_lrg3, V.es_n, V.es_c, V.it_seq, V.it_r1, V.it_r2, V.it_en, V.it_zip, V.ss_n, V.ss_c, V.s_asgF, V.kp_d, V.kp_o, V.s_asg, V.s_par, V.s_parN, V.tp_d, V.s_unp, V.s_expr, V.s_ret, V.s_retN, V.s_ite, V.s_for, V.s_pass, V.s_brk, V.s_cont, V.fz_0, V.ow_0, V.ap_0, V.fz_1, V.ow_1, V.ap_1, V.fz_2, V.ow_2, V.ap_2, V.fz_3, V.ow_3, V.ap_3, V.fz_4, V.ow_4, V.ap_4, V.fz_5, V.ow_5, V.ap_5, V.fz_6, V.ow_6, V.ap_6, V.fz_7, V.ow_7, V.ap_7, V.fz_8, V.ow_8, V.ap_8, V.fz_9, V.ow_9, V.ap_9, V.fz_10, V.ow_10, V.ap_10, V.fz_11, V.ow_11, V.ap_11, V.fz_12, V.ow_12, V.ap_12, V.fz_13, V.ow_13, V.ap_13, V.fz_14, V.ow_14, V.ap_14, V.fz_15, V.ow_15, V.ap_15, getE, setE, setMany, setNils, isTy, tyOf, List.map_cons, List.map_nil, List.length_cons, List.length_nil, List.cons_append, List.nil_append, List.append_nil, Nat.reduceSub, Nat.reduceAdd, atI_0, atI_1, atI_2, call_W5, call_W4, call_W2, call_W2o, call_W1, call_W1o, call_W0, call_W3, call_L0, call_L1, call_L1o, call_L2, call_L3, Option.some.injEq]
        refine ⟨rfl, rfl, ?_⟩
        rw [he, if_neg (by decide)]
        exact t9' _
      · exact nn z F so
    · rcases hd with ⟨rfl, hno⟩ | ⟨F', rfl, so'⟩
      · exact nn hno F so
      · rw [sol_same so' so]
        unfold b__law_right_8
        simp -implicitDefEqProofs only [V.rd_d, V.rd_o, V.rd_b, V.da_d, V.da_o, V.das_n, V.das_c, V.rds_n, V.rds_c, V.tr_b, V.tr_i, V.tr_n, V.tr_l, V.tr_t, V.tr_o, V.bn_add, V.bn_sub, V.bn_mul, V.bn_fdiv, V.bn_mod, V.bn_pow, V.bn_cat, V.cp_eq, V.cp_ne, V.cp_lt, V.cp_le, V.cp_gt, V.cp_ge, V.cp_in, V.cp_nin, V.is_n, V.isn_n, V.is_b, V.isn_b, V.is_i, V.isn_i, V.is_s, V.isn_s, V.is_l, V.isn_l, V.is_t, V.isn_t, V.is_bb, V.isn_bb, V.ix_l, V.ix_t, V.sl_l, V.bi_len, V.bi_lent, V.bi_abs, V.bi_max2, V.bi_min2, V.bi_int, V.bi_intb, V.bi_list, V.bi_listt, V.bi_tup, V.bi_tupt, V.bi_sum, V.bi_any, V.bi_all, V.bi_min1, V.bi_max1, V.bi_sorted, V.bi_repr, V.sq_d, V.sq_t, V.sq_o, V.ls_d, V.ls_o, V.tg_n, V.tg_t, V.vd_0, V.vo_0, V.vd_1, V.vo_1, V.vd_2, V.vo_2, V.vd_3, V.vo_3, V.vd_4, V.vo_4, V.vd_5, V.vo_5, V.vd_6, V.vo_6, V.vd_7, V.vo_7, V.vd_8, V.vo_8, V.vd_9, V.vo_9, V.vd_10, V.vo_10, V.vd_11, V.vo_11, V.vd_12, V.vo_12, V.vd_13, V.vo_13, V.vd_14, V.vo_14, V.vd_15, V.vo_15, V.e_int, V.e_bool, V.e_none, V.e_str, V.e_glob, V.e_bin, V.e_not, V.e_and, V.e_or, V.e_cmp, V.e_chain, V.e_ife, V.e_tup, V.e_lst, V.e_ix, V.e_call, V.e_callK, V.e_bi, V.e_inst, V.e_comp, V.ng, V.e_neg, V.e_slU, V.e_slL, V.e_lrg1, V.e_lrg3, V.es_n, V.es_c, V.it_seq, V.it_r1, V.it_r2, V.it_en, V.it_zip, V.ss_n, V.ss_c, V.s_asgF, V.kp_d, V.kp_o, V.s_asg, V.s_par, V.s_parN, V.tp_d, V.s_unp, V.s_expr, V.s_ret, V.s_retN, V.s_ite, V.s_for, V.s_pass, V.s_brk, V.s_cont, V.fz_0, V.ow_0, V.ap_0, V.fz_1, V.ow_1, V.ap_1, V.fz_2, V.ow_2, V.ap_2, V.fz_3, V.ow_3, V.ap_3, V.fz_4, V.ow_4, V.ap_4, V.fz_5, V.ow_5, V.ap_5, V.fz_6, V.ow_6, V.ap_6, V.fz_7, V.ow_7, V.ap_7, V.fz_8, V.ow_8, V.ap_8, V.fz_9, V.ow_9, V.ap_9, V.fz_10, V.ow_10, V.ap_10, V.fz_11, V.ow_11, V.ap_11, V.fz_12, V.ow_12, V.ap_12, V.fz_13, V.ow_13, V.ap_13, V.fz_14, V.ow_14, V.ap_14, V.fz_15, V.ow_15, V.ap_15, getE, setE, setMany, setNils, isTy, tyOf, List.map_cons, List.map_nil, List.length_cons, List.length_nil, List.cons_append, List.nil_append, List.append_nil, Nat.reduceSub, Nat.reduceAdd, atI_0, atI_1, atI_2, call_W5, call_W4, call_W2, call_W2o, call_W1, call_W1o, call_W0, call_W3, call_L0, call_L1, call_L1o, call_L2, call_L3, Option.some.injEq]
        refine ⟨hs, hs, ?_⟩
        rw [he, if_neg (by decide)]
        exact t9' _
  unfold b__law_right_6
  simp -implicitDefEqProofs only [RE, V.rd_d, V.rd_o, V.rd_b, V.da_d, V.da_o, V.das_n, V.das_c, V.rds_n, V.rds_c, V.tr_b, V.tr_i, V.tr_n, V.tr_l, V.tr_t, V.tr_o, V.bn_add, V.bn_sub, V.bn_mul, V.bn_fdiv, V.bn_mod, V.bn_pow, V.bn_cat, V.cp_eq, V.cp_ne, V.cp_lt, V.cp_le, V.cp_gt, V.cp_ge, V.cp_in, V.cp_nin, V.is_n, V.isn_n, V.is_b, V.isn_b, V.is_i, V.isn_i, V.is_s, V.isn_s, V.is_l, V.isn_l, V.is_t, V.isn_t, V.is_bb, V.isn_bb, V.ix_l, V.ix_t, V.sl_l, V.bi_len, V.bi_lent, V.bi_abs, V.bi_max2, V.bi_min2, V.bi_int, V.bi_intb, V.bi_list, V.bi_listt, V.bi_tup, V.bi_tupt, V.bi_sum, V.bi_any, V.bi_all, V.bi_min1, V.bi_max1, V.bi_sorted, V.bi_repr, V.sq_d, V.sq_t, V.sq_o, V.ls_d, V.ls_o, V.tg_n, V.tg_t, V.vd_0, V.vo_0, V.vd_1, V.vo_1, V.vd_2, V.vo_2, V.vd_3, V.vo_3, V.vd_4, V.vo_4, V.vd_5, V.vo_5, V.vd_6, V.vo_6, V.vd_7, V.vo_7, V.vd_8, V.vo_8, V.vd_9, V.vo_9, V.vd_10, V.vo_10, V.vd_11, V.vo_11, V.vd_12, V.vo_12, V.vd_13, V.vo_13, V.vd_14, V.vo_14, V.vd_15, V.vo_15, V.e_int, V.e_bool, V.e_none, V.e_str, V.e_glob, V.e_bin, V.e_not, V.e_and, V.e_or, V.e_cmp, V.e_chain, V.e_ife, V.e_tup, V.e_lst, V.e_ix, V.e_call, V.e_callK, V.e_bi, V.e_inst, V.e_comp, V.ng, V.e_neg, V.e_slU, V.e_slL, V.e_lrg1, V.e_lrg3, V.es_n, V.es_c, V.it_seq, V.it_r1, V.it_r2, V.it_en, V.it_zip, V.ss_n, V.ss_c, V.s_asgF, V.kp_d, V.kp_o, V.s_asg, V.s_par, V.s_parN, V.tp_d, V.s_unp, V.s_expr, V.s_ret, V.s_retN, V.s_ite, V.s_for, V.s_pass, V.s_brk, V.s_cont, V.fz_0, V.ow_0, V.ap_0, V.fz_1, V.ow_1, V.ap_1, V.fz_2, V.ow_2, V.ap_2, V.fz_3, V.ow_3, V.ap_3, V.fz_4, V.ow_4, V.ap_4, V.fz_5, V.ow_5, V.ap_5, V.fz_6, V.ow_6, V.ap_6, V.fz_7, V.ow_7, V.ap_7, V.fz_8, V.ow_8, V.ap_8, V.fz_9, V.ow_9, V.ap_9, V.fz_10, V.ow_10, V.ap_10, V.fz_11, V.ow_11, V.ap_11, V.fz_12, V.ow_12, V.ap_12, V.fz_13, V.ow_13, V.ap_13, V.fz_14, V.ow_14, V.ap_14, V.fz_15, V.ow_15, V.ap_15, getE, setE, setMany, setNils, isTy, tyOf, List.map_cons, List.map_nil, List.length_cons, List.length_nil, List.cons_append, List.nil_append, List.append_nil, Nat.reduceSub, Nat.reduceAdd, atI_0, atI_1, atI_2, call_W5, call_W4, call_W2, call_W2o, call_W1, call_W1o, call_W0, call_W3, call_L0, call_L1, call_L1o, call_L2, call_L3, Option.some.injEq, sp__law_progression]
  refine ⟨s, t, i, j, a, b, rfl, ok, fun z => ?_, fun F so => ?_⟩
  · simp -implicitDefEqProofs only [V.rd_d, V.rd_o, V.rd_b, V.da_d, V.da_o, V.das_n, V.das_c, V.rds_n, V.rds_c, V.tr_b, V.tr_i, V.tr_n, V.tr_l, V.tr_t, V.tr_o, V.bn_add, V.bn_sub, V.bn_mul, V.bn_fdiv, V.bn_mod, V.bn_pow, V.bn_cat, V.cp_eq, V.cp_ne, V.cp_lt, V.cp_le, V.cp_gt, V.cp_ge, V.cp_in, V.cp_nin, V.is_n, V.isn_n, V.is_b, V.isn_b, V.is_i, V.isn_i, V.is_s, V.isn_s, V.is_l, V.isn_l, V.is_t, V.isn_t, V.is_bb, V.isn_bb, V.ix_l, V.ix_t, V.sl_l, V.bi_len, V.bi_lent, V.bi_abs, V.bi_max2, V.bi_min2, V.bi_int, V.bi_intb, V.bi_list, V.bi_listt, V.bi_tup, V.bi_tupt, V.bi_sum, V.bi_any, V.bi_all, V.bi_min1, V.bi_max1, V.bi_sorted, V.bi_repr, V.sq_d, V.sq_t, V.sq_o, V.ls_d, V.ls_o, V.tg_n, V.tg_t, V.vd_0, V.vo_0, V.vd_1, V.vo_1, V.vd_2, V.vo_2, V.vd_3, V.vo_3, V.vd_4, V.vo_4, V.vd_5, V.vo_5, V.vd_6, V.vo_6, V.vd_7, V.vo_7, V.vd_8, V.vo_8, V.vd_9, V.vo_9, V.vd_10, V.vo_10, V.vd_11, V.vo_11, V.vd_12, V.vo_12, V.vd_13, V.vo_13, V.vd_14, V.vo_14, V.vd_15, V.vo_15, V.e_int, V.e_bool, V.e_none, V.e_str, V.e_glob, V.e_bin, V.e_not, V.e_and, V.e_or, V.e_cmp, V.e_chain, V.e_ife, V.e_tup, V.e_lst, V.e_ix, V.e_call, V.e_callK, V.e_bi, V.e_inst, V.e_comp, V.ng, V.e_neg, V.e_slU, V.e_slL, V.e_lrg1, V.e_lrg3, V.es_n, V.es_c, V.it_seq, V.it_r1, V.it_r2, V.it_en, V.it_zip, V.ss_n, V.ss_c, V.s_asgF, V.kp_d, V.kp_o, V.s_asg, V.s_par, V.s_parN, V.tp_d, V.s_unp, V.s_expr, V.s_ret, V.s_retN, V.s_ite, V.s_for, V.s_pass, V.s_brk, V.s_cont, V.fz_0, V.ow_0, V.ap_0, V.fz_1, V.ow_1, V.ap_1, V.fz_2, V.ow_2, V.ap_2, V.fz_3, V.ow_3, V.ap_3, V.fz_4, V.ow_4, V.ap_4, V.fz_5, V.ow_5, V.ap_5, V.fz_6, V.ow_6, V.ap_6, V.fz_7, V.ow_7, V.ap_7, V.fz_8, V.ow_8, V.ap_8, V.fz_9, V.ow_9, V.ap_9, V.fz_10, V.ow_10, V.ap_10, V.fz_11, V.ow_11, V.ap_11, V.fz_12, V.ow_12, V.ap_12, V.fz_13, V.ow_13, V.ap_13, V.fz_14, V.ow_14, V.ap_14, V.fz_15, V.ow_15, V.ap_15, getE, setE, setMany, setNils, isTy, tyOf, List.map_cons, List.map_nil, List.length_cons, List.length_nil, List.cons_append, List.nil_append, List.append_nil, Nat.reduceSub, Nat.reduceAdd, atI_0, atI_1, atI_2, call_W5, call_W4, call_W2, call_W2o, call_W1, call_W1o, call_W0, call_W3, call_L0, call_L1, call_L1o, call_L2, call_L3, Option.some.injEq]
    exact key .none (.inl ⟨rfl, z⟩) rfl rfl
  · simp -implicitDefEqProofs only [V.rd_d, V.rd_o, V.rd_b, V.da_d, V.da_o, V.das_n, V.das_c, V.rds_n, V.rds_c, V.tr_b, V.tr_i, V.tr_n, V.tr_l, V.tr_t, V.tr_o, V.bn_add, V.bn_sub, V.bn_mul, V.bn_fdiv, V.bn_mod, V.bn_pow, V.bn_cat, V.cp_eq, V.cp_ne, V.cp_lt, V.cp_le, V.cp_gt, V.cp_ge, V.cp_in, V.cp_nin, V.is_n, V.isn_n, V.is_b, V.isn_b, V.is_i, V.isn_i, V.is_s, V.isn_s, V.is_l, V.isn_l, V.is_t, V.isn_t, V.is_bb, V.isn_bb, V.ix_l, V.ix_t, V.sl_l, V.bi_len, V.bi_lent, V.bi_abs, V.bi_max2, V.bi_min2, V.bi_int, V.bi_intb, V.bi_list, V.bi_listt, V.bi_tup, V.bi_tupt, V.bi_sum, V.bi_any, V.bi_all, V.bi_min1, V.bi_max1, V.bi_sorted, V.bi_repr, V.sq_d, V.sq_t, V.sq_o, V.ls_d, V.ls_o, V.tg_n, V.tg_t, V.vd_0, V.vo_0, V.vd_1, V.vo_1, V.vd_2, V.vo_2, V.vd_3, V.vo_3, V.vd_4, V.vo_4, V.vd_5, V.vo_5, V.vd_6, V.vo_6, V.vd_7, V.vo_7, V.vd_8, V.vo_8, V.vd_9, V.vo_9, V.vd_10, V.vo_10, V.vd_11, V.vo_11, V.vd_12, V.vo_12, V.vd_13, V.vo_13, V.vd_14, V.vo_14, V.vd_15, V.vo_15, V.e_int, V.e_bool, V.e_none, V.e_str, V.e_glob, V.e_bin, V.e_not, V.e_and, V.e_or, V.e_cmp, V.e_chain, V.e_ife, V.e_tup, V.e_lst, V.e_ix, V.e_call, V.e_callK, V.e_bi, V.e_inst, V.e_comp, V.ng, V.e_neg, V.e_slU, V.e_slL, V.e_lrg1, V.e_lrg3, V.es_n, V.es_c, V.it_seq, V.it_r1, V.it_r2, V.it_en, V.it_zip, V.ss_n, V.ss_c, V.s_asgF, V.kp_d, V.kp_o, V.s_asg, V.s_par, V.s_parN, V.tp_d, V.s_unp, V.s_expr, V.s_ret, V.s_retN, V.s_ite, V.s_for, V.s_pass, V.s_brk, V.s_cont, V.fz_0, V.ow_0, V.ap_0, V.fz_1, V.ow_1, V.ap_1, V.fz_2, V.ow_2, V.ap_2, V.fz_3, V.ow_3, V.ap_3, V.fz_4, V.ow_4, V.ap_4, V.fz_5, V.ow_5, V.ap_5, V.fz_6, V.ow_6, V.ap_6, V.fz_7, V.ow_7, V.ap_7, V.fz_8, V.ow_8, V.ap_8, V.fz_9, V.ow_9, V.ap_9, V.fz_10, V.ow_10, V.ap_10, V.fz_11, V.ow_11, V.ap_11, V.fz_12, V.ow_12, V.ap_12, V.fz_13, V.ow_13, V.ap_13, V.fz_14, V.ow_14, V.ap_14, V.fz_15, V.ow_15, V.ap_15, getE, setE, setMany, setNils, isTy, tyOf, List.map_cons, List.map_nil, List.length_cons, List.length_nil, List.cons_append, List.nil_append, List.append_nil, Nat.reduceSub, Nat.reduceAdd, atI_0, atI_1, atI_2, call_W5, call_W4, call_W2, call_W2o, call_W1, call_W1o, call_W0, call_W3, call_L0, call_L1, call_L1o, call_L2, call_L3, Option.some.injEq]
    exact key _ (.inr ⟨F, rfl, so⟩) rfl eqv_tn
end
theorem p__law_right : Body 1 13 [0] b__law_right sp__law_right := by
  refine body_LT (fun l xs k h => ?_) fun l xs k h D hD _ => ?_
  · obtain ⟨rfl, _⟩ := h; rfl
  obtain ⟨rfl, hu, h⟩ := h
  have hr : ∀ l' env, getE env 0 = some (.o l') → D.rt (.d (.bool true)) env := fun l' env he => hD _ _ _ he (h l')
  have sl : ∀ x : Int, 0 < x → x ≤ 1000000 → sz 2000 x := fun x h1 h2 => by
    have : sz 20 x := by unfold sz; omega
    exact this.mono (by decide)
  have most : ∀ (mo : Int) (l1 : List PyData), 0 < mo → mo ≤ 100 → Urn 1 l1 → wSs X0 b__law_right_2 [some (.o l1), some (.d (.int mo)), none, none, none, none, none, none, none, none, none, none, none] D := fun mo l1 m0 m1 hu1 => by
    unfold b__law_right_2
    simp -implicitDefEqProofs only [V.rd_d, V.rd_o, V.rd_b, V.da_d, V.da_o, V.das_n, V.das_c, V.rds_n, V.rds_c, V.tr_b, V.tr_i, V.tr_n, V.tr_l, V.tr_t, V.tr_o, V.bn_add, V.bn_sub, V.bn_mul, V.bn_fdiv, V.bn_mod, V.bn_pow, V.bn_cat, V.cp_eq, V.cp_ne, V.cp_lt, V.cp_le, V.cp_gt, V.cp_ge, V.cp_in, V.cp_nin, V.is_n, V.isn_n, V.is_b, V.isn_b, V.is_i, V.isn_i, V.is_s, V.isn_s, V.is_l, V.isn_l, V.is_t, V.isn_t, V.is_bb, V.isn_bb, V.ix_l, V.ix_t, V.sl_l, V.bi_len, V.bi_lent, V.bi_abs, V.bi_max2, V.bi_min2, V.bi_int, V.bi_intb, V.bi_list, V.bi_listt, V.bi_tup, V.bi_tupt, V.bi_sum, V.bi_any, V.bi_all, V.bi_min1, V.bi_max1, V.bi_sorted, V.bi_repr, V.sq_d, V.sq_t, V.sq_o, V.ls_d, V.ls_o, V.tg_n, V.tg_t, V.vd_0, V.vo_0, V.vd_1, V.vo_1, V.vd_2, V.vo_2, V.vd_3, V.vo_3, V.vd_4, V.vo_4, V.vd_5, V.vo_5, V.vd_6, V.vo_6, V.vd_7, V.vo_7, V.vd_8, V.vo_8, V.vd_9, V.vo_9, V.vd_10, V.vo_10, V.vd_11, V.vo_11, V.vd_12, V.vo_12, V.vd_13, V.vo_13, V.vd_14, V.vo_14, V.vd_15, V.vo_15, V.e_int, V.e_bool, V.e_none, V.e_str, V.e_glob, V.e_bin, V.e_not, V.e_and, V.e_or, V.e_cmp, V.e_chain, V.e_ife, V.e_tup, V.e_lst, V.e_ix, V.e_call, V.e_callK, V.e_bi, V.e_inst, V.e_comp, V.ng, V.e_neg, V.e_slU, V.e_slL, V.e_lrg1, V.e_lrg3, V.es_n, V.es_c, V.it_seq, V.it_r1, V.it_r2, V.it_en, V.it_zip, V.ss_n, V.ss_c, V.s_asgF, V.kp_d, V.kp_o, V.s_asg, V.s_par, V.s_parN, V.tp_d, V.s_unp, V.s_expr, V.s_ret, V.s_retN, V.s_ite, V.s_for, V.s_pass, V.s_brk, V.s_cont, V.fz_0, V.ow_0, V.ap_0, V.fz_1, V.ow_1, V.ap_1, V.fz_2, V.ow_2, V.ap_2, V.fz_3, V.ow_3, V.ap_3, V.fz_4, V.ow_4, V.ap_4, V.fz_5, V.ow_5, V.ap_5, V.fz_6, V.ow_6, V.ap_6, V.fz_7, V.ow_7, V.ap_7, V.fz_8, V.ow_8, V.ap_8, V.fz_9, V.ow_9, V.ap_9, V.fz_10, V.ow_10, V.ap_10, V.fz_11, V.ow_11, V.ap_11, V.fz_12, V.ow_12, V.ap_12, V.fz_13, V.ow_13, V.ap_13, V.fz_14, V.ow_14, V.ap_14, V.fz_15, V.ow_15, V.ap_15, getE, setE, setMany, setNils, isTy, tyOf, List.map_cons, List.map_nil, List.length_cons, List.length_nil, List.cons_append, List.nil_append, List.append_nil, Nat.reduceSub, Nat.reduceAdd, atI_0, atI_1, atI_2, call_W5, call_W4, call_W2, call_W2o, call_W1, call_W1o, call_W0, call_W3, call_L0, call_L1, call_L1o, call_L2, call_L3, Option.some.injEq, sp__law_pick]
    refine ⟨1, _, rfl, hu1, by omega, m0, sl _ m0 (by omega), fun s l2 s0 s1 hu2 => ?_⟩
    simp -implicitDefEqProofs only [V.rd_d, V.rd_o, V.rd_b, V.da_d, V.da_o, V.das_n, V.das_c, V.rds_n, V.rds_c, V.tr_b, V.tr_i, V.tr_n, V.tr_l, V.tr_t, V.tr_o, V.bn_add, V.bn_sub, V.bn_mul, V.bn_fdiv, V.bn_mod, V.bn_pow, V.bn_cat, V.cp_eq, V.cp_ne, V.cp_lt, V.cp_le, V.cp_gt, V.cp_ge, V.cp_in, V.cp_nin, V.is_n, V.isn_n, V.is_b, V.isn_b, V.is_i, V.isn_i, V.is_s, V.isn_s, V.is_l, V.isn_l, V.is_t, V.isn_t, V.is_bb, V.isn_bb, V.ix_l, V.ix_t, V.sl_l, V.bi_len, V.bi_lent, V.bi_abs, V.bi_max2, V.bi_min2, V.bi_int, V.bi_intb, V.bi_list, V.bi_listt, V.bi_tup, V.bi_tupt, V.bi_sum, V.bi_any, V.bi_all, V.bi_min1, V.bi_max1, V.bi_sorted, V.bi_repr, V.sq_d, V.sq_t, V.sq_o, V.ls_d, V.ls_o, V.tg_n, V.tg_t, V.vd_0, V.vo_0, V.vd_1, V.vo_1, V.vd_2, V.vo_2, V.vd_3, V.vo_3, V.vd_4, V.vo_4, V.vd_5, V.vo_5, V.vd_6, V.vo_6, V.vd_7, V.vo_7, V.vd_8, V.vo_8, V.vd_9, V.vo_9, V.vd_10, V.vo_10, V.vd_11, V.vo_11, V.vd_12, V.vo_12, V.vd_13, V.vo_13, V.vd_14, V.vo_14, V.vd_15, V.vo_15, V.e_int, V.e_bool, V.e_none, V.e_str, V.e_glob, V.e_bin, V.e_not, V.e_and, V.e_or, V.e_cmp, V.e_chain, V.e_ife, V.e_tup, V.e_lst, V.e_ix, V.e_call, V.e_callK, V.e_bi, V.e_inst, V.e_comp, V.ng, V.e_neg, V.e_slU, V.e_slL, V.e_lrg1, V.e_lrg3, V.es_n, V.es_c, V.it_seq, V.it_r1, V.it_r2, V.it_en, V.it_zip, V.ss_n, V.ss_c, V.s_asgF, V.kp_d, V.kp_o, V.s_asg, V.s_par, V.s_parN, V.tp_d, V.s_unp, V.s_expr, V.s_ret, V.s_retN, V.s_ite, V.s_for, V.s_pass, V.s_brk, V.s_cont, V.fz_0, V.ow_0, V.ap_0, V.fz_1, V.ow_1, V.ap_1, V.fz_2, V.ow_2, V.ap_2, V.fz_3, V.ow_3, V.ap_3, V.fz_4, V.ow_4, V.ap_4, V.fz_5, V.ow_5, V.ap_5, V.fz_6, V.ow_6, V.ap_6, V.fz_7, V.ow_7, V.ap_7, V.fz_8, V.ow_8, V.ap_8, V.fz_9, V.ow_9, V.ap_9, V.fz_10, V.ow_10, V.ap_10, V.fz_11, V.ow_11, V.ap_11, V.fz_12, V.ow_12, V.ap_12, V.fz_13, V.ow_13, V.ap_13, V.fz_14, V.ow_14, V.ap_14, V.fz_15, V.ow_15, V.ap_15, getE, setE, setMany, setNils, isTy, tyOf, List.map_cons, List.map_nil, List.length_cons, List.length_nil, List.cons_append, List.nil_append, List.append_nil, Nat.reduceSub, Nat.reduceAdd, atI_0, atI_1, atI_2, call_W5, call_W4, call_W2, call_W2o, call_W1, call_W1o, call_W0, call_W3, call_L0, call_L1, call_L1o, call_L2, call_L3, Option.some.injEq]
    refine ⟨2, _, rfl, hu2, by omega, m0, sl _ m0 (by omega), fun t l3 t0 t1 hu3 => ?_⟩
    simp -implicitDefEqProofs only [V.rd_d, V.rd_o, V.rd_b, V.da_d, V.da_o, V.das_n, V.das_c, V.rds_n, V.rds_c, V.tr_b, V.tr_i, V.tr_n, V.tr_l, V.tr_t, V.tr_o, V.bn_add, V.bn_sub, V.bn_mul, V.bn_fdiv, V.bn_mod, V.bn_pow, V.bn_cat, V.cp_eq, V.cp_ne, V.cp_lt, V.cp_le, V.cp_gt, V.cp_ge, V.cp_in, V.cp_nin, V.is_n, V.isn_n, V.is_b, V.isn_b, V.is_i, V.isn_i, V.is_s, V.isn_s, V.is_l, V.isn_l, V.is_t, V.isn_t, V.is_bb, V.isn_bb, V.ix_l, V.ix_t, V.sl_l, V.bi_len, V.bi_lent, V.bi_abs, V.bi_max2, V.bi_min2, V.bi_int, V.bi_intb, V.bi_list, V.bi_listt, V.bi_tup, V.bi_tupt, V.bi_sum, V.bi_any, V.bi_all, V.bi_min1, V.bi_max1, V.bi_sorted, V.bi_repr, V.sq_d, V.sq_t, V.sq_o, V.ls_d, V.ls_o, V.tg_n, V.tg_t, V.vd_0, V.vo_0, V.vd_1, V.vo_1, V.vd_2, V.vo_2, V.vd_3, V.vo_3, V.vd_4, V.vo_4, V.vd_5, V.vo_5, V.vd_6, V.vo_6, V.vd_7, V.vo_7, V.vd_8, V.vo_8, V.vd_9, V.vo_9, V.vd_10, V.vo_10, V.vd_11, V.vo_11, V.vd_12, V.vo_12, V.vd_13, V.vo_13, V.vd_14, V.vo_14, V.vd_15, V.vo_15, V.e_int, V.e_bool, V.e_none, V.e_str, V.e_glob, V.e_bin, V.e_not, V.e_and, V.e_or, V.e_cmp, V.e_chain, V.e_ife, V.e_tup, V.e_lst, V.e_ix, V.e_call, V.e_callK, V.e_bi, V.e_inst, V.e_comp, V.ng, V.e_neg, V.e_slU, V.e_slL, V.e_lrg1, V.e_lrg3, V.es_n, V.es_c, V.it_seq, V.it_r1, V.it_r2, V.it_en, V.it_zip, V.ss_n, V.ss_c, V.s_asgF, V.kp_d, V.kp_o, V.s_asg, V.s_par, V.s_parN, V.tp_d, V.s_unp, V.s_expr, V.s_ret, V.s_retN, V.s_ite, V.s_for, V.s_pass, V.s_brk, V.s_cont, V.fz_0, V.ow_0, V.ap_0, V.fz_1, V.ow_1, V.ap_1, V.fz_2, V.ow_2, V.ap_2, V.fz_3, V.ow_3, V.ap_3, V.fz_4, V.ow_4, V.ap_4, V.fz_5, V.ow_5, V.ap_5, V.fz_6, V.ow_6, V.ap_6, V.fz_7, V.ow_7, V.ap_7, V.fz_8, V.ow_8, V.ap_8, V.fz_9, V.ow_9, V.ap_9, V.fz_10, V.ow_10, V.ap_10, V.fz_11, V.ow_11, V.ap_11, V.fz_12, V.ow_12, V.ap_12, V.fz_13, V.ow_13, V.ap_13, V.fz_14, V.ow_14, V.ap_14, V.fz_15, V.ow_15, V.ap_15, getE, setE, setMany, setNils, isTy, tyOf, List.map_cons, List.map_nil, List.length_cons, List.length_nil, List.cons_append, List.nil_append, List.append_nil, Nat.reduceSub, Nat.reduceAdd, atI_0, atI_1, atI_2, call_W5, call_W4, call_W2, call_W2o, call_W1, call_W1o, call_W0, call_W3, call_L0, call_L1, call_L1o, call_L2, call_L3, Option.some.injEq]
    refine ⟨trivial, ?_⟩
    generalize hs : 1 + s = S
    generalize ht : 1 + t = T
    unfold b__law_right_3
    simp -implicitDefEqProofs only [V.rd_d, V.rd_o, V.rd_b, V.da_d, V.da_o, V.das_n, V.das_c, V.rds_n, V.rds_c, V.tr_b, V.tr_i, V.tr_n, V.tr_l, V.tr_t, V.tr_o, V.bn_add, V.bn_sub, V.bn_mul, V.bn_fdiv, V.bn_mod, V.bn_pow, V.bn_cat, V.cp_eq, V.cp_ne, V.cp_lt, V.cp_le, V.cp_gt, V.cp_ge, V.cp_in, V.cp_nin, V.is_n, V.isn_n, V.is_b, V.isn_b, V.is_i, V.isn_i, V.is_s, V.isn_s, V.is_l, V.isn_l, V.is_t, V.isn_t, V.is_bb, V.isn_bb, V.ix_l, V.ix_t, V.sl_l, V.bi_len, V.bi_lent, V.bi_abs, V.bi_max2, V.bi_min2, V.bi_int, V.bi_intb, V.bi_list, V.bi_listt, V.bi_tup, V.bi_tupt, V.bi_sum, V.bi_any, V.bi_all, V.bi_min1, V.bi_max1, V.bi_sorted, V.bi_repr, V.sq_d, V.sq_t, V.sq_o, V.ls_d, V.ls_o, V.tg_n, V.tg_t, V.vd_0, V.vo_0, V.vd_1, V.vo_1, V.vd_2, V.vo_2, V.vd_3, V.vo_3, V.vd_4, V.vo_4, V.vd_5, V.vo_5, V.vd_6, V.vo_6, V.vd_7, V.vo_7, V.vd_8, V.vo_8, V.vd_9, V.vo_9, V.vd_10, V.vo_10, V.vd_11, V.vo_11, V.vd_12, V.vo_12, V.vd_13, V.vo_13, V.vd_14, V.vo_14, V.vd_15, V.vo_15, V.e_int, V.e_bool, V.e_none, V.e_str, V.e_glob, V.e_bin, V.e_not, V.e_and, V.e_or, V.e_cmp, V.e_chain, V.e_ife, V.e_tup, V.e_lst, V.e_ix, V.e_call, V.e_callK, V.e_bi, V.e_inst, V.e_comp, V.ng, V.e_neg, V.e_slU, V.e_slL, V.e_lrg1, V.e_lrg3, V.es_n, V.es_c, V.it_seq, V.it_r1, V.it_r2, V.it_en, V.it_zip, V.ss_n, V.ss_c, V.s_asgF, V.kp_d, V.kp_o, V.s_asg, V.s_par, V.s_parN, V.tp_d, V.s_unp, V.s_expr, V.s_ret, V.s_retN, V.s_ite, V.s_for, V.s_pass, V.s_brk, V.s_cont, V.fz_0, V.ow_0, V.ap_0, V.fz_1, V.ow_1, V.ap_1, V.fz_2, V.ow_2, V.ap_2, V.fz_3, V.ow_3, V.ap_3, V.fz_4, V.ow_4, V.ap_4, V.fz_5, V.ow_5, V.ap_5, V.fz_6, V.ow_6, V.ap_6, V.fz_7, V.ow_7, V.ap_7, V.fz_8, V.ow_8, V.ap_8, V.fz_9, V.ow_9, V.ap_9, V.fz_10, V.ow_10, V.ap_10, V.fz_11, V.ow_11, V.ap_11, V.fz_12, V.ow_12, V.ap_12, V.fz_13, V.ow_13, V.ap_13, V.fz_14, V.ow_14, V.ap_14, V.fz_15, V.ow_15, V.ap_15, getE, setE, setMany, setNils, isTy, tyOf, List.map_cons, List.map_nil, List.length_cons, List.length_nil, List.cons_append, List.nil_append, List.append_nil, Nat.reduceSub, Nat.reduceAdd, atI_0, atI_1, atI_2, call_W5, call_W4, call_W2, call_W2o, call_W1, call_W1o, call_W0, call_W3, call_L0, call_L1, call_L1o, call_L2, call_L3, Option.some.injEq, sp__law_pick]
    refine ⟨3, _, rfl, hu3, by omega, by omega, sl _ (by omega) (by omega), fun i l4 i0 i1 hu4 => ?_⟩
    simp -implicitDefEqProofs only [V.rd_d, V.rd_o, V.rd_b, V.da_d, V.da_o, V.das_n, V.das_c, V.rds_n, V.rds_c, V.tr_b, V.tr_i, V.tr_n, V.tr_l, V.tr_t, V.tr_o, V.bn_add, V.bn_sub, V.bn_mul, V.bn_fdiv, V.bn_mod, V.bn_pow, V.bn_cat, V.cp_eq, V.cp_ne, V.cp_lt, V.cp_le, V.cp_gt, V.cp_ge, V.cp_in, V.cp_nin, V.is_n, V.isn_n, V.is_b, V.isn_b, V.is_i, V.isn_i, V.is_s, V.isn_s, V.is_l, V.isn_l, V.is_t, V.isn_t, V.is_bb, V.isn_bb, V.ix_l, V.ix_t, V.sl_l, V.bi_len, V.bi_lent, V.bi_abs, V.bi_max2, V.bi_min2, V.bi_int, V.bi_intb, V.bi_list, V.bi_listt, V.bi_tup, V.bi_tupt, V.bi_sum, V.bi_any, V.bi_all, V.bi_min1, V.bi_max1, V.bi_sorted, V.bi_repr, V.sq_d, V.sq_t, V.sq_o, V.ls_d, V.ls_o, V.tg_n, V.tg_t, V.vd_0, V.vo_0, V.vd_1, V.vo_1, V.vd_2, V.vo_2, V.vd_3, V.vo_3, V.vd_4, V.vo_4, V.vd_5, V.vo_5, V.vd_6, V.vo_6, V.vd_7, V.vo_7, V.vd_8, V.vo_8, V.vd_9, V.vo_9, V.vd_10, V.vo_10, V.vd_11, V.vo_11, V.vd_12, V.vo_12, V.vd_13, V.vo_13, V.vd_14, V.vo_14, V.vd_15, V.vo_15, V.e_int, V.e_bool, V.e_none, V.e_str, V.e_glob, V.e_bin, V.e_not, V.e_and, V.e_or, V.e_cmp, V.e_chain, V.e_ife, V.e_tup, V.e_lst, V.e_ix, V.e_call, V.e_callK, V.e_bi, V.e_inst, V.e_comp, V.ng, V.e_neg, V.e_slU, V.e_slL, V.e_lrg1, V.e_lrg3, V.es_n, V.es_c, V.it_seq, V.it_r1, V.it_r2, V.it_en, V.it_zip, V.ss_n, V.ss_c, V.s_asgF, V.kp_d, V.kp_o, V.s_asg, V.s_par, V.s_parN, V.tp_d, V.s_unp, V.s_expr, V.s_ret, V.s_retN, V.s_ite, V.s_for, V.s_pass, V.s_brk, V.s_cont, V.fz_0, V.ow_0, V.ap_0, V.fz_1, V.ow_1, V.ap_1, V.fz_2, V.ow_2, V.ap_2, V.fz_3, V.ow_3, V.ap_3, V.fz_4, V.ow_4, V.ap_4, V.fz_5, V.ow_5, V.ap_5, V.fz_6, V.ow_6, V.ap_6, V.fz_7, V.ow_7, V.ap_7, V.fz_8, V.ow_8, V.ap_8, V.fz_9, V.ow_9, V.ap_9, V.fz_10, V.ow_10, V.ap_10, V.fz_11, V.ow_11, V.ap_11, V.fz_12, V.ow_12, V.ap_12, V.fz_13, V.ow_13, V.ap_13, V.fz_14, V.ow_14, V.ap_14, V.fz_15, V.ow_15, V.ap_15, getE, setE, setMany, setNils, isTy, tyOf, List.map_cons, List.map_nil, List.length_cons, List.length_nil, List.cons_append, List.nil_append, List.append_nil, Nat.reduceSub, Nat.reduceAdd, atI_0, atI_1, atI_2, call_W5, call_W4, call_W2, call_W2o, call_W1, call_W1o, call_W0, call_W3, call_L0, call_L1, call_L1o, call_L2, call_L3, Option.some.injEq]
    refine ⟨4, _, rfl, hu4, by omega, by omega, sl _ (by omega) (by omega), fun j l5 j0 j1 hu5 => ?_⟩
    simp -implicitDefEqProofs only [V.rd_d, V.rd_o, V.rd_b, V.da_d, V.da_o, V.das_n, V.das_c, V.rds_n, V.rds_c, V.tr_b, V.tr_i, V.tr_n, V.tr_l, V.tr_t, V.tr_o, V.bn_add, V.bn_sub, V.bn_mul, V.bn_fdiv, V.bn_mod, V.bn_pow, V.bn_cat, V.cp_eq, V.cp_ne, V.cp_lt, V.cp_le, V.cp_gt, V.cp_ge, V.cp_in, V.cp_nin, V.is_n, V.isn_n, V.is_b, V.isn_b, V.is_i, V.isn_i, V.is_s, V.isn_s, V.is_l, V.isn_l, V.is_t, V.isn_t, V.is_bb, V.isn_bb, V.ix_l, V.ix_t, V.sl_l, V.bi_len, V.bi_lent, V.bi_abs, V.bi_max2, V.bi_min2, V.bi_int, V.bi_intb, V.bi_list, V.bi_listt, V.bi_tup, V.bi_tupt, V.bi_sum, V.bi_any, V.bi_all, V.bi_min1, V.bi_max1, V.bi_sorted, V.bi_repr, V.sq_d, V.sq_t, V.sq_o, V.ls_d, V.ls_o, V.tg_n, V.tg_t, V.vd_0, V.vo_0, V.vd_1, V.vo_1, V.vd_2, V.vo_2, V.vd_3, V.vo_3, V.vd_4, V.vo_4, V.vd_5, V.vo_5, V.vd_6, V.vo_6, V.vd_7, V.vo_7, V.vd_8, V.vo_8, V.vd_9, V.vo_9, V.vd_10, V.vo_10, V.vd_11, V.vo_11, V.vd_12, V.vo_12, V.vd_13, V.vo_13, V.vd_14, V.vo_14, V.vd_15, V.vo_15, V.e_int, V.e_bool, V.e_none, V.e_str, V.e_glob, V.e_bin, V.e_not, V.e_and, V.e_or, V.e_cmp, V.e_chain, V.e_ife, V.e_tup, V.e_lst, V.e_ix, V.e_call, V.e_callK, V.e_bi, V.e_inst, V.e_comp, V.ng, V.e_neg, V.e_slU, V.e_slL, V.e_lrg1, V.e_lrg3, V.es_n, V.es_c, V.it_seq, V.it_r1, V.it_r2, V.it_en, V.it_zip, V.ss_n, V.ss_c, V.s_asgF, V.kp_d, V.kp_o, V.s_asg, V.s_par, V.s_parN, V.tp_d, V.s_unp, V.s_expr, V.s_ret, V.s_retN, V.s_ite, V.s_for, V.s_pass, V.s_brk, V.s_cont, V.fz_0, V.ow_0, V.ap_0, V.fz_1, V.ow_1, V.ap_1, V.fz_2, V.ow_2, V.ap_2, V.fz_3, V.ow_3, V.ap_3, V.fz_4, V.ow_4, V.ap_4, V.fz_5, V.ow_5, V.ap_5, V.fz_6, V.ow_6, V.ap_6, V.fz_7, V.ow_7, V.ap_7, V.fz_8, V.ow_8, V.ap_8, V.fz_9, V.ow_9, V.ap_9, V.fz_10, V.ow_10, V.ap_10, V.fz_11, V.ow_11, V.ap_11, V.fz_12, V.ow_12, V.ap_12, V.fz_13, V.ow_13, V.ap_13, V.fz_14, V.ow_14, V.ap_14, V.fz_15, V.ow_15, V.ap_15, getE, setE, setMany, setNils, isTy, tyOf, List.map_cons, List.map_nil, List.length_cons, List.length_nil, List.cons_append, List.nil_append, List.append_nil, Nat.reduceSub, Nat.reduceAdd, atI_0, atI_1, atI_2, call_W5, call_W4, call_W2, call_W2o, call_W1, call_W1o, call_W0, call_W3, call_L0, call_L1, call_L1o, call_L2, call_L3, Option.some.injEq]
    have ok0 : okM S T i j 0 0 := ⟨⟨by omega, by omega⟩, ⟨by omega, by omega⟩, ⟨i0, i1⟩, ⟨j0, j1⟩, ⟨by omega, by omega⟩, by omega, by omega⟩
    obtain ⟨Lp, Ll⟩ := iL_pos ok0
    have hl := rows_len (s := S) (t := T) (i := i) (j := j) (n := lcm2 S T) (by omega)
    unfold b__law_right_4
    simp -implicitDefEqProofs only [V.rd_d, V.rd_o, V.rd_b, V.da_d, V.da_o, V.das_n, V.das_c, V.rds_n, V.rds_c, V.tr_b, V.tr_i, V.tr_n, V.tr_l, V.tr_t, V.tr_o, V.bn_add, V.bn_sub, V.bn_mul, V.bn_fdiv, V.bn_mod, V.bn_pow, V.bn_cat, V.cp_eq, V.cp_ne, V.cp_lt, V.cp_le, V.cp_gt, V.cp_ge, V.cp_in, V.cp_nin, V.is_n, V.isn_n, V.is_b, V.isn_b, V.is_i, V.isn_i, V.is_s, V.isn_s, V.is_l, V.isn_l, V.is_t, V.isn_t, V.is_bb, V.isn_bb, V.ix_l, V.ix_t, V.sl_l, V.bi_len, V.bi_lent, V.bi_abs, V.bi_max2, V.bi_min2, V.bi_int, V.bi_intb, V.bi_list, V.bi_listt, V.bi_tup, V.bi_tupt, V.bi_sum, V.bi_any, V.bi_all, V.bi_min1, V.bi_max1, V.bi_sorted, V.bi_repr, V.sq_d, V.sq_t, V.sq_o, V.ls_d, V.ls_o, V.tg_n, V.tg_t, V.vd_0, V.vo_0, V.vd_1, V.vo_1, V.vd_2, V.vo_2, V.vd_3, V.vo_3, V.vd_4, V.vo_4, V.vd_5, V.vo_5, V.vd_6, V.vo_6, V.vd_7, V.vo_7, V.vd_8, V.vo_8, V.vd_9, V.vo_9, V.vd_10, V.vo_10, V.vd_11, V.vo_11, V.vd_12, V.vo_12, V.vd_13, V.vo_13, V.vd_14, V.vo_14, V.vd_15, V.vo_15, V.e_int, V.e_bool, V.e_none, V.e_str, V.e_glob, V.e_bin, V.e_not, V.e_and, V.e_or, V.e_cmp, V.e_chain, V.e_ife, V.e_tup, V.e_lst, V.e_ix, V.e_call, V.e_callK, V.e_bi, V.e_inst, V.e_comp, V.ng, V.e_neg, V.e_slU, V.e_slL, V.e_lrg1, V.e_lrg3, V.es_n, V.es_c, V.it_seq, V.it_r1, V.it_r2, V.it_en, V.it_zip, V.ss_n, V.ss_c, V.s_asgF, V.kp_d, V.kp_o, V.s_asg, V.s_par, V.s_parN, V.tp_d, V.s_unp, V.s_expr, V.s_ret, V.s_retN, V.s_ite, V.s_for, V.s_pass, V.s_brk, V.s_cont, V.fz_0, V.ow_0, V.ap_0, V.fz_1, V.ow_1, V.ap_1, V.fz_2, V.ow_2, V.ap_2, V.fz_3, V.ow_3, V.ap_3, V.fz_4, V.ow_4, V.ap_4, V.fz_5, V.ow_5, V.ap_5, V.fz_6, V.ow_6, V.ap_6, V.fz_7, V.ow_7, V.ap_7, V.fz_8, V.ow_8, V.ap_8, V.fz_9, V.ow_9, V.ap_9, V.fz_10, V.ow_10, V.ap_10, V.fz_11, V.ow_11, V.ap_11, V.fz_12, V.ow_12, V.ap_12, V.fz_13, V.ow_13, V.ap_13, V.fz_14, V.ow_14, V.ap_14, V.fz_15, V.ow_15, V.ap_15, getE, setE, setMany, setNils, isTy, tyOf, List.map_cons, List.map_nil, List.length_cons, List.length_nil, List.cons_append, List.nil_append, List.append_nil, Nat.reduceSub, Nat.reduceAdd, atI_0, atI_1, atI_2, call_W5, call_W4, call_W2, call_W2o, call_W1, call_W1o, call_W0, call_W3, call_L0, call_L1, call_L1o, call_L2, call_L3, Option.some.injEq, sp__law_passes, w__law_passes]
    refine ⟨ok0, ?_⟩
    try simp -implicitDefEqProofs only [V.rd_d, V.rd_o, V.rd_b, V.da_d, V.da_o, V.das_n, V.das_c, V.rds_n, V.rds_c, V.tr_b, V.tr_i, V.tr_n, V.tr_l, V.tr_t, V.tr_o, V.bn_add, V.bn_sub, V.bn_mul, V.bn_fdiv, V.bn_mod, V.bn_pow, V.bn_cat, V.cp_eq, V.cp_ne, V.cp_lt, V.cp_le, V.cp_gt, V.cp_ge, V.cp_in, V.cp_nin, V.is_n, V.isn_n, V.is_b, V.isn_b, V.is_i, V.isn_i, V.is_s, V.isn_s, V.is_l, V.isn_l, V.is_t, V.isn_t, V.is_bb, V.isn_bb, V.ix_l, V.ix_t, V.sl_l, V.bi_len, V.bi_lent, V.bi_abs, V.bi_max2, V.bi_min2, V.bi_int, V.bi_intb, V.bi_list, V.bi_listt, V.bi_tup, V.bi_tupt, V.bi_sum, V.bi_any, V.bi_all, V.bi_min1, V.bi_max1, V.bi_sorted, V.bi_repr, V.sq_d, V.sq_t, V.sq_o, V.ls_d, V.ls_o, V.tg_n, V.tg_t, V.vd_0, V.vo_0, V.vd_1, V.vo_1, V.vd_2, V.vo_2, V.vd_3, V.vo_3, V.vd_4, V.vo_4, V.vd_5, V.vo_5, V.vd_6, V.vo_6, V.vd_7, V.vo_7, V.vd_8, V.vo_8, V.vd_9, V.vo_9, V.vd_10, V.vo_10, V.vd_11, V.vo_11, V.vd_12, V.vo_12, V.vd_13, V.vo_13, V.vd_14, V.vo_14, V.vd_15, V.vo_15, V.e_int, V.e_bool, V.e_none, V.e_str, V.e_glob, V.e_bin, V.e_not, V.e_and, V.e_or, V.e_cmp, V.e_chain, V.e_ife, V.e_tup, V.e_lst, V.e_ix, V.e_call, V.e_callK, V.e_bi, V.e_inst, V.e_comp, V.ng, V.e_neg, V.e_slU, V.e_slL, V.e_lrg1, V.e_lrg3, V.es_n, V.es_c, V.it_seq, V.it_r1, V.it_r2, V.it_en, V.it_zip, V.ss_n, V.ss_c, V.s_asgF, V.kp_d, V.kp_o, V.s_asg, V.s_par, V.s_parN, V.tp_d, V.s_unp, V.s_expr, V.s_ret, V.s_retN, V.s_ite, V.s_for, V.s_pass, V.s_brk, V.s_cont, V.fz_0, V.ow_0, V.ap_0, V.fz_1, V.ow_1, V.ap_1, V.fz_2, V.ow_2, V.ap_2, V.fz_3, V.ow_3, V.ap_3, V.fz_4, V.ow_4, V.ap_4, V.fz_5, V.ow_5, V.ap_5, V.fz_6, V.ow_6, V.ap_6, V.fz_7, V.ow_7, V.ap_7, V.fz_8, V.ow_8, V.ap_8, V.fz_9, V.ow_9, V.ap_9, V.fz_10, V.ow_10, V.ap_10, V.fz_11, V.ow_11, V.ap_11, V.fz_12, V.ow_12, V.ap_12, V.fz_13, V.ow_13, V.ap_13, V.fz_14, V.ow_14, V.ap_14, V.fz_15, V.ow_15, V.ap_15, getE, setE, setMany, setNils, isTy, tyOf, List.map_cons, List.map_nil, List.length_cons, List.length_nil, List.cons_append, List.nil_append, List.append_nil, Nat.reduceSub, Nat.reduceAdd, atI_0, atI_1, atI_2, call_W5, call_W4, call_W2, call_W2o, call_W1, call_W1o, call_W0, call_W3, call_L0, call_L1, call_L1o, call_L2, call_L3, Option.some.injEq]
    have fin : ∀ (a b : Int) (l9 : List PyData), 0 ≤ a → a < S → 0 ≤ b → b < T → Urn 9 l9 → wSs X0 b__law_right_6 (RE l9 (some (.d (.int mo))) S T i j a b none none none none) D := fun a b l9 a0 a1 b0 b1 hu9 =>
      t6 ⟨⟨by omega, by omega⟩, ⟨by omega, by omega⟩, ⟨i0, i1⟩, ⟨j0, j1⟩, ⟨a0, a1⟩, b0, b1⟩ hu9 (by omega) hr
    unfold b__law_right_5
    simp -implicitDefEqProofs only [V.rd_d, V.rd_o, V.rd_b, V.da_d, V.da_o, V.das_n, V.das_c, V.rds_n, V.rds_c, V.tr_b, V.tr_i, V.tr_n, V.tr_l, V.tr_t, V.tr_o, V.bn_add, V.bn_sub, V.bn_mul, V.bn_fdiv, V.bn_mod, V.bn_pow, V.bn_cat, V.cp_eq, V.cp_ne, V.cp_lt, V.cp_le, V.cp_gt, V.cp_ge, V.cp_in, V.cp_nin, V.is_n, V.isn_n, V.is_b, V.isn_b, V.is_i, V.isn_i, V.is_s, V.isn_s, V.is_l, V.isn_l, V.is_t, V.isn_t, V.is_bb, V.isn_bb, V.ix_l, V.ix_t, V.sl_l, V.bi_len, V.bi_lent, V.bi_abs, V.bi_max2, V.bi_min2, V.bi_int, V.bi_intb, V.bi_list, V.bi_listt, V.bi_tup, V.bi_tupt, V.bi_sum, V.bi_any, V.bi_all, V.bi_min1, V.bi_max1, V.bi_sorted, V.bi_repr, V.sq_d, V.sq_t, V.sq_o, V.ls_d, V.ls_o, V.tg_n, V.tg_t, V.vd_0, V.vo_0, V.vd_1, V.vo_1, V.vd_2, V.vo_2, V.vd_3, V.vo_3, V.vd_4, V.vo_4, V.vd_5, V.vo_5, V.vd_6, V.vo_6, V.vd_7, V.vo_7, V.vd_8, V.vo_8, V.vd_9, V.vo_9, V.vd_10, V.vo_10, V.vd_11, V.vo_11, V.vd_12, V.vo_12, V.vd_13, V.vo_13, V.vd_14, V.vo_14, V.vd_15, V.vo_15, V.e_int, V.e_bool, V.e_none, V.e_str, V.e_glob, V.e_bin, V.e_not, V.e_and, V.e_or, V.e_cmp, V.e_chain, V.e_ife, V.e_tup, V.e_lst, V.e_ix, V.e_call, V.e_callK, V.e_bi, V.e_inst, V.e_comp, V.ng, V.e_neg, V.e_slU, V.e_slL, V.e_lrg1, V.e_lrg3, V.es_n, V.es_c, V.it_seq, V.it_r1, V.it_r2, V.it_en, V.it_zip, V.ss_n, V.ss_c, V.s_asgF, V.kp_d, V.kp_o, V.s_asg, V.s_par, V.s_parN, V.tp_d, V.s_unp, V.s_expr, V.s_ret, V.s_retN, V.s_ite, V.s_for, V.s_pass, V.s_brk, V.s_cont, V.fz_0, V.ow_0, V.ap_0, V.fz_1, V.ow_1, V.ap_1, V.fz_2, V.ow_2, V.ap_2, V.fz_3, V.ow_3, V.ap_3, V.fz_4, V.ow_4, V.ap_4, V.fz_5, V.ow_5, V.ap_5, V.fz_6, V.ow_6, V.ap_6, V.fz_7, V.ow_7, V.ap_7, V.fz_8, V.ow_8, V.ap_8, V.fz_9, V.ow_9, V.ap_9, V.fz_10, V.ow_10, V.ap_10, V.fz_11, V.ow_11, V.ap_11, V.fz_12, V.ow_12, V.ap_12, V.fz_13, V.ow_13, V.ap_13, V.fz_14, V.ow_14, V.ap_14, V.fz_15, V.ow_15, V.ap_15, getE, setE, setMany, setNils, isTy, tyOf, List.map_cons, List.map_nil, List.length_cons, List.length_nil, List.cons_append, List.nil_append, List.append_nil, Nat.reduceSub, Nat.reduceAdd, atI_0, atI_1, atI_2, call_W5, call_W4, call_W2, call_W2o, call_W1, call_W1o, call_W0, call_W3, call_L0, call_L1, call_L1o, call_L2, call_L3, Option.some.injEq, sp__law_pick]
    refine ⟨5, _, rfl, hu5, by omega, by omega, sl _ (by omega) (by omega), fun x l6 x0 x1 hu6 => ?_⟩
    simp -implicitDefEqProofs only [V.rd_d, V.rd_o, V.rd_b, V.da_d, V.da_o, V.das_n, V.das_c, V.rds_n, V.rds_c, V.tr_b, V.tr_i, V.tr_n, V.tr_l, V.tr_t, V.tr_o, V.bn_add, V.bn_sub, V.bn_mul, V.bn_fdiv, V.bn_mod, V.bn_pow, V.bn_cat, V.cp_eq, V.cp_ne, V.cp_lt, V.cp_le, V.cp_gt, V.cp_ge, V.cp_in, V.cp_nin, V.is_n, V.isn_n, V.is_b, V.isn_b, V.is_i, V.isn_i, V.is_s, V.isn_s, V.is_l, V.isn_l, V.is_t, V.isn_t, V.is_bb, V.isn_bb, V.ix_l, V.ix_t, V.sl_l, V.bi_len, V.bi_lent, V.bi_abs, V.bi_max2, V.bi_min2, V.bi_int, V.bi_intb, V.bi_list, V.bi_listt, V.bi_tup, V.bi_tupt, V.bi_sum, V.bi_any, V.bi_all, V.bi_min1, V.bi_max1, V.bi_sorted, V.bi_repr, V.sq_d, V.sq_t, V.sq_o, V.ls_d, V.ls_o, V.tg_n, V.tg_t, V.vd_0, V.vo_0, V.vd_1, V.vo_1, V.vd_2, V.vo_2, V.vd_3, V.vo_3, V.vd_4, V.vo_4, V.vd_5, V.vo_5, V.vd_6, V.vo_6, V.vd_7, V.vo_7, V.vd_8, V.vo_8, V.vd_9, V.vo_9, V.vd_10, V.vo_10, V.vd_11, V.vo_11, V.vd_12, V.vo_12, V.vd_13, V.vo_13, V.vd_14, V.vo_14, V.vd_15, V.vo_15, V.e_int, V.e_bool, V.e_none, V.e_str, V.e_glob, V.e_bin, V.e_not, V.e_and, V.e_or, V.e_cmp, V.e_chain, V.e_ife, V.e_tup, V.e_lst, V.e_ix, V.e_call, V.e_callK, V.e_bi, V.e_inst, V.e_comp, V.ng, V.e_neg, V.e_slU, V.e_slL, V.e_lrg1, V.e_lrg3, V.es_n, V.es_c, V.it_seq, V.it_r1, V.it_r2, V.it_en, V.it_zip, V.ss_n, V.ss_c, V.s_asgF, V.kp_d, V.kp_o, V.s_asg, V.s_par, V.s_parN, V.tp_d, V.s_unp, V.s_expr, V.s_ret, V.s_retN, V.s_ite, V.s_for, V.s_pass, V.s_brk, V.s_cont, V.fz_0, V.ow_0, V.ap_0, V.fz_1, V.ow_1, V.ap_1, V.fz_2, V.ow_2, V.ap_2, V.fz_3, V.ow_3, V.ap_3, V.fz_4, V.ow_4, V.ap_4, V.fz_5, V.ow_5, V.ap_5, V.fz_6, V.ow_6, V.ap_6, V.fz_7, V.ow_7, V.ap_7, V.fz_8, V.ow_8, V.ap_8, V.fz_9, V.ow_9, V.ap_9, V.fz_10, V.ow_10, V.ap_10, V.fz_11, V.ow_11, V.ap_11, V.fz_12, V.ow_12, V.ap_12, V.fz_13, V.ow_13, V.ap_13, V.fz_14, V.ow_14, V.ap_14, V.fz_15, V.ow_15, V.ap_15, getE, setE, setMany, setNils, isTy, tyOf, List.map_cons, List.map_nil, List.length_cons, List.length_nil, List.cons_append, List.nil_append, List.append_nil, Nat.reduceSub, Nat.reduceAdd, atI_0, atI_1, atI_2, call_W5, call_W4, call_W2, call_W2o, call_W1, call_W1o, call_W0, call_W3, call_L0, call_L1, call_L1o, call_L2, call_L3, Option.some.injEq]
    refine ⟨6, _, rfl, hu6, by omega, by omega, sl _ (by omega) (by omega), fun y l7 y0 y1 hu7 => ?_⟩
    simp -implicitDefEqProofs only [V.rd_d, V.rd_o, V.rd_b, V.da_d, V.da_o, V.das_n, V.das_c, V.rds_n, V.rds_c, V.tr_b, V.tr_i, V.tr_n, V.tr_l, V.tr_t, V.tr_o, V.bn_add, V.bn_sub, V.bn_mul, V.bn_fdiv, V.bn_mod, V.bn_pow, V.bn_cat, V.cp_eq, V.cp_ne, V.cp_lt, V.cp_le, V.cp_gt, V.cp_ge, V.cp_in, V.cp_nin, V.is_n, V.isn_n, V.is_b, V.isn_b, V.is_i, V.isn_i, V.is_s, V.isn_s, V.is_l, V.isn_l, V.is_t, V.isn_t, V.is_bb, V.isn_bb, V.ix_l, V.ix_t, V.sl_l, V.bi_len, V.bi_lent, V.bi_abs, V.bi_max2, V.bi_min2, V.bi_int, V.bi_intb, V.bi_list, V.bi_listt, V.bi_tup, V.bi_tupt, V.bi_sum, V.bi_any, V.bi_all, V.bi_min1, V.bi_max1, V.bi_sorted, V.bi_repr, V.sq_d, V.sq_t, V.sq_o, V.ls_d, V.ls_o, V.tg_n, V.tg_t, V.vd_0, V.vo_0, V.vd_1, V.vo_1, V.vd_2, V.vo_2, V.vd_3, V.vo_3, V.vd_4, V.vo_4, V.vd_5, V.vo_5, V.vd_6, V.vo_6, V.vd_7, V.vo_7, V.vd_8, V.vo_8, V.vd_9, V.vo_9, V.vd_10, V.vo_10, V.vd_11, V.vo_11, V.vd_12, V.vo_12, V.vd_13, V.vo_13, V.vd_14, V.vo_14, V.vd_15, V.vo_15, V.e_int, V.e_bool, V.e_none, V.e_str, V.e_glob, V.e_bin, V.e_not, V.e_and, V.e_or, V.e_cmp, V.e_chain, V.e_ife, V.e_tup, V.e_lst, V.e_ix, V.e_call, V.e_callK, V.e_bi, V.e_inst, V.e_comp, V.ng, V.e_neg, V.e_slU, V.e_slL, V.e_lrg1, V.e_lrg3, V.es_n, V.es_c, V.it_seq, V.it_r1, V.it_r2, V.it_en, V.it_zip, V.ss_n, V.ss_c, V.s_asgF, V.kp_d, V.kp_o, V.s_asg, V.s_par, V.s_parN, V.tp_d, V.s_unp, V.s_expr, V.s_ret, V.s_retN, V.s_ite, V.s_for, V.s_pass, V.s_brk, V.s_cont, V.fz_0, V.ow_0, V.ap_0, V.fz_1, V.ow_1, V.ap_1, V.fz_2, V.ow_2, V.ap_2, V.fz_3, V.ow_3, V.ap_3, V.fz_4, V.ow_4, V.ap_4, V.fz_5, V.ow_5, V.ap_5, V.fz_6, V.ow_6, V.ap_6, V.fz_7, V.ow_7, V.ap_7, V.fz_8, V.ow_8, V.ap_8, V.fz_9, V.ow_9, V.ap_9, V.fz_10, V.ow_10, V.ap_10, V.fz_11, V.ow_11, V.ap_11, V.fz_12, V.ow_12, V.ap_12, V.fz_13, V.ow_13, V.ap_13, V.fz_14, V.ow_14, V.ap_14, V.fz_15, V.ow_15, V.ap_15, getE, setE, setMany, setNils, isTy, tyOf, List.map_cons, List.map_nil, List.length_cons, List.length_nil, List.cons_append, List.nil_append, List.append_nil, Nat.reduceSub, Nat.reduceAdd, atI_0, atI_1, atI_2, call_W5, call_W4, call_W2, call_W2o, call_W1, call_W1o, call_W0, call_W3, call_L0, call_L1, call_L1o, call_L2, call_L3, Option.some.injEq, hl]
    refine ⟨7, _, rfl, hu7, by omega, Lp, sl _ Lp Ll, fun q l8 q0 q1 hu8 => ?_⟩
    simp -implicitDefEqProofs only [V.rd_d, V.rd_o, V.rd_b, V.da_d, V.da_o, V.das_n, V.das_c, V.rds_n, V.rds_c, V.tr_b, V.tr_i, V.tr_n, V.tr_l, V.tr_t, V.tr_o, V.bn_add, V.bn_sub, V.bn_mul, V.bn_fdiv, V.bn_mod, V.bn_pow, V.bn_cat, V.cp_eq, V.cp_ne, V.cp_lt, V.cp_le, V.cp_gt, V.cp_ge, V.cp_in, V.cp_nin, V.is_n, V.isn_n, V.is_b, V.isn_b, V.is_i, V.isn_i, V.is_s, V.isn_s, V.is_l, V.isn_l, V.is_t, V.isn_t, V.is_bb, V.isn_bb, V.ix_l, V.ix_t, V.sl_l, V.bi_len, V.bi_lent, V.bi_abs, V.bi_max2, V.bi_min2, V.bi_int, V.bi_intb, V.bi_list, V.bi_listt, V.bi_tup, V.bi_tupt, V.bi_sum, V.bi_any, V.bi_all, V.bi_min1, V.bi_max1, V.bi_sorted, V.bi_repr, V.sq_d, V.sq_t, V.sq_o, V.ls_d, V.ls_o, V.tg_n, V.tg_t, V.vd_0, V.vo_0, V.vd_1, V.vo_1, V.vd_2, V.vo_2, V.vd_3, V.vo_3, V.vd_4, V.vo_4, V.vd_5, V.vo_5, V.vd_6, V.vo_6, V.vd_7, V.vo_7, V.vd_8, V.vo_8, V.vd_9, V.vo_9, V.vd_10, V.vo_10, V.vd_11, V.vo_11, V.vd_12, V.vo_12, V.vd_13, V.vo_13, V.vd_14, V.vo_14, V.vd_15, V.vo_15, V.e_int, V.e_bool, V.e_none, V.e_str, V.e_glob, V.e_bin, V.e_not, V.e_and, V.e_or, V.e_cmp, V.e_chain, V.e_ife, V.e_tup, V.e_lst, V.e_ix, V.e_call, V.e_callK, V.e_bi, V.e_inst, V.e_comp, V.ng, V.e_neg, V.e_slU, V.e_slL, V.e_lrg1, V.e_lrg3, V.es_n, V.es_c, V.it_seq, V.it_r1, V.it_r2, V.it_en, V.it_zip, V.ss_n, V.ss_c, V.s_asgF, V.kp_d, V.kp_o, V.s_asg, V.s_par, V.s_parN, V.tp_d, V.s_unp, V.s_expr, V.s_ret, V.s_retN, V.s_ite, V.s_for, V.s_pass, V.s_brk, V.s_cont, V.fz_0, V.ow_0, V.ap_0, V.fz_1, V.ow_1, V.ap_1, V.fz_2, V.ow_2, V.ap_2, V.fz_3, V.ow_3, V.ap_3, V.fz_4, V.ow_4, V.ap_4, V.fz_5, V.ow_5, V.ap_5, V.fz_6, V.ow_6, V.ap_6, V.fz_7, V.ow_7, V.ap_7, V.fz_8, V.ow_8, V.ap_8, V.fz_9, V.ow_9, V.ap_9, V.fz_10, V.ow_10, V.ap_10, V.fz_11, V.ow_11, V.ap_11, V.fz_12, V.ow_12, V.ap_12, V.fz_13, V.ow_13, V.ap_13, V.fz_14, V.ow_14, V.ap_14, V.fz_15, V.ow_15, V.ap_15, getE, setE, setMany, setNils, isTy, tyOf, List.map_cons, List.map_nil, List.length_cons, List.length_nil, List.cons_append, List.nil_append, List.append_nil, Nat.reduceSub, Nat.reduceAdd, atI_0, atI_1, atI_2, call_W5, call_W4, call_W2, call_W2o, call_W1, call_W1o, call_W0, call_W3, call_L0, call_L1, call_L1o, call_L2, call_L3, Option.some.injEq]
    rw [atI_rows q0 q1]
    simp -implicitDefEqProofs only [V.rd_d, V.rd_o, V.rd_b, V.da_d, V.da_o, V.das_n, V.das_c, V.rds_n, V.rds_c, V.tr_b, V.tr_i, V.tr_n, V.tr_l, V.tr_t, V.tr_o, V.bn_add, V.bn_sub, V.bn_mul, V.bn_fdiv, V.bn_mod, V.bn_pow, V.bn_cat, V.cp_eq, V.cp_ne, V.cp_lt, V.cp_le, V.cp_gt, V.cp_ge, V.cp_in, V.cp_nin, V.is_n, V.isn_n, V.is_b, V.isn_b, V.is_i, V.isn_i, V.is_s, V.isn_s, V.is_l, V.isn_l, V.is_t, V.isn_t, V.is_bb, V.isn_bb, V.ix_l, V.ix_t, V.sl_l, V.bi_len, V.bi_lent, V.bi_abs, V.bi_max2, V.bi_min2, V.bi_int, V.bi_intb, V.bi_list, V.bi_listt, V.bi_tup, V.bi_tupt, V.bi_sum, V.bi_any, V.bi_all, V.bi_min1, V.bi_max1, V.bi_sorted, V.bi_repr, V.sq_d, V.sq_t, V.sq_o, V.ls_d, V.ls_o, V.tg_n, V.tg_t, V.vd_0, V.vo_0, V.vd_1, V.vo_1, V.vd_2, V.vo_2, V.vd_3, V.vo_3, V.vd_4, V.vo_4, V.vd_5, V.vo_5, V.vd_6, V.vo_6, V.vd_7, V.vo_7, V.vd_8, V.vo_8, V.vd_9, V.vo_9, V.vd_10, V.vo_10, V.vd_11, V.vo_11, V.vd_12, V.vo_12, V.vd_13, V.vo_13, V.vd_14, V.vo_14, V.vd_15, V.vo_15, V.e_int, V.e_bool, V.e_none, V.e_str, V.e_glob, V.e_bin, V.e_not, V.e_and, V.e_or, V.e_cmp, V.e_chain, V.e_ife, V.e_tup, V.e_lst, V.e_ix, V.e_call, V.e_callK, V.e_bi, V.e_inst, V.e_comp, V.ng, V.e_neg, V.e_slU, V.e_slL, V.e_lrg1, V.e_lrg3, V.es_n, V.es_c, V.it_seq, V.it_r1, V.it_r2, V.it_en, V.it_zip, V.ss_n, V.ss_c, V.s_asgF, V.kp_d, V.kp_o, V.s_asg, V.s_par, V.s_parN, V.tp_d, V.s_unp, V.s_expr, V.s_ret, V.s_retN, V.s_ite, V.s_for, V.s_pass, V.s_brk, V.s_cont, V.fz_0, V.ow_0, V.ap_0, V.fz_1, V.ow_1, V.ap_1, V.fz_2, V.ow_2, V.ap_2, V.fz_3, V.ow_3, V.ap_3, V.fz_4, V.ow_4, V.ap_4, V.fz_5, V.ow_5, V.ap_5, V.fz_6, V.ow_6, V.ap_6, V.fz_7, V.ow_7, V.ap_7, V.fz_8, V.ow_8, V.ap_8, V.fz_9, V.ow_9, V.ap_9, V.fz_10, V.ow_10, V.ap_10, V.fz_11, V.ow_11, V.ap_11, V.fz_12, V.ow_12, V.ap_12, V.fz_13, V.ow_13, V.ap_13, V.fz_14, V.ow_14, V.ap_14, V.fz_15, V.ow_15, V.ap_15, getE, setE, setMany, setNils, isTy, tyOf, List.map_cons, List.map_nil, List.length_cons, List.length_nil, List.cons_append, List.nil_append, List.append_nil, Nat.reduceSub, Nat.reduceAdd, atI_0, atI_1, atI_2, call_W5, call_W4, call_W2, call_W2o, call_W1, call_W1o, call_W0, call_W3, call_L0, call_L1, call_L1o, call_L2, call_L3, Option.some.injEq]
    refine ⟨8, _, rfl, hu8, by omega, by decide, sl _ (by decide) (by decide), fun c l9 c0 c1 hu9 => ?_⟩
    simp -implicitDefEqProofs only [V.rd_d, V.rd_o, V.rd_b, V.da_d, V.da_o, V.das_n, V.das_c, V.rds_n, V.rds_c, V.tr_b, V.tr_i, V.tr_n, V.tr_l, V.tr_t, V.tr_o, V.bn_add, V.bn_sub, V.bn_mul, V.bn_fdiv, V.bn_mod, V.bn_pow, V.bn_cat, V.cp_eq, V.cp_ne, V.cp_lt, V.cp_le, V.cp_gt, V.cp_ge, V.cp_in, V.cp_nin, V.is_n, V.isn_n, V.is_b, V.isn_b, V.is_i, V.isn_i, V.is_s, V.isn_s, V.is_l, V.isn_l, V.is_t, V.isn_t, V.is_bb, V.isn_bb, V.ix_l, V.ix_t, V.sl_l, V.bi_len, V.bi_lent, V.bi_abs, V.bi_max2, V.bi_min2, V.bi_int, V.bi_intb, V.bi_list, V.bi_listt, V.bi_tup, V.bi_tupt, V.bi_sum, V.bi_any, V.bi_all, V.bi_min1, V.bi_max1, V.bi_sorted, V.bi_repr, V.sq_d, V.sq_t, V.sq_o, V.ls_d, V.ls_o, V.tg_n, V.tg_t, V.vd_0, V.vo_0, V.vd_1, V.vo_1, V.vd_2, V.vo_2, V.vd_3, V.vo_3, V.vd_4, V.vo_4, V.vd_5, V.vo_5, V.vd_6, V.vo_6, V.vd_7, V.vo_7, V.vd_8, V.vo_8, V.vd_9, V.vo_9, V.vd_10, V.vo_10, V.vd_11, V.vo_11, V.vd_12, V.vo_12, V.vd_13, V.vo_13, V.vd_14, V.vo_14, V.vd_15, V.vo_15, V.e_int, V.e_bool, V.e_none, V.e_str, V.e_glob, V.e_bin, V.e_not, V.e_and, V.e_or, V.e_cmp, V.e_chain, V.e_ife, V.e_tup, V.e_lst, V.e_ix, V.e_call, V.e_callK, V.e_bi, V.e_inst, V.e_comp, V.ng, V.e_neg, V.e_slU, V.e_slL, V.e_lrg1, V.e_lrg3, V.es_n, V.es_c, V.it_seq, V.it_r1, V.it_r2, V.it_en, V.it_zip, V.ss_n, V.ss_c, V.s_asgF, V.kp_d, V.kp_o, V.s_asg, V.s_par, V.s_parN, V.tp_d, V.s_unp, V.s_expr, V.s_ret, V.s_retN, V.s_ite, V.s_for, V.s_pass, V.s_brk, V.s_cont, V.fz_0, V.ow_0, V.ap_0, V.fz_1, V.ow_1, V.ap_1, V.fz_2, V.ow_2, V.ap_2, V.fz_3, V.ow_3, V.ap_3, V.fz_4, V.ow_4, V.ap_4, V.fz_5, V.ow_5, V.ap_5, V.fz_6, V.ow_6, V.ap_6, V.fz_7, V.ow_7, V.ap_7, V.fz_8, V.ow_8, V.ap_8, V.fz_9, V.ow_9, V.ap_9, V.fz_10, V.ow_10, V.ap_10, V.fz_11, V.ow_11, V.ap_11, V.fz_12, V.ow_12, V.ap_12, V.fz_13, V.ow_13, V.ap_13, V.fz_14, V.ow_14, V.ap_14, V.fz_15, V.ow_15, V.ap_15, getE, setE, setMany, setNils, isTy, tyOf, List.map_cons, List.map_nil, List.length_cons, List.length_nil, List.cons_append, List.nil_append, List.append_nil, Nat.reduceSub, Nat.reduceAdd, atI_0, atI_1, atI_2, call_W5, call_W4, call_W2, call_W2o, call_W1, call_W1o, call_W0, call_W3, call_L0, call_L1, call_L1o, call_L2, call_L3, Option.some.injEq]
    have hc : c = 0 ∨ c = 1 := by omega
    rcases hc with rfl | rfl
    · simp -implicitDefEqProofs only [V.rd_d, V.rd_o, V.rd_b, V.da_d, V.da_o, V.das_n, V.das_c, V.rds_n, V.rds_c, V.tr_b, V.tr_i, V.tr_n, V.tr_l, V.tr_t, V.tr_o, V.bn_add, V.bn_sub, V.bn_mul, V.bn_fdiv, V.bn_mod, V.bn_pow, V.bn_cat, V.cp_eq, V.cp_ne, V.cp_lt, V.cp_le, V.cp_gt, V.cp_ge, V.cp_in, V.cp_nin, V.is_n, V.isn_n, V.is_b, V.isn_b, V.is_i, V.isn_i, V.is_s, V.isn_s, V.is_l, V.isn_l, V.is_t, V.isn_t, V.is_bb, V.isn_bb, V.ix_l, V.ix_t, V.sl_l, V.bi_len, V.bi_lent, V.bi_abs, V.bi_max2, V.bi_min2, V.bi_int, V.bi_intb, V.bi_list, V.bi_listt, V.bi_tup, V.bi_tupt, V.bi_sum, V.bi_any, V.bi_all, V.bi_min1, V.bi_max1, V.bi_sorted, V.bi_repr, V.sq_d, V.sq_t, V.sq_o, V.ls_d, V.ls_o, V.tg_n, V.tg_t, V.vd_0, V.vo_0, V.vd_1, V.vo_1, V.vd_2, V.vo_2, V.vd_3, V.vo_3, V.vd_4, V.vo_4, V.vd_5, V.vo_5, V.vd_6, V.vo_6, V.vd_7, V.vo_7, V.vd_8, V.vo_8, V.vd_9, V.vo_9, V.vd_10, V.vo_10, V.vd_11, V.vo_11, V.vd_12, V.vo_12, V.vd_13, V.vo_13, V.vd_14, V.vo_14, V.vd_15, V.vo_15, V.e_int, V.e_bool, V.e_none, V.e_str, V.e_glob, V.e_bin, V.e_not, V.e_and, V.e_or, V.e_cmp, V.e_chain, V.e_ife, V.e_tup, V.e_lst, V.e_ix, V.e_call, V.e_callK, V.e_bi, V.e_inst, V.e_comp, V.ng, V.e_neg, V.e_slU, V.e_slL, V.e_lrg1, V.e_lrg3, V.es_n, V.es_c, V.it_seq, V.it_r1, V.it_r2, V.it_en, V.it_zip, V.ss_n, V.ss_c, V.s_asgF, V.kp_d, V.kp_o, V.s_asg, V.s_par, V.s_parN, V.tp_d, V.s_unp, V.s_expr, V.s_ret, V.s_retN, V.s_ite, V.s_for, V.s_pass, V.s_brk, V.s_cont, V.fz_0, V.ow_0, V.ap_0, V.fz_1, V.ow_1, V.ap_1, V.fz_2, V.ow_2, V.ap_2, V.fz_3, V.ow_3, V.ap_3, V.fz_4, V.ow_4, V.ap_4, V.fz_5, V.ow_5, V.ap_5, V.fz_6, V.ow_6, V.ap_6, V.fz_7, V.ow_7, V.ap_7, V.fz_8, V.ow_8, V.ap_8, V.fz_9, V.ow_9, V.ap_9, V.fz_10, V.ow_10, V.ap_10, V.fz_11, V.ow_11, V.ap_11, V.fz_12, V.ow_12, V.ap_12, V.fz_13, V.ow_13, V.ap_13, V.fz_14, V.ow_14, V.ap_14, V.fz_15, V.ow_15, V.ap_15, getE, setE, setMany, setNils, isTy, tyOf, List.map_cons, List.map_nil, List.length_cons, List.length_nil, List.cons_append, List.nil_append, List.append_nil, Nat.reduceSub, Nat.reduceAdd, atI_0, atI_1, atI_2, call_W5, call_W4, call_W2, call_W2o, call_W1, call_W1o, call_W0, call_W3, call_L0, call_L1, call_L1o, call_L2, call_L3, Option.some.injEq]
      exact fin x y l9 x0 x1 y0 y1 hu9
    · simp -implicitDefEqProofs only [V.rd_d, V.rd_o, V.rd_b, V.da_d, V.da_o, V.das_n, V.das_c, V.rds_n, V.rds_c, V.tr_b, V.tr_i, V.tr_n, V.tr_l, V.tr_t, V.tr_o, V.bn_add, V.bn_sub, V.bn_mul, V.bn_fdiv, V.bn_mod, V.bn_pow, V.bn_cat, V.cp_eq, V.cp_ne, V.cp_lt, V.cp_le, V.cp_gt, V.cp_ge, V.cp_in, V.cp_nin, V.is_n, V.isn_n, V.is_b, V.isn_b, V.is_i, V.isn_i, V.is_s, V.isn_s, V.is_l, V.isn_l, V.is_t, V.isn_t, V.is_bb, V.isn_bb, V.ix_l, V.ix_t, V.sl_l, V.bi_len, V.bi_lent, V.bi_abs, V.bi_max2, V.bi_min2, V.bi_int, V.bi_intb, V.bi_list, V.bi_listt, V.bi_tup, V.bi_tupt, V.bi_sum, V.bi_any, V.bi_all, V.bi_min1, V.bi_max1, V.bi_sorted, V.bi_repr, V.sq_d, V.sq_t, V.sq_o, V.ls_d, V.ls_o, V.tg_n, V.tg_t, V.vd_0, V.vo_0, V.vd_1, V.vo_1, V.vd_2, V.vo_2, V.vd_3, V.vo_3, V.vd_4, V.vo_4, V.vd_5, V.vo_5, V.vd_6, V.vo_6, V.vd_7, V.vo_7, V.vd_8, V.vo_8, V.vd_9, V.vo_9, V.vd_10, V.vo_10, V.vd_11, V.vo_11, V.vd_12, V.vo_12, V.vd_13, V.vo_13, V.vd_14, V.vo_14, V.vd_15, V.vo_15, V.e_int, V.e_bool, V.e_none, V.e_str, V.e_glob, V.e_bin, V.e_not, V.e_and, V.e_or, V.e_cmp, V.e_chain, V.e_ife, V.e_tup, V.e_lst, V.e_ix, V.e_call, V.e_callK, V.e_bi, V.e_inst, V.e_comp, V.ng, V.e_neg, V.e_slU, V.e_slL, V.e_lrg1, V.e_lrg3, V.es_n, V.es_c, V.it_seq, V.it_r1, V.it_r2, V.it_en, V.it_zip, V.ss_n, V.ss_c, V.s_asgF, V.kp_d, V.kp_o, V.s_asg, V.s_par, V.s_parN, V.tp_d, V.s_unp, V.s_expr, V.s_ret, V.s_retN, V.s_ite, V.s_for, V.s_pass, V.s_brk, V.s_cont, V.fz_0, V.ow_0, V.ap_0, V.fz_1, V.ow_1, V.ap_1, V.fz_2, V.ow_2, V.ap_2, V.fz_3, V.ow_3, V.ap_3, V.fz_4, V.ow_4, V.ap_4, V.fz_5, V.ow_5, V.ap_5, V.fz_6, V.ow_6, V.ap_6, V.fz_7, V.ow_7, V.ap_7, V.fz_8, V.ow_8, V.ap_8, V.fz_9, V.ow_9, V.ap_9, V.fz_10, V.ow_10, V.ap_10, V.fz_11, V.ow_11, V.ap_11, V.fz_12, V.ow_12, V.ap_12, V.fz_13, V.ow_13, V.ap_13, V.fz_14, V.ow_14, V.ap_14, V.fz_15, V.ow_15, V.ap_15, getE, setE, setMany, setNils, isTy, tyOf, List.map_cons, List.map_nil, List.length_cons, List.length_nil, List.cons_append, List.nil_append, List.append_nil, Nat.reduceSub, Nat.reduceAdd, atI_0, atI_1, atI_2, call_W5, call_W4, call_W2, call_W2o, call_W1, call_W1o, call_W0, call_W3, call_L0, call_L1, call_L1o, call_L2, call_L3, Option.some.injEq]
      exact fin _ _ l9 (Int.emod_nonneg _ (by omega)) (Int.emod_lt_of_pos _ (by omega)) (Int.emod_nonneg _ (by omega)) (Int.emod_lt_of_pos _ (by omega)) hu9
  unfold b__law_right
  simp only [initE, List.map_cons, List.map_nil, List.length_cons, List.length_nil, Nat.reduceAdd, Nat.reduceSub, List.replicate, List.cons_append, List.nil_append]
  simp -implicitDefEqProofs only [V.rd_d, V.rd_o, V.rd_b, V.da_d, V.da_o, V.das_n, V.das_c, V.rds_n, V.rds_c, V.tr_b, V.tr_i, V.tr_n, V.tr_l, V.tr_t, V.tr_o, V.bn_add, V.bn_sub, V.bn_mul, V.bn_fdiv, V.bn_mod, V.bn_pow, V.bn_cat, V.cp_eq, V.cp_ne, V.cp_lt, V.cp_le, V.cp_gt, V.cp_ge, V.cp_in, V.cp_nin, V.is_n, V.isn_n, V.is_b, V.isn_b, V.is_i, V.isn_i, V.is_s, V.isn_s, V.is_l, V.isn_l, V.is_t, V.isn_t, V.is_bb, V.isn_bb, V.ix_l, V.ix_t, V.sl_l, V.bi_len, V.bi_lent, V.bi_abs, V.bi_max2, V.bi_min2, V.bi_int, V.bi_intb, V.bi_list, V.bi_listt, V.bi_tup, V.bi_tupt, V.bi_sum, V.bi_any, V.bi_all, V.bi_min1, V.bi_max1, V.bi_sorted, V.bi_repr, V.sq_d, V.sq_t, V.sq_o, V.ls_d, V.ls_o, V.tg_n, V.tg_t, V.vd_0, V.vo_0, V.vd_1, V.vo_1, V.vd_2, V.vo_2, V.vd_3, V.vo_3, V.vd_4, V.vo_4, V.vd_5, V.vo_5, V.vd_6, V.vo_6, V.vd_7, V.vo_7, V.vd_8, V.vo_8, V.vd_9, V.vo_9, V.vd_10, V.vo_10, V.vd_11, V.vo_11, V.vd_12, V.vo_12, V.vd_13, V.vo_13, V.vd_14, V.vo_14, V.vd_15, V.vo_15, V.e_int, V.e_bool, V.e_none, V.e_str, V.e_glob, V.e_bin, V.e_not, V.e_and, V.e_or, V.e_cmp, V.e_chain, V.e_ife, V.e_tup, V.e_lst, V.e_ix, V.e_call, V.e_callK, V.e_bi, V.e_inst, V.e_comp, V.ng, V.e_neg, V.e_slU, V.e_slL, V.e_lrg1, V.e_lrg3, V.es_n, V.es_c, V.it_seq, V.it_r1, V.it_r2, V.it_en, V.it_zip, V.ss_n, V.ss_c, V.s_asgF, V.kp_d, V.kp_o, V.s_asg, V.s_par, V.s_parN, V.tp_d, V.s_unp, V.s_expr, V.s_ret, V.s_retN, V.s_ite, V.s_for, V.s_pass, V.s_brk, V.s_cont, V.fz_0, V.ow_0, V.ap_0, V.fz_1, V.ow_1, V.ap_1, V.fz_2, V.ow_2, V.ap_2, V.fz_3, V.ow_3, V.ap_3, V.fz_4, V.ow_4, V.ap_4, V.fz_5, V.ow_5, V.ap_5, V.fz_6, V.ow_6, V.ap_6, V.fz_7, V.ow_7, V.ap_7, V.fz_8, V.ow_8, V.ap_8, V.fz_9, V.ow_9, V.ap_9, V.fz_10, V.ow_10, V.ap_10, V.fz_11, V.ow_11, V.ap_11, V.fz_12, V.ow_12, V.ap_12, V.fz_13, V.ow_13, V.ap_13, V.fz_14, V.ow_14, V.ap_14, V.fz_15, V.ow_15, V.ap_15, getE, setE, setMany, setNils, isTy, tyOf, List.map_cons, List.map_nil, List.length_cons, List.length_nil, List.cons_append, List.nil_append, List.append_nil, Nat.reduceSub, Nat.reduceAdd, atI_0, atI_1, atI_2, call_W5, call_W4, call_W2, call_W2o, call_W1, call_W1o, call_W0, call_W3, call_L0, call_L1, call_L1o, call_L2, call_L3, Option.some.injEq, sp__law_pick]
  refine ⟨0, _, rfl, hu, by omega, by decide, sl _ (by decide) (by decide), fun r l1 r0 r1 hu1 => ?_⟩
  simp -implicitDefEqProofs only [V.rd_d, V.rd_o, V.rd_b, V.da_d, V.da_o, V.das_n, V.das_c, V.rds_n, V.rds_c, V.tr_b, V.tr_i, V.tr_n, V.tr_l, V.tr_t, V.tr_o, V.bn_add, V.bn_sub, V.bn_mul, V.bn_fdiv, V.bn_mod, V.bn_pow, V.bn_cat, V.cp_eq, V.cp_ne, V.cp_lt, V.cp_le, V.cp_gt, V.cp_ge, V.cp_in, V.cp_nin, V.is_n, V.isn_n, V.is_b, V.isn_b, V.is_i, V.isn_i, V.is_s, V.isn_s, V.is_l, V.isn_l, V.is_t, V.isn_t, V.is_bb, V.isn_bb, V.ix_l, V.ix_t, V.sl_l, V.bi_len, V.bi_lent, V.bi_abs, V.bi_max2, V.bi_min2, V.bi_int, V.bi_intb, V.bi_list, V.bi_listt, V.bi_tup, V.bi_tupt, V.bi_sum, V.bi_any, V.bi_all, V.bi_min1, V.bi_max1, V.bi_sorted, V.bi_repr, V.sq_d, V.sq_t, V.sq_o, V.ls_d, V.ls_o, V.tg_n, V.tg_t, V.vd_0, V.vo_0, V.vd_1, V.vo_1, V.vd_2, V.vo_2, V.vd_3, V.vo_3, V.vd_4, V.vo_4, V.vd_5, V.vo_5, V.vd_6, V.vo_6, V.vd_7, V.vo_7, V.vd_8, V.vo_8, V.vd_9, V.vo_9, V.vd_10, V.vo_10, V.vd_11, V.vo_11, V.vd_12, V.vo_12, V.vd_13, V.vo_13, V.vd_14, V.vo_14, V.vd_15, V.vo_15, V.e_int, V.e_bool, V.e_none, V.e_str, V.e_glob, V.e_bin, V.e_not, V.e_and, V.e_or, V.e_cmp, V.e_chain, V.e_ife, V.e_tup, V.e_lst, V.e_ix, V.e_call, V.e_callK, V.e_bi, V.e_inst, V.e_comp, V.ng, V.e_neg, V.e_slU, V.e_slL, V.e_lrg1, V.e_lrg3, V.es_n, V.es_c, V.it_seq, V.it_r1, V.it_r2, V.it_en, V.it_zip, V.ss_n, V.ss_c, V.s_asgF, V.kp_d, V.kp_o, V.s_asg, V.s_par, V.s_parN, V.tp_d, V.s_unp, V.s_expr, V.s_ret, V.s_retN, V.s_ite, V.s_for, V.s_pass, V.s_brk, V.s_cont, V.fz_0, V.ow_0, V.ap_0, V.fz_1, V.ow_1, V.ap_1, V.fz_2, V.ow_2, V.ap_2, V.fz_3, V.ow_3, V.ap_3, V.fz_4, V.ow_4, V.ap_4, V.fz_5, V.ow_5, V.ap_5, V.fz_6, V.ow_6, V.ap_6, V.fz_7, V.ow_7, V.ap_7, V.fz_8, V.ow_8, V.ap_8, V.fz_9, V.ow_9, V.ap_9, V.fz_10, V.ow_10, V.ap_10, V.fz_11, V.ow_11, V.ap_11, V.fz_12, V.ow_12, V.ap_12, V.fz_13, V.ow_13, V.ap_13, V.fz_14, V.ow_14, V.ap_14, V.fz_15, V.ow_15, V.ap_15, getE, setE, setMany, setNils, isTy, tyOf, List.map_cons, List.map_nil, List.length_cons, List.length_nil, List.cons_append, List.nil_append, List.append_nil, Nat.reduceSub, Nat.reduceAdd, atI_0, atI_1, atI_2, call_W5, call_W4, call_W2, call_W2o, call_W1, call_W1o, call_W0, call_W3, call_L0, call_L1, call_L1o, call_L2, call_L3, Option.some.injEq]
  refine ⟨rfl, rfl, ?_⟩
  cases PyData.eqv (.int r) (.int 7) with
  | true =>
    simp -implicitDefEqProofs only [if_true, V.rd_d, V.rd_o, V.rd_b, V.da_d, V.da_o, V.das_n, V.das_c, V.rds_n, V.rds_c, V.tr_b, V.tr_i, V.tr_n, V.tr_l, V.tr_t, V.tr_o, V.bn_add, V.bn_sub, V.bn_mul, V.bn_fdiv, V.bn_mod, V.bn_pow, V.bn_cat, V.cp_eq, V.cp_ne, V.cp_lt, V.cp_le, V.cp_gt, V.cp_ge, V.cp_in, V.cp_nin, V.is_n, V.isn_n, V.is_b, V.isn_b, V.is_i, V.isn_i, V.is_s, V.isn_s, V.is_l, V.isn_l, V.is_t, V.isn_t, V.is_bb, V.isn_bb, V.ix_l, V.ix_t, V.sl_l, V.bi_len, V.bi_lent, V.bi_abs, V.bi_max2, V.bi_min2, V.bi_int, V.bi_intb, V.bi_list, V.bi_listt, V.bi_tup, V.bi_tupt, V.bi_sum, V.bi_any, V.bi_all, V.bi_min1, V.bi_max1, V.bi_sorted, V.bi_repr, V.sq_d, V.sq_t, V.sq_o, V.ls_d, V.ls_o, V.tg_n, V.tg_t, V.vd_0, V.vo_0, V.vd_1, V.vo_1, V.vd_2, V.vo_2, V.vd_3, V.vo_3, V.vd_4, V.vo_4, V.vd_5, V.vo_5, V.vd_6, V.vo_6, V.vd_7, V.vo_7, V.vd_8, V.vo_8, V.vd_9, V.vo_9, V.vd_10, V.vo_10, V.vd_11, V.vo_11, V.vd_12, V.vo_12, V.vd_13, V.vo_13, V.vd_14, V.vo_14, V.vd_15, V.vo_15, V.e_int, V.e_bool, V.e_none, V.e_str, V.e_glob, V.e_bin, V.e_not, V.e_and, V.e_or, V.e_cmp, V.e_chain, V.e_ife, V.e_tup, V.e_lst, V.e_ix, V.e_call, V.e_callK, V.e_bi, V.e_inst, V.e_comp, V.ng, V.e_neg, V.e_slU, V.e_slL, V.e_lrg1, V.e_lrg3, V.es_n, V.es_c, V.it_seq, V.it_r1, V.it_r2, V.it_en, V.it_zip, V.ss_n, V.ss_c, V.s_asgF, V.kp_d, V.kp_o, V.s_asg, V.s_par, V.s_parN, V.tp_d, V.s_unp, V.s_expr, V.s_ret, V.s_retN, V.s_ite, V.s_for, V.s_pass, V.s_brk, V.s_cont, V.fz_0, V.ow_0, V.ap_0, V.fz_1, V.ow_1, V.ap_1, V.fz_2, V.ow_2, V.ap_2, V.fz_3, V.ow_3, V.ap_3, V.fz_4, V.ow_4, V.ap_4, V.fz_5, V.ow_5, V.ap_5, V.fz_6, V.ow_6, V.ap_6, V.fz_7, V.ow_7, V.ap_7, V.fz_8, V.ow_8, V.ap_8, V.fz_9, V.ow_9, V.ap_9, V.fz_10, V.ow_10, V.ap_10, V.fz_11, V.ow_11, V.ap_11, V.fz_12, V.ow_12, V.ap_12, V.fz_13, V.ow_13, V.ap_13, V.fz_14, V.ow_14, V.ap_14, V.fz_15, V.ow_15, V.ap_15, getE, setE, setMany, setNils, isTy, tyOf, List.map_cons, List.map_nil, List.length_cons, List.length_nil, List.cons_append, List.nil_append, List.append_nil, Nat.reduceSub, Nat.reduceAdd, atI_0, atI_1, atI_2, call_W5, call_W4, call_W2, call_W2o, call_W1, call_W1o, call_W0, call_W3, call_L0, call_L1, call_L1o, call_L2, call_L3, Option.some.injEq]
    exact most 100 l1 (by decide) (by decide) hu1
  | false =>
    simp -implicitDefEqProofs only [Bool.false_eq_true, if_false, V.rd_d, V.rd_o, V.rd_b, V.da_d, V.da_o, V.das_n, V.das_c, V.rds_n, V.rds_c, V.tr_b, V.tr_i, V.tr_n, V.tr_l, V.tr_t, V.tr_o, V.bn_add, V.bn_sub, V.bn_mul, V.bn_fdiv, V.bn_mod, V.bn_pow, V.bn_cat, V.cp_eq, V.cp_ne, V.cp_lt, V.cp_le, V.cp_gt, V.cp_ge, V.cp_in, V.cp_nin, V.is_n, V.isn_n, V.is_b, V.isn_b, V.is_i, V.isn_i, V.is_s, V.isn_s, V.is_l, V.isn_l, V.is_t, V.isn_t, V.is_bb, V.isn_bb, V.ix_l, V.ix_t, V.sl_l, V.bi_len, V.bi_lent, V.bi_abs, V.bi_max2, V.bi_min2, V.bi_int, V.bi_intb, V.bi_list, V.bi_listt, V.bi_tup, V.bi_tupt, V.bi_sum, V.bi_any, V.bi_all, V.bi_min1, V.bi_max1, V.bi_sorted, V.bi_repr, V.sq_d, V.sq_t, V.sq_o, V.ls_d, V.ls_o, V.tg_n, V.tg_t, V.vd_0, V.vo_0, V.vd_1, V.vo_1, V.vd_2, V.vo_2, V.vd_3, V.vo_3, V.vd_4, V.vo_4, V.vd_5, V.vo_5, V.vd_6, V.vo_6, V.vd_7, V.vo_7, V.vd_8, V.vo_8, V.vd_9, V.vo_9, V.vd_10, V.vo_10, V.vd_11, V.vo_11, V.vd_12, V.vo_12, V.vd_13, V.vo_13, V.vd_14, V.vo_14, V.vd_15, V.vo_15, V.e_int, V.e_bool, V.e_none, V.e_str, V.e_glob, V.e_bin, V.e_not, V.e_and, V.e_or, V.e_cmp, V.e_chain, V.e_ife, V.e_tup, V.e_lst, V.e_ix, V.e_call, V.e_callK, V.e_bi, V.e_inst, V.e_comp, V.ng, V.e_neg, V.e_slU, V.e_slL, V.e_lrg1, V.e_lrg3, V.es_n, V.es_c, V.it_seq, V.it_r1, V.it_r2, V.it_en, V.it_zip, V.ss_n, V.ss_c, V.s_asgF, V.kp_d, V.kp_o, V.s_asg, V.s_par, V.s_parN, V.tp_d, V.s_unp, V.s_expr, V.s_ret, V.s_retN, V.s_ite, V.s_for, V.s_pass, V.s_brk, V.s_cont, V.fz_0, V.ow_0, V.ap_0, V.fz_1, V.ow_1, V.ap_1, V.fz_2, V.ow_2, V.ap_2, V.fz_3, V.ow_3, V.ap_3, V.fz_4, V.ow_4, V.ap_4, V.fz_5, V.ow_5, V.ap_5, V.fz_6, V.ow_6, V.ap_6, V.fz_7, V.ow_7, V.ap_7, V.fz_8, V.ow_8, V.ap_8, V.fz_9, V.ow_9, V.ap_9, V.fz_10, V.ow_10, V.ap_10, V.fz_11, V.ow_11, V.ap_11, V.fz_12, V.ow_12, V.ap_12, V.fz_13, V.ow_13, V.ap_13, V.fz_14, V.ow_14, V.ap_14, V.fz_15, V.ow_15, V.ap_15, getE, setE, setMany, setNils, isTy, tyOf, List.map_cons, List.map_nil, List.length_cons, List.length_nil, List.cons_append, List.nil_append, List.append_nil, Nat.reduceSub, Nat.reduceAdd, atI_0, atI_1, atI_2, call_W5, call_W4, call_W2, call_W2o, call_W1, call_W1o, call_W0, call_W3, call_L0, call_L1, call_L1o, call_L2, call_L3, Option.some.injEq]
    exact most 12 l1 (by decide) (by decide) hu1
def sp_law : ASp := lawSp 63
def lb_law_1 : Ss := (.cons (.ite (.not (.callO "_law_right" sp__law_right (.call "_law_urn" sp__law_urn (.cons (.var 0) (.cons (.var 1) .nil))))) (.cons (.ret (.bool false))
  .nil) .nil)
  .nil)
def b_law : Ss := (.cons (.forS (.nm 1) (.range1 (.bi .max2 (.cons (.int 1) (.cons (.bi .min2 (.cons (.int 4) (.cons (.bi .len (.cons (.var 0) .nil)) .nil))) .nil)))) lb_law_1)
  (.cons (.ret (.bool true))
  .nil))
theorem rangeL_succ {i m : Int} (h : i < m) : rangeL i m = .int i :: rangeL (i + 1) m := by
  rw [rangeL_iv, rangeL_iv, iv_cons h]
  rfl
theorem p_law : Body 1 2 [] b_law sp_law := by
  refine ⟨?_, ?_, ?_⟩
  · rintro as Q X ⟨ns, rfl, _⟩; rfl
  · rintro as Q X ⟨ns, rfl, _⟩ i ds z
    match i, z with
    | 0, z => cases z
    | i + 1, z => simp at z
  rintro as Q ⟨ns, rfl, hl, hz, q⟩
  suffices H : ∀ D : AEnds, (∀ env, D.rt (.d (.bool true)) env) → wSs X0 b_law (initE 2 [AV.d (.list (ns.map .int))]) D from H _ fun env => q
  intro D hD
  unfold b_law
  simp only [initE, List.map_cons, List.map_nil, List.length_cons, List.length_nil, Nat.reduceAdd, Nat.reduceSub, List.replicate, List.cons_append, List.nil_append]
  simp -implicitDefEqProofs only [V.rd_d, V.rd_o, V.rd_b, V.da_d, V.da_o, V.das_n, V.das_c, V.rds_n, V.rds_c, V.tr_b, V.tr_i, V.tr_n, V.tr_l, V.tr_t, V.tr_o, V.bn_add, V.bn_sub, V.bn_mul, V.bn_fdiv, V.bn_mod, V.bn_pow, V.bn_cat, V.cp_eq, V.cp_ne, V.cp_lt, V.cp_le, V.cp_gt, V.cp_ge, V.cp_in, V.cp_nin, V.is_n, V.isn_n, V.is_b, V.isn_b, V.is_i, V.isn_i, V.is_s, V.isn_s, V.is_l, V.isn_l, V.is_t, V.isn_t, V.is_bb, V.isn_bb, V.ix_l, V.ix_t, V.sl_l, V.bi_len, V.bi_lent, V.bi_abs, V.bi_max2, V.bi_min2, V.bi_int, V.bi_intb, V.bi_list, V.bi_listt, V.bi_tup, V.bi_tupt, V.bi_sum, V.bi_any, V.bi_all, V.bi_min1, V.bi_max1, V.bi_sorted, V.bi_repr, V.sq_d, V.sq_t, V.sq_o, V.ls_d, V.ls_o, V.tg_n, V.tg_t, V.vd_0, V.vo_0, V.vd_1, V.vo_1, V.vd_2, V.vo_2, V.vd_3, V.vo_3, V.vd_4, V.vo_4, V.vd_5, V.vo_5, V.vd_6, V.vo_6, V.vd_7, V.vo_7, V.vd_8, V.vo_8, V.vd_9, V.vo_9, V.vd_10, V.vo_10, V.vd_11, V.vo_11, V.vd_12, V.vo_12, V.vd_13, V.vo_13, V.vd_14, V.vo_14, V.vd_15, V.vo_15, V.e_int, V.e_bool, V.e_none, V.e_str, V.e_glob, V.e_bin, V.e_not, V.e_and, V.e_or, V.e_cmp, V.e_chain, V.e_ife, V.e_tup, V.e_lst, V.e_ix, V.e_call, V.e_callK, V.e_bi, V.e_inst, V.e_comp, V.ng, V.e_neg, V.e_slU, V.e_slL, V.e_lrg1, V.e_lrg3, V.es_n, V.es_c, V.it_seq, V.it_r1, V.it_r2, V.it_en, V.it_zip, V.ss_n, V.ss_c, V.s_asgF, V.kp_d, V.kp_o, V.s_asg, V.s_par, V.s_parN, V.tp_d, V.s_unp, V.s_expr, V.s_ret, V.s_retN, V.s_ite, V.s_for, V.s_pass, V.s_brk, V.s_cont, V.fz_0, V.ow_0, V.ap_0, V.fz_1, V.ow_1, V.ap_1, V.fz_2, V.ow_2, V.ap_2, V.fz_3, V.ow_3, V.ap_3, V.fz_4, V.ow_4, V.ap_4, V.fz_5, V.ow_5, V.ap_5, V.fz_6, V.ow_6, V.ap_6, V.fz_7, V.ow_7, V.ap_7, V.fz_8, V.ow_8, V.ap_8, V.fz_9, V.ow_9, V.ap_9, V.fz_10, V.ow_10, V.ap_10, V.fz_11, V.ow_11, V.ap_11, V.fz_12, V.ow_12, V.ap_12, V.fz_13, V.ow_13, V.ap_13, V.fz_14, V.ow_14, V.ap_14, V.fz_15, V.ow_15, V.ap_15, getE, setE, setMany, setNils, isTy, tyOf, List.map_cons, List.map_nil, List.length_cons, List.length_nil, List.cons_append, List.nil_append, List.append_nil, Nat.reduceSub, Nat.reduceAdd, atI_0, atI_1, atI_2, call_W5, call_W4, call_W2, call_W2o, call_W1, call_W1o, call_W0, call_W3, call_L0, call_L1, call_L1o, call_L2, call_L3, Option.some.injEq, rangeK, List.length_map]
  have hm : ∃ m : Int, m = (if (if (ns.length : Int) < 4 then (ns.length : Int) else 4) > 1 then (if (ns.length : Int) < 4 then (ns.length : Int) else 4) else 1) ∧ 0 ≤ m ∧ m ≤ 4 := ⟨_, rfl, by split <;> split <;> omega, by split <;> split <;> omega⟩
  obtain ⟨m, em, m0, m4⟩ := hm
  rw [← em]
  refine ⟨⟨by decide, by decide, by omega, by omega, by rw [sizeLine_eq]; omega⟩, ?_⟩
  refine for_inv (fun xs env => (∃ i : Int, xs = rangeL i m ∧ 0 ≤ i ∧ i ≤ m) ∧ ∃ s : Option AV, env = [some (.d (.list (ns.map .int))), s]) (fun env D D' => body_mono env D D') ?_ ?_ ⟨⟨0, rfl, by omega, m0⟩, _, rfl⟩
  · rintro env ⟨_, s, rfl⟩
    exact hD _
  · rintro z xs env ⟨⟨i, hx, i0, im⟩, s, rfl⟩
    have hlt : i < m := by
      have := congrArg List.length hx
      rw [rangeL_iv, List.length_map, iv_len] at this
      simp only [List.length_cons] at this
      omega
    rw [rangeL_succ hlt] at hx
    simp only [List.cons.injEq] at hx
    obtain ⟨rfl, rfl⟩ := hx
    simp only [lb_law_1, tgK, setE, wSs, wS, wE, wEs, getE]
    simp only [sp__law_urn, call_W2, w__law_urn]
    refine ⟨⟨⟨ns, rfl⟩, i0, by omega⟩, fun l U => ?_⟩
    refine ⟨l, [], rfl, rfl, U, fun l' => ?_⟩
    simp only [truthK, rdK, truth, Bool.not_true, Bool.false_eq_true, if_false]
    exact ⟨⟨i + 1, rfl, by omega, by omega⟩, _, rfl⟩
end K50

set_option maxRecDepth 100000
set_option maxHeartbeats 1000000
namespace K50
open PySem PySem.Spec PyProof.Rows L2 PF
def top (i : Nat) : Stmt := PySem.Challenge.pw_drawnbywheels_k50_whole_teeth_that_meet.main.body.getD i (.Pass ⟨0, 0, 0, 0⟩)
abbrev t_common_divisor : Stmt := top 6
def n_common_divisor : List Str := ["one", "other"]
theorem s_common_divisor : FnScope n_common_divisor ["one", "other"] (defScope t_common_divisor) := ⟨rfl, rfl, rfl, by decide +kernel, rfl, by decide +kernel, by decide +kernel⟩
theorem c_common_divisor : chkSs ⟨n_common_divisor, defScope t_common_divisor, fun _ => true, []⟩ b_common_divisor (defBody t_common_divisor) = true := by decide +kernel
abbrev t_common_multiple : Stmt := top 7
def n_common_multiple : List Str := ["one", "other"]
theorem s_common_multiple : FnScope n_common_multiple ["one", "other"] (defScope t_common_multiple) := ⟨rfl, rfl, rfl, by decide +kernel, rfl, by decide +kernel, by decide +kernel⟩
theorem c_common_multiple : chkSs ⟨n_common_multiple, defScope t_common_multiple, fun _ => true, []⟩ b_common_multiple (defBody t_common_multiple) = true := by decide +kernel
abbrev t_is_integer : Stmt := top 9
def n_is_integer : List Str := ["thing"]
theorem s_is_integer : FnScope n_is_integer ["thing"] (defScope t_is_integer) := ⟨rfl, rfl, rfl, by decide +kernel, rfl, by decide +kernel, by decide +kernel⟩
theorem c_is_integer : chkSs ⟨n_is_integer, defScope t_is_integer, fun _ => true, []⟩ b_is_integer (defBody t_is_integer) = true := by decide +kernel
abbrev t_is_from : Stmt := top 10
def n_is_from : List Str := ["low", "thing"]
theorem s_is_from : FnScope n_is_from ["low", "thing"] (defScope t_is_from) := ⟨rfl, rfl, rfl, by decide +kernel, rfl, by decide +kernel, by decide +kernel⟩
theorem c_is_from : chkSs ⟨n_is_from, defScope t_is_from, fun _ => true, []⟩ b_is_from (defBody t_is_from) = true := by decide +kernel
abbrev t_is_between : Stmt := top 11
def n_is_between : List Str := ["low", "thing", "high"]
theorem s_is_between : FnScope n_is_between ["low", "thing", "high"] (defScope t_is_between) := ⟨rfl, rfl, rfl, by decide +kernel, rfl, by decide +kernel, by decide +kernel⟩
theorem c_is_between : chkSs ⟨n_is_between, defScope t_is_between, fun _ => true, []⟩ b_is_between (defBody t_is_between) = true := by decide +kernel
abbrev t_check_count : Stmt := top 12
def n_check_count : List Str := ["thing"]
theorem s_check_count : FnScope n_check_count ["thing"] (defScope t_check_count) := ⟨rfl, rfl, rfl, by decide +kernel, rfl, by decide +kernel, by decide +kernel⟩
theorem c_check_count : chkSs ⟨n_check_count, defScope t_check_count, fun _ => true, []⟩ b_check_count (defBody t_check_count) = true := by decide +kernel
abbrev t_check_teeth : Stmt := top 13
def n_check_teeth : List Str := ["thing"]
theorem s_check_teeth : FnScope n_check_teeth ["thing"] (defScope t_check_teeth) := ⟨rfl, rfl, rfl, by decide +kernel, rfl, by decide +kernel, by decide +kernel⟩
theorem c_check_teeth : chkSs ⟨n_check_teeth, defScope t_check_teeth, fun _ => true, []⟩ b_check_teeth (defBody t_check_teeth) = true := by decide +kernel
abbrev t_inverse_of : Stmt := top 16
def n_inverse_of : List Str := ["number", "modulus", "one", "other", "factor", "later", "many"]
theorem s_inverse_of : FnScope n_inverse_of ["number", "modulus"] (defScope t_inverse_of) := ⟨rfl, rfl, rfl, by decide +kernel, rfl, by decide +kernel, by decide +kernel⟩
theorem c_inverse_of : chkSs ⟨n_inverse_of, defScope t_inverse_of, fun _ => true, []⟩ b_inverse_of (defBody t_inverse_of) = true := by decide +kernel
abbrev t_time_in : Stmt := top 17
def n_time_in : List Str := ["a", "b", "modulus", "divisor", "length"]
theorem s_time_in : FnScope n_time_in ["a", "b", "modulus"] (defScope t_time_in) := ⟨rfl, rfl, rfl, by decide +kernel, rfl, by decide +kernel, by decide +kernel⟩
theorem c_time_in : chkSs ⟨n_time_in, defScope t_time_in, fun _ => true, []⟩ b_time_in (defBody t_time_in) = true := by decide +kernel
abbrev t_both_in : Stmt := top 18
def n_both_in : List Str := ["one", "other", "turns_in", "whole", "first", "length"]
theorem s_both_in : FnScope n_both_in ["one", "other"] (defScope t_both_in) := ⟨rfl, rfl, rfl, by decide +kernel, rfl, by decide +kernel, by decide +kernel⟩
theorem c_both_in : chkSs ⟨n_both_in, defScope t_both_in, fun _ => true, []⟩ b_both_in (defBody t_both_in) = true := by decide +kernel
abbrev t_joint_in : Stmt := top 19
def n_joint_in : List Str := ["rows", "found", "row"]
theorem s_joint_in : FnScope n_joint_in ["rows"] (defScope t_joint_in) := ⟨rfl, rfl, rfl, by decide +kernel, rfl, by decide +kernel, by decide +kernel⟩
theorem c_joint_in : chkSs ⟨n_joint_in, defScope t_joint_in, fun _ => true, []⟩ b_joint_in (defBody t_joint_in) = true := by decide +kernel
abbrev t_check_tooth : Stmt := top 21
def n_check_tooth : List Str := ["teeth", "thing"]
theorem s_check_tooth : FnScope n_check_tooth ["teeth", "thing"] (defScope t_check_tooth) := ⟨rfl, rfl, rfl, by decide +kernel, rfl, by decide +kernel, by decide +kernel⟩
theorem c_check_tooth : chkSs ⟨n_check_tooth, defScope t_check_tooth, fun _ => true, []⟩ b_check_tooth (defBody t_check_tooth) = true := by decide +kernel
abbrev t_check_begin : Stmt := top 22
def n_check_begin : List Str := ["teeth", "other_teeth", "thing"]
theorem s_check_begin : FnScope n_check_begin ["teeth", "other_teeth", "thing"] (defScope t_check_begin) := ⟨rfl, rfl, rfl, by decide +kernel, rfl, by decide +kernel, by decide +kernel⟩
theorem c_check_begin : chkSs ⟨n_check_begin, defScope t_check_begin, fun _ => true, []⟩ b_check_begin (defBody t_check_begin) = true := by decide +kernel
abbrev t_check_wheels : Stmt := top 23
def n_check_wheels : List Str := ["teeth", "other_teeth"]
theorem s_check_wheels : FnScope n_check_wheels ["teeth", "other_teeth"] (defScope t_check_wheels) := ⟨rfl, rfl, rfl, by decide +kernel, rfl, by decide +kernel, by decide +kernel⟩
theorem c_check_wheels : chkSs ⟨n_check_wheels, defScope t_check_wheels, fun _ => true, []⟩ b_check_wheels (defBody t_check_wheels) = true := by decide +kernel
abbrev t_check_meeting : Stmt := top 24
def n_check_meeting : List Str := ["teeth", "other_teeth", "begin", "tooth", "other_tooth"]
theorem s_check_meeting : FnScope n_check_meeting ["teeth", "other_teeth", "begin", "tooth", "other_tooth"] (defScope t_check_meeting) := ⟨rfl, rfl, rfl, by decide +kernel, rfl, by decide +kernel, by decide +kernel⟩
theorem c_check_meeting : chkSs ⟨n_check_meeting, defScope t_check_meeting, fun _ => true, []⟩ b_check_meeting (defBody t_check_meeting) = true := by decide +kernel
abbrev t_passes_at : Stmt := top 25
def n_passes_at : List Str := ["teeth", "other_teeth", "begin", "tooth", "other_tooth", "first", "second"]
theorem s_passes_at : FnScope n_passes_at ["teeth", "other_teeth", "begin", "tooth", "other_tooth"] (defScope t_passes_at) := ⟨rfl, rfl, rfl, by decide +kernel, rfl, by decide +kernel, by decide +kernel⟩
theorem c_passes_at : chkSs ⟨n_passes_at, defScope t_passes_at, fun _ => true, []⟩ b_passes_at (defBody t_passes_at) = true := by decide +kernel
abbrev t_meets : Stmt := top 26
def n_meets : List Str := ["teeth", "other_teeth", "begin", "tooth", "other_tooth"]
theorem s_meets : FnScope n_meets ["teeth", "other_teeth", "begin", "tooth", "other_tooth"] (defScope t_meets) := ⟨rfl, rfl, rfl, by decide +kernel, rfl, by decide +kernel, by decide +kernel⟩
theorem c_meets : chkSs ⟨n_meets, defScope t_meets, fun _ => true, []⟩ b_meets (defBody t_meets) = true := by decide +kernel
abbrev t_partners : Stmt := top 27
def n_partners : List Str := ["teeth", "other_teeth", "begin", "tooth", "divisor"]
theorem s_partners : FnScope n_partners ["teeth", "other_teeth", "begin", "tooth"] (defScope t_partners) := ⟨rfl, rfl, rfl, by decide +kernel, rfl, by decide +kernel, by decide +kernel⟩
theorem c_partners : chkSs ⟨n_partners, defScope t_partners, fun _ => true, []⟩ b_partners (defBody t_partners) = true := by decide +kernel
abbrev t_is_even : Stmt := top 28
def n_is_even : List Str := ["teeth", "other_teeth"]
theorem s_is_even : FnScope n_is_even ["teeth", "other_teeth"] (defScope t_is_even) := ⟨rfl, rfl, rfl, by decide +kernel, rfl, by decide +kernel, by decide +kernel⟩
theorem c_is_even : chkSs ⟨n_is_even, defScope t_is_even, fun _ => true, []⟩ b_is_even (defBody t_is_even) = true := by decide +kernel
abbrev t_pairs_met : Stmt := top 29
def n_pairs_met : List Str := ["teeth", "other_teeth"]
theorem s_pairs_met : FnScope n_pairs_met ["teeth", "other_teeth"] (defScope t_pairs_met) := ⟨rfl, rfl, rfl, by decide +kernel, rfl, by decide +kernel, by decide +kernel⟩
theorem c_pairs_met : chkSs ⟨n_pairs_met, defScope t_pairs_met, fun _ => true, []⟩ b_pairs_met (defBody t_pairs_met) = true := by decide +kernel
abbrev t_times_met : Stmt := top 30
def n_times_met : List Str := ["teeth", "other_teeth", "begin", "tooth", "other_tooth", "count", "found", "first", "period"]
theorem s_times_met : FnScope n_times_met ["teeth", "other_teeth", "begin", "tooth", "other_tooth", "count"] (defScope t_times_met) := ⟨rfl, rfl, rfl, by decide +kernel, rfl, by decide +kernel, by decide +kernel⟩
theorem c_times_met : chkSs ⟨n_times_met, defScope t_times_met, fun _ => true, []⟩ b_times_met (defBody t_times_met) = true := by decide +kernel
abbrev t__law_urn : Stmt := top 32
def n__law_urn : List Str := ["_law_script", "_law_k", "_law_cell"]
theorem s__law_urn : FnScope n__law_urn ["_law_script", "_law_k"] (defScope t__law_urn) := ⟨rfl, rfl, rfl, by decide +kernel, rfl, by decide +kernel, by decide +kernel⟩
theorem c__law_urn : chkSs ⟨n__law_urn, defScope t__law_urn, fun _ => true, []⟩ b__law_urn (defBody t__law_urn) = true := by decide +kernel
abbrev t__law_pick : Stmt := top 33
def n__law_pick : List Str := ["_law_urn_here", "_law_many", "_law_mixed", "_law_found"]
theorem s__law_pick : FnScope n__law_pick ["_law_urn_here", "_law_many"] (defScope t__law_pick) := ⟨rfl, rfl, rfl, by decide +kernel, rfl, by decide +kernel, by decide +kernel⟩
theorem c__law_pick : chkSs ⟨n__law_pick, defScope t__law_pick, fun _ => true, [0]⟩ b__law_pick (defBody t__law_pick) = true := by decide +kernel
abbrev t__law_says : Stmt := top 35
def n__law_says : List Str := ["_law_thing", "_law_due"]
theorem s__law_says : FnScope n__law_says ["_law_thing", "_law_due"] (defScope t__law_says) := ⟨rfl, rfl, rfl, by decide +kernel, rfl, by decide +kernel, by decide +kernel⟩
theorem c__law_says : chkSs ⟨n__law_says, defScope t__law_says, fun _ => true, []⟩ b__law_says (defBody t__law_says) = true := by decide +kernel
abbrev t__law_passes : Stmt := top 36
def n__law_passes : List Str := ["_law_s", "_law_t", "_law_start", "_law_found", "_law_k", "_law_i", "_law_j"]
theorem s__law_passes : FnScope n__law_passes ["_law_s", "_law_t", "_law_start"] (defScope t__law_passes) := ⟨rfl, rfl, rfl, by decide +kernel, rfl, by decide +kernel, by decide +kernel⟩
theorem c__law_passes : chkSs ⟨n__law_passes, defScope t__law_passes, fun _ => true, []⟩ b__law_passes (defBody t__law_passes) = true := by decide +kernel
abbrev t__law_progression : Stmt := top 37
def n__law_progression : List Str := ["_law_rows", "_law_pair_here", "_law_places", "_law_k"]
theorem s__law_progression : FnScope n__law_progression ["_law_rows", "_law_pair_here"] (defScope t__law_progression) := ⟨rfl, rfl, rfl, by decide +kernel, rfl, by decide +kernel, by decide +kernel⟩
theorem c__law_progression : chkSs ⟨n__law_progression, defScope t__law_progression, fun _ => true, []⟩ b__law_progression (defBody t__law_progression) = true := by decide +kernel
abbrev t__law_counts_right : Stmt := top 38
def n__law_counts_right : List Str := ["_law_urn_here", "_law_s", "_law_t", "_law_start", "_law_pair_here", "_law_due", "_law_much", "_law_found", "_law_told"]
theorem s__law_counts_right : FnScope n__law_counts_right ["_law_urn_here", "_law_s", "_law_t", "_law_start", "_law_pair_here", "_law_due"] (defScope t__law_counts_right) := ⟨rfl, rfl, rfl, by decide +kernel, rfl, by decide +kernel, by decide +kernel⟩
theorem c__law_counts_right : chkSs ⟨n__law_counts_right, defScope t__law_counts_right, fun _ => true, [0]⟩ b__law_counts_right (defBody t__law_counts_right) = true := by decide +kernel
abbrev t__law_turned_right : Stmt := top 39
def n__law_turned_right : List Str := ["_law_urn_here", "_law_s", "_law_t", "_law_start", "_law_pair_here", "_law_due", "_law_back", "_law_told", "_law_some", "_law_later"]
theorem s__law_turned_right : FnScope n__law_turned_right ["_law_urn_here", "_law_s", "_law_t", "_law_start", "_law_pair_here", "_law_due"] (defScope t__law_turned_right) := ⟨rfl, rfl, rfl, by decide +kernel, rfl, by decide +kernel, by decide +kernel⟩
theorem c__law_turned_right : chkSs ⟨n__law_turned_right, defScope t__law_turned_right, fun _ => true, [0]⟩ b__law_turned_right (defBody t__law_turned_right) = true := by decide +kernel
abbrev t__law_right : Stmt := top 40
def n__law_right : List Str := ["_law_urn_here", "_law_most", "_law_start", "_law_rows", "_law_pair_here", "_law_due", "_law_told", "_law_some", "_law_found", "_law_s", "_law_t", "_law_i", "_law_j"]
theorem s__law_right : FnScope n__law_right ["_law_urn_here"] (defScope t__law_right) := ⟨rfl, rfl, rfl, by decide +kernel, rfl, by decide +kernel, by decide +kernel⟩
theorem c__law_right : chkSs ⟨n__law_right, defScope t__law_right, fun _ => true, [0]⟩ b__law_right (defBody t__law_right) = true := by decide +kernel
abbrev t_law : Stmt := top 41
def n_law : List Str := ["_law_script", "_law_k"]
theorem s_law : FnScope n_law ["_law_script"] (defScope t_law) := ⟨rfl, rfl, rfl, by decide +kernel, rfl, by decide +kernel, by decide +kernel⟩
theorem c_law : chkSs ⟨n_law, defScope t_law, fun _ => true, []⟩ b_law (defBody t_law) = true := by decide +kernel
section
variable {P : Program} {w : World} {K : PySem.W.Frag} {mg : Str → Option Value} {base : Heap}
set_option maxHeartbeats 0 in
theorem chain {f_common_divisor : Addr} {d_common_divisor : FuncData} (F_common_divisor : FP K "common_divisor" t_common_divisor f_common_divisor d_common_divisor) (g_common_divisor : mg "common_divisor" = some (.ref f_common_divisor)) {f_common_multiple : Addr} {d_common_multiple : FuncData} (F_common_multiple : FP K "common_multiple" t_common_multiple f_common_multiple d_common_multiple) (g_common_multiple : mg "common_multiple" = some (.ref f_common_multiple)) {f_is_integer : Addr} {d_is_integer : FuncData} (F_is_integer : FP K "is_integer" t_is_integer f_is_integer d_is_integer) (g_is_integer : mg "is_integer" = some (.ref f_is_integer)) {f_is_from : Addr} {d_is_from : FuncData} (F_is_from : FP K "is_from" t_is_from f_is_from d_is_from) (g_is_from : mg "is_from" = some (.ref f_is_from)) {f_is_between : Addr} {d_is_between : FuncData} (F_is_between : FP K "is_between" t_is_between f_is_between d_is_between) (g_is_between : mg "is_between" = some (.ref f_is_between)) {f_check_count : Addr} {d_check_count : FuncData} (F_check_count : FP K "check_count" t_check_count f_check_count d_check_count) (g_check_count : mg "check_count" = some (.ref f_check_count)) {f_check_teeth : Addr} {d_check_teeth : FuncData} (F_check_teeth : FP K "check_teeth" t_check_teeth f_check_teeth d_check_teeth) (g_check_teeth : mg "check_teeth" = some (.ref f_check_teeth)) {f_inverse_of : Addr} {d_inverse_of : FuncData} (F_inverse_of : FP K "inverse_of" t_inverse_of f_inverse_of d_inverse_of) (g_inverse_of : mg "inverse_of" = some (.ref f_inverse_of)) {f_time_in : Addr} {d_time_in : FuncData} (F_time_in : FP K "time_in" t_time_in f_time_in d_time_in) (g_time_in : mg "time_in" = some (.ref f_time_in)) {f_both_in : Addr} {d_both_in : FuncData} (F_both_in : FP K "both_in" t_both_in f_both_in d_both_in) (g_both_in : mg "both_in" = some (.ref f_both_in)) {f_joint_in : Addr} {d_joint_in : FuncData} (F_joint_in : FP K "joint_in" t_joint_in f_joint_in d_joint_in) (g_joint_in : mg "joint_in" = some (.ref f_joint_in)) {f_check_tooth : Addr} {d_check_tooth : FuncData} (F_check_tooth : FP K "check_tooth" t_check_tooth f_check_tooth d_check_tooth) (g_check_tooth : mg "check_tooth" = some (.ref f_check_tooth)) {f_check_begin : Addr} {d_check_begin : FuncData} (F_check_begin : FP K "check_begin" t_check_begin f_check_begin d_check_begin) (g_check_begin : mg "check_begin" = some (.ref f_check_begin)) {f_check_wheels : Addr} {d_check_wheels : FuncData} (F_check_wheels : FP K "check_wheels" t_check_wheels f_check_wheels d_check_wheels) (g_check_wheels : mg "check_wheels" = some (.ref f_check_wheels)) {f_check_meeting : Addr} {d_check_meeting : FuncData} (F_check_meeting : FP K "check_meeting" t_check_meeting f_check_meeting d_check_meeting) (g_check_meeting : mg "check_meeting" = some (.ref f_check_meeting)) {f_passes_at : Addr} {d_passes_at : FuncData} (F_passes_at : FP K "passes_at" t_passes_at f_passes_at d_passes_at) (g_passes_at : mg "passes_at" = some (.ref f_passes_at)) {f_meets : Addr} {d_meets : FuncData} (F_meets : FP K "meets" t_meets f_meets d_meets) (g_meets : mg "meets" = some (.ref f_meets)) {f_partners : Addr} {d_partners : FuncData} (F_partners : FP K "partners" t_partners f_partners d_partners) (g_partners : mg "partners" = some (.ref f_partners)) {f_is_even : Addr} {d_is_even : FuncData} (F_is_even : FP K "is_even" t_is_even f_is_even d_is_even) (g_is_even : mg "is_even" = some (.ref f_is_even)) {f_pairs_met : Addr} {d_pairs_met : FuncData} (F_pairs_met : FP K "pairs_met" t_pairs_met f_pairs_met d_pairs_met) (g_pairs_met : mg "pairs_met" = some (.ref f_pairs_met)) {f_times_met : Addr} {d_times_met : FuncData} (F_times_met : FP K "times_met" t_times_met f_times_met d_times_met) (g_times_met : mg "times_met" = some (.ref f_times_met)) {f__law_urn : Addr} {d__law_urn : FuncData} (F__law_urn : FP K "_law_urn" t__law_urn f__law_urn d__law_urn) (g__law_urn : mg "_law_urn" = some (.ref f__law_urn)) {f__law_pick : Addr} {d__law_pick : FuncData} (F__law_pick : FP K "_law_pick" t__law_pick f__law_pick d__law_pick) (g__law_pick : mg "_law_pick" = some (.ref f__law_pick)) {f__law_says : Addr} {d__law_says : FuncData} (F__law_says : FP K "_law_says" t__law_says f__law_says d__law_says) (g__law_says : mg "_law_says" = some (.ref f__law_says)) {f__law_passes : Addr} {d__law_passes : FuncData} (F__law_passes : FP K "_law_passes" t__law_passes f__law_passes d__law_passes) (g__law_passes : mg "_law_passes" = some (.ref f__law_passes)) {f__law_progression : Addr} {d__law_progression : FuncData} (F__law_progression : FP K "_law_progression" t__law_progression f__law_progression d__law_progression) (g__law_progression : mg "_law_progression" = some (.ref f__law_progression)) {f__law_counts_right : Addr} {d__law_counts_right : FuncData} (F__law_counts_right : FP K "_law_counts_right" t__law_counts_right f__law_counts_right d__law_counts_right) (g__law_counts_right : mg "_law_counts_right" = some (.ref f__law_counts_right)) {f__law_turned_right : Addr} {d__law_turned_right : FuncData} (F__law_turned_right : FP K "_law_turned_right" t__law_turned_right f__law_turned_right d__law_turned_right) (g__law_turned_right : mg "_law_turned_right" = some (.ref f__law_turned_right)) {f__law_right : Addr} {d__law_right : FuncData} (F__law_right : FP K "_law_right" t__law_right f__law_right d__law_right) (g__law_right : mg "_law_right" = some (.ref f__law_right)) {f_law : Addr} {d_law : FuncData} (F_law : FP K "law" t_law f_law d_law) (g_law : mg "law" = some (.ref f_law)) (G_ALL_NUMBERS : GlobOk K mg "ALL_NUMBERS" gv_ALL_NUMBERS) (hbn : ∀ x ∈ bnames, mg x = none) : FnG P w K mg base 9 f_law d_law ["_law_script"] (liftSp K sp_law) := by
  have h_common_divisor : FnG P w K mg base 1 f_common_divisor d_common_divisor ["one", "other"] (liftSp K sp_common_divisor) := by
    refine fn_g (k := 0) (fun_of F_common_divisor) s_common_divisor p_common_divisor c_common_divisor ?_ hbn
    simp only [b_common_divisor, lc_common_divisor_1, lb_common_divisor_2, okSs, okS, okE, okEs, okIt, lkOf, and_true, true_and]
  have k_common_divisor : CallOk P w K mg base 1 "common_divisor" sp_common_divisor := call_of F_common_divisor g_common_divisor h_common_divisor (fun _ _ _ _ _ _ us hl => match us, hl with | [_, _], _ => rfl)
  have h_common_multiple : FnG P w K mg base 2 f_common_multiple d_common_multiple ["one", "other"] (liftSp K sp_common_multiple) := by
    refine fn_g (k := 1) (fun_of F_common_multiple) s_common_multiple p_common_multiple c_common_multiple ?_ hbn
    simp only [b_common_multiple, okSs, okS, okE, okEs, okIt, lkOf, and_true, true_and]
    (repeat' apply And.intro) <;> first | exact trivial | exact k_common_divisor.mono (by decide)
  have k_common_multiple : CallOk P w K mg base 2 "common_multiple" sp_common_multiple := call_of F_common_multiple g_common_multiple h_common_multiple (fun _ _ _ _ _ _ us hl => match us, hl with | [_, _], _ => rfl)
  have h_is_integer : FnG P w K mg base 1 f_is_integer d_is_integer ["thing"] (liftSp K sp_is_integer) := by
    refine fn_g (k := 0) (fun_of F_is_integer) s_is_integer p_is_integer c_is_integer ?_ hbn
    simp only [b_is_integer, okSs, okS, okE, okEs, okIt, lkOf, and_true, true_and]
  have k_is_integer : CallOk P w K mg base 1 "is_integer" sp_is_integer := call_of F_is_integer g_is_integer h_is_integer (fun _ _ _ _ _ _ us hl => match us, hl with | [_], _ => rfl)
  have h_is_from : FnG P w K mg base 2 f_is_from d_is_from ["low", "thing"] (liftSp K sp_is_from) := by
    refine fn_g (k := 1) (fun_of F_is_from) s_is_from p_is_from c_is_from ?_ hbn
    simp only [b_is_from, okSs, okS, okE, okEs, okIt, lkOf, and_true, true_and]
    (repeat' apply And.intro) <;> first | exact trivial | exact k_is_integer.mono (by decide)
  have k_is_from : CallOk P w K mg base 2 "is_from" sp_is_from := call_of F_is_from g_is_from h_is_from (fun _ _ _ _ _ _ us hl => match us, hl with | [_, _], _ => rfl)
  have h_is_between : FnG P w K mg base 2 f_is_between d_is_between ["low", "thing", "high"] (liftSp K sp_is_between) := by
    refine fn_g (k := 1) (fun_of F_is_between) s_is_between p_is_between c_is_between ?_ hbn
    simp only [b_is_between, okSs, okS, okE, okEs, okIt, lkOf, and_true, true_and]
    (repeat' apply And.intro) <;> first | exact trivial | exact k_is_integer.mono (by decide)
  have k_is_between : CallOk P w K mg base 2 "is_between" sp_is_between := call_of F_is_between g_is_between h_is_between (fun _ _ _ _ _ _ us hl => match us, hl with | [_, _, _], _ => rfl)
  have h_check_count : FnG P w K mg base 3 f_check_count d_check_count ["thing"] (liftSp K sp_check_count) := by
    refine fn_g (k := 2) (fun_of F_check_count) s_check_count p_check_count c_check_count ?_ hbn
    simp only [b_check_count, okSs, okS, okE, okEs, okIt, lkOf, and_true, true_and]
    (repeat' apply And.intro) <;> first | exact trivial | exact k_is_from.mono (by decide)
  have k_check_count : CallOk P w K mg base 3 "check_count" sp_check_count := call_of F_check_count g_check_count h_check_count (fun _ _ _ _ _ _ us hl => match us, hl with | [_], _ => rfl)
  have h_check_teeth : FnG P w K mg base 3 f_check_teeth d_check_teeth ["thing"] (liftSp K sp_check_teeth) := by
    refine fn_g (k := 2) (fun_of F_check_teeth) s_check_teeth p_check_teeth c_check_teeth ?_ hbn
    simp only [b_check_teeth, okSs, okS, okE, okEs, okIt, lkOf, and_true, true_and]
    (repeat' apply And.intro) <;> first | exact trivial | exact k_is_from.mono (by decide)
  have k_check_teeth : CallOk P w K mg base 3 "check_teeth" sp_check_teeth := call_of F_check_teeth g_check_teeth h_check_teeth (fun _ _ _ _ _ _ us hl => match us, hl with | [_], _ => rfl)
  have h_inverse_of : FnG P w K mg base 1 f_inverse_of d_inverse_of ["number", "modulus"] (liftSp K sp_inverse_of) := by
    refine fn_g (k := 0) (fun_of F_inverse_of) s_inverse_of p_inverse_of c_inverse_of ?_ hbn
    simp only [b_inverse_of, lc_inverse_of_1, u_inverse_of_2, u_inverse_of_3, lb_inverse_of_4, b_inverse_of_3, b_inverse_of_2, okSs, okS, okE, okEs, okIt, lkOf, and_true, true_and]
  have k_inverse_of : CallOk P w K mg base 1 "inverse_of" sp_inverse_of := call_of F_inverse_of g_inverse_of h_inverse_of (fun _ _ _ _ _ _ us hl => match us, hl with | [_, _], _ => rfl)
  have h_time_in : FnG P w K mg base 2 f_time_in d_time_in ["a", "b", "modulus"] (liftSp K sp_time_in) := by
    refine fn_g (k := 1) (fun_of F_time_in) s_time_in p_time_in c_time_in ?_ hbn
    simp only [b_time_in, b_time_in_4, b_time_in_3, b_time_in_2, okSs, okS, okE, okEs, okIt, lkOf, and_true, true_and]
    (repeat' apply And.intro) <;> first | exact trivial | exact k_common_divisor.mono (by decide) | exact k_inverse_of.mono (by decide)
  have k_time_in : CallOk P w K mg base 2 "time_in" sp_time_in := call_of F_time_in g_time_in h_time_in (fun _ _ _ _ _ _ us hl => match us, hl with | [_, _, _], _ => rfl)
  have h_both_in : FnG P w K mg base 3 f_both_in d_both_in ["one", "other"] (liftSp K sp_both_in) := by
    refine fn_g (k := 2) (fun_of F_both_in) s_both_in p_both_in c_both_in ?_ hbn
    simp only [b_both_in, b_both_in_5, b_both_in_4, b_both_in_3, b_both_in_2, okSs, okS, okE, okEs, okIt, lkOf, and_true, true_and]
    (repeat' apply And.intro) <;> first | exact trivial | exact k_time_in.mono (by decide) | exact k_common_multiple.mono (by decide)
  have k_both_in : CallOk P w K mg base 3 "both_in" sp_both_in := call_of F_both_in g_both_in h_both_in (fun _ _ _ _ _ _ us hl => match us, hl with | [_, _], _ => rfl)
  have h_joint_in : FnG P w K mg base 4 f_joint_in d_joint_in ["rows"] (liftSp K sp_joint_in) := by
    refine fn_g (k := 3) (fun_of F_joint_in) s_joint_in p_joint_in c_joint_in ?_ hbn
    simp only [b_joint_in, u_joint_in_1, lb_joint_in_2, b_joint_in_3, b_joint_in_2, okSs, okS, okE, okEs, okIt, lkOf, and_true, true_and]
    (repeat' apply And.intro) <;> first | exact trivial | exact k_both_in.mono (by decide) | exact G_ALL_NUMBERS
  have k_joint_in : CallOk P w K mg base 4 "joint_in" sp_joint_in := call_of F_joint_in g_joint_in h_joint_in (fun _ _ _ _ _ _ us hl => match us, hl with | [_], _ => rfl)
  have h_check_tooth : FnG P w K mg base 3 f_check_tooth d_check_tooth ["teeth", "thing"] (liftSp K sp_check_tooth) := by
    refine fn_g (k := 2) (fun_of F_check_tooth) s_check_tooth p_check_tooth c_check_tooth ?_ hbn
    simp only [b_check_tooth, okSs, okS, okE, okEs, okIt, lkOf, and_true, true_and]
    (repeat' apply And.intro) <;> first | exact trivial | exact k_is_between.mono (by decide)
  have k_check_tooth : CallOk P w K mg base 3 "check_tooth" sp_check_tooth := call_of F_check_tooth g_check_tooth h_check_tooth (fun _ _ _ _ _ _ us hl => match us, hl with | [_, _], _ => rfl)
  have h_check_begin : FnG P w K mg base 4 f_check_begin d_check_begin ["teeth", "other_teeth", "thing"] (liftSp K sp_check_begin) := by
    refine fn_g (k := 3) (fun_of F_check_begin) s_check_begin p_check_begin c_check_begin ?_ hbn
    simp only [b_check_begin, b_check_begin_3, b_check_begin_2, okSs, okS, okE, okEs, okIt, lkOf, and_true, true_and]
    (repeat' apply And.intro) <;> first | exact trivial | exact k_check_tooth.mono (by decide)
  have k_check_begin : CallOk P w K mg base 4 "check_begin" sp_check_begin := call_of F_check_begin g_check_begin h_check_begin (fun _ _ _ _ _ _ us hl => match us, hl with | [_, _, _], _ => rfl)
  have h_check_wheels : FnG P w K mg base 4 f_check_wheels d_check_wheels ["teeth", "other_teeth"] (liftSp K sp_check_wheels) := by
    refine fn_g (k := 3) (fun_of F_check_wheels) s_check_wheels p_check_wheels c_check_wheels ?_ hbn
    simp only [b_check_wheels, okSs, okS, okE, okEs, okIt, lkOf, and_true, true_and]
    (repeat' apply And.intro) <;> first | exact trivial | exact k_check_teeth.mono (by decide)
  have k_check_wheels : CallOk P w K mg base 4 "check_wheels" sp_check_wheels := call_of F_check_wheels g_check_wheels h_check_wheels (fun _ _ _ _ _ _ us hl => match us, hl with | [_, _], _ => rfl)
  have h_check_meeting : FnG P w K mg base 5 f_check_meeting d_check_meeting ["teeth", "other_teeth", "begin", "tooth", "other_tooth"] (liftSp K sp_check_meeting) := by
    refine fn_g (k := 4) (fun_of F_check_meeting) s_check_meeting p_check_meeting c_check_meeting ?_ hbn
    simp only [b_check_meeting, b_check_meeting_4, b_check_meeting_3, b_check_meeting_2, okSs, okS, okE, okEs, okIt, lkOf, and_true, true_and]
    (repeat' apply And.intro) <;> first | exact trivial | exact k_check_wheels.mono (by decide) | exact k_check_begin.mono (by decide) | exact k_check_tooth.mono (by decide)
  have k_check_meeting : CallOk P w K mg base 5 "check_meeting" sp_check_meeting := call_of F_check_meeting g_check_meeting h_check_meeting (fun _ _ _ _ _ _ us hl => match us, hl with | [_, _, _, _, _], _ => rfl)
  have h_passes_at : FnG P w K mg base 5 f_passes_at d_passes_at ["teeth", "other_teeth", "begin", "tooth", "other_tooth"] (liftSp K sp_passes_at) := by
    refine fn_g (k := 4) (fun_of F_passes_at) s_passes_at p_passes_at c_passes_at ?_ hbn
    simp only [b_passes_at, b_passes_at_3, b_passes_at_2, okSs, okS, okE, okEs, okIt, lkOf, and_true, true_and]
    (repeat' apply And.intro) <;> first | exact trivial | exact k_joint_in.mono (by decide)
  have k_passes_at : CallOk P w K mg base 5 "passes_at" sp_passes_at := call_of F_passes_at g_passes_at h_passes_at (fun _ _ _ _ _ _ us hl => match us, hl with | [_, _, _, _, _], _ => rfl)
  have h_meets : FnG P w K mg base 6 f_meets d_meets ["teeth", "other_teeth", "begin", "tooth", "other_tooth"] (liftSp K sp_meets) := by
    refine fn_g (k := 5) (fun_of F_meets) s_meets p_meets c_meets ?_ hbn
    simp only [b_meets, okSs, okS, okE, okEs, okIt, lkOf, and_true, true_and]
    (repeat' apply And.intro) <;> first | exact trivial | exact k_check_meeting.mono (by decide) | exact k_passes_at.mono (by decide)
  have k_meets : CallOk P w K mg base 6 "meets" sp_meets := call_of F_meets g_meets h_meets (fun _ _ _ _ _ _ us hl => match us, hl with | [_, _, _, _, _], _ => rfl)
  have kk_meets_other_tooth_tooth_begin_other_teeth_teeth : CallKOk P w K mg base 6 "meets" sp_meets ["teeth", "other_teeth", "begin", "tooth", "other_tooth"] ["other_tooth", "tooth", "begin", "other_teeth", "teeth"] := callK_of F_meets g_meets h_meets (fun _ _ _ _ _ _ ws hl => match ws, hl with | [u0, u1, u2, u3, u4], _ => ⟨[u4, u3, u2, u1, u0], rfl, rfl⟩)
  have h_partners : FnG P w K mg base 5 f_partners d_partners ["teeth", "other_teeth", "begin", "tooth"] (liftSp K sp_partners) := by
    refine fn_g (k := 4) (fun_of F_partners) s_partners p_partners c_partners ?_ hbn
    simp only [b_partners, b_partners_5, b_partners_4, b_partners_3, b_partners_2, okSs, okS, okE, okEs, okIt, lkOf, and_true, true_and]
    (repeat' apply And.intro) <;> first | exact trivial | exact k_check_wheels.mono (by decide) | exact k_check_begin.mono (by decide) | exact k_check_tooth.mono (by decide) | exact k_common_divisor.mono (by decide)
  have k_partners : CallOk P w K mg base 5 "partners" sp_partners := call_of F_partners g_partners h_partners (fun _ _ _ _ _ _ us hl => match us, hl with | [_, _, _, _], _ => rfl)
  have kk_partners_tooth_begin_other_teeth_teeth : CallKOk P w K mg base 5 "partners" sp_partners ["teeth", "other_teeth", "begin", "tooth"] ["tooth", "begin", "other_teeth", "teeth"] := callK_of F_partners g_partners h_partners (fun _ _ _ _ _ _ ws hl => match ws, hl with | [u0, u1, u2, u3], _ => ⟨[u3, u2, u1, u0], rfl, rfl⟩)
  have h_is_even : FnG P w K mg base 5 f_is_even d_is_even ["teeth", "other_teeth"] (liftSp K sp_is_even) := by
    refine fn_g (k := 4) (fun_of F_is_even) s_is_even p_is_even c_is_even ?_ hbn
    simp only [b_is_even, okSs, okS, okE, okEs, okIt, lkOf, and_true, true_and]
    (repeat' apply And.intro) <;> first | exact trivial | exact k_check_wheels.mono (by decide) | exact k_common_divisor.mono (by decide)
  have k_is_even : CallOk P w K mg base 5 "is_even" sp_is_even := call_of F_is_even g_is_even h_is_even (fun _ _ _ _ _ _ us hl => match us, hl with | [_, _], _ => rfl)
  have kk_is_even_other_teeth_teeth : CallKOk P w K mg base 5 "is_even" sp_is_even ["teeth", "other_teeth"] ["other_teeth", "teeth"] := callK_of F_is_even g_is_even h_is_even (fun _ _ _ _ _ _ ws hl => match ws, hl with | [u0, u1], _ => ⟨[u1, u0], rfl, rfl⟩)
  have h_pairs_met : FnG P w K mg base 5 f_pairs_met d_pairs_met ["teeth", "other_teeth"] (liftSp K sp_pairs_met) := by
    refine fn_g (k := 4) (fun_of F_pairs_met) s_pairs_met p_pairs_met c_pairs_met ?_ hbn
    simp only [b_pairs_met, okSs, okS, okE, okEs, okIt, lkOf, and_true, true_and]
    (repeat' apply And.intro) <;> first | exact trivial | exact k_check_wheels.mono (by decide) | exact k_common_divisor.mono (by decide)
  have k_pairs_met : CallOk P w K mg base 5 "pairs_met" sp_pairs_met := call_of F_pairs_met g_pairs_met h_pairs_met (fun _ _ _ _ _ _ us hl => match us, hl with | [_, _], _ => rfl)
  have kk_pairs_met_other_teeth_teeth : CallKOk P w K mg base 5 "pairs_met" sp_pairs_met ["teeth", "other_teeth"] ["other_teeth", "teeth"] := callK_of F_pairs_met g_pairs_met h_pairs_met (fun _ _ _ _ _ _ ws hl => match ws, hl with | [u0, u1], _ => ⟨[u1, u0], rfl, rfl⟩)
  have h_times_met : FnG P w K mg base 6 f_times_met d_times_met ["teeth", "other_teeth", "begin", "tooth", "other_tooth", "count"] (liftSp K sp_times_met) := by
    refine fn_g (k := 5) (fun_of F_times_met) s_times_met p_times_met c_times_met ?_ hbn
    simp only [b_times_met, b_times_met_6, b_times_met_5, b_times_met_4, b_times_met_3, b_times_met_2, okSs, okS, okE, okEs, okIt, lkOf, and_true, true_and]
    (repeat' apply And.intro) <;> first | exact trivial | exact k_check_meeting.mono (by decide) | exact k_check_count.mono (by decide) | exact k_passes_at.mono (by decide)
  have k_times_met : CallOk P w K mg base 6 "times_met" sp_times_met := call_of F_times_met g_times_met h_times_met (fun _ _ _ _ _ _ us hl => match us, hl with | [_, _, _, _, _, _], _ => rfl)
  have kk_times_met_count_other_tooth_tooth_begin_other_teeth_teeth : CallKOk P w K mg base 6 "times_met" sp_times_met ["teeth", "other_teeth", "begin", "tooth", "other_tooth", "count"] ["count", "other_tooth", "tooth", "begin", "other_teeth", "teeth"] := callK_of F_times_met g_times_met h_times_met (fun _ _ _ _ _ _ ws hl => match ws, hl with | [u0, u1, u2, u3, u4, u5], _ => ⟨[u5, u4, u3, u2, u1, u0], rfl, rfl⟩)
  have h__law_urn : FnG P w K mg base 1 f__law_urn d__law_urn ["_law_script", "_law_k"] (liftSp K sp__law_urn) := by
    refine fn_g (k := 0) (fun_of F__law_urn) s__law_urn p__law_urn c__law_urn ?_ hbn
    simp only [b__law_urn, okSs, okS, okE, okEs, okIt, lkOf, and_true, true_and]
  have k__law_urn : CallOk P w K mg base 1 "_law_urn" sp__law_urn := call_of F__law_urn g__law_urn h__law_urn (fun _ _ _ _ _ _ us hl => match us, hl with | [_, _], _ => rfl)
  have h__law_pick : FnG P w K mg base 1 f__law_pick d__law_pick ["_law_urn_here", "_law_many"] (liftSp K sp__law_pick) := by
    refine fn_g (k := 0) (fun_of F__law_pick) s__law_pick p__law_pick c__law_pick ?_ hbn
    simp only [b__law_pick, okSs, okS, okE, okEs, okIt, lkOf, and_true, true_and]
  have k__law_pick : CallOk P w K mg base 1 "_law_pick" sp__law_pick := call_of F__law_pick g__law_pick h__law_pick (fun _ _ _ _ _ _ us hl => match us, hl with | [_, _], _ => rfl)
  have h__law_says : FnG P w K mg base 1 f__law_says d__law_says ["_law_thing", "_law_due"] (liftSp K sp__law_says) := by
    refine fn_g (k := 0) (fun_of F__law_says) s__law_says p__law_says c__law_says ?_ hbn
    simp only [b__law_says, okSs, okS, okE, okEs, okIt, lkOf, and_true, true_and]
  have k__law_says : CallOk P w K mg base 1 "_law_says" sp__law_says := call_of F__law_says g__law_says h__law_says (fun _ _ _ _ _ _ us hl => match us, hl with | [_, _], _ => rfl)
  have h__law_passes : FnG P w K mg base 1 f__law_passes d__law_passes ["_law_s", "_law_t", "_law_start"] (liftSp K sp__law_passes) := by
    refine fn_g (k := 0) (fun_of F__law_passes) s__law_passes p__law_passes c__law_passes ?_ hbn
    simp only [b__law_passes, u__law_passes_1, u__law_passes_2, lb__law_passes_3, b__law_passes_4, b__law_passes_3, b__law_passes_2, okSs, okS, okE, okEs, okIt, lkOf, and_true, true_and]
  have k__law_passes : CallOk P w K mg base 1 "_law_passes" sp__law_passes := call_of F__law_passes g__law_passes h__law_passes (fun _ _ _ _ _ _ us hl => match us, hl with | [_, _, _], _ => rfl)
  have h__law_progression : FnG P w K mg base 1 f__law_progression d__law_progression ["_law_rows", "_law_pair_here"] (liftSp K sp__law_progression) := by
    refine fn_g (k := 0) (fun_of F__law_progression) s__law_progression p__law_progression c__law_progression ?_ hbn
    simp only [b__law_progression, cc__law_progression_1, ce__law_progression_2, b__law_progression_2, okSs, okS, okE, okEs, okIt, lkOf, and_true, true_and]
  have k__law_progression : CallOk P w K mg base 1 "_law_progression" sp__law_progression := call_of F__law_progression g__law_progression h__law_progression (fun _ _ _ _ _ _ us hl => match us, hl with | [_, _], _ => rfl)
  have h__law_counts_right : FnG P w K mg base 7 f__law_counts_right d__law_counts_right ["_law_urn_here", "_law_s", "_law_t", "_law_start", "_law_pair_here", "_law_due"] (liftSp K sp__law_counts_right) := by
    refine fn_g (k := 6) (fun_of F__law_counts_right) s__law_counts_right p__law_counts_right c__law_counts_right ?_ hbn
    simp only [b__law_counts_right, u__law_counts_right_1, u__law_counts_right_2, lb__law_counts_right_3, b__law_counts_right_3, b__law_counts_right_2, okSs, okS, okE, okEs, okIt, lkOf, and_true, true_and]
    (repeat' apply And.intro) <;> first | exact trivial | exact k__law_pick.mono (by decide) | exact k_times_met.mono (by decide) | exact kk_times_met_count_other_tooth_tooth_begin_other_teeth_teeth.mono (by decide)
  have k__law_counts_right : CallOk P w K mg base 7 "_law_counts_right" sp__law_counts_right := call_of F__law_counts_right g__law_counts_right h__law_counts_right (fun _ _ _ _ _ _ us hl => match us, hl with | [_, _, _, _, _, _], _ => rfl)
  have h__law_turned_right : FnG P w K mg base 7 f__law_turned_right d__law_turned_right ["_law_urn_here", "_law_s", "_law_t", "_law_start", "_law_pair_here", "_law_due"] (liftSp K sp__law_turned_right) := by
    refine fn_g (k := 6) (fun_of F__law_turned_right) s__law_turned_right p__law_turned_right c__law_turned_right ?_ hbn
    simp only [b__law_turned_right, b__law_turned_right_7, b__law_turned_right_6, b__law_turned_right_5, b__law_turned_right_4, b__law_turned_right_3, b__law_turned_right_2, okSs, okS, okE, okEs, okIt, lkOf, and_true, true_and]
    (repeat' apply And.intro) <;> first | exact trivial | exact k_meets.mono (by decide) | exact k__law_pick.mono (by decide)
  have k__law_turned_right : CallOk P w K mg base 7 "_law_turned_right" sp__law_turned_right := call_of F__law_turned_right g__law_turned_right h__law_turned_right (fun _ _ _ _ _ _ us hl => match us, hl with | [_, _, _, _, _, _], _ => rfl)
  have h__law_right : FnG P w K mg base 8 f__law_right d__law_right ["_law_urn_here"] (liftSp K sp__law_right) := by
    refine fn_g (k := 7) (fun_of F__law_right) s__law_right p__law_right c__law_right ?_ hbn
    simp only [b__law_right, cc__law_right_1, ce__law_right_2, b__law_right_19, b__law_right_18, b__law_right_17, b__law_right_16, b__law_right_15, b__law_right_14, b__law_right_13, b__law_right_12, b__law_right_11, b__law_right_10, b__law_right_9, b__law_right_8, b__law_right_7, b__law_right_6, b__law_right_5, b__law_right_4, b__law_right_3, b__law_right_2, okSs, okS, okE, okEs, okIt, lkOf, and_true, true_and]
    (repeat' apply And.intro) <;> first | exact trivial | exact k__law_pick.mono (by decide) | exact k__law_passes.mono (by decide) | exact k__law_progression.mono (by decide) | exact k_meets.mono (by decide) | exact k_partners.mono (by decide) | exact k_pairs_met.mono (by decide) | exact k__law_says.mono (by decide) | exact k_is_even.mono (by decide) | exact k__law_counts_right.mono (by decide) | exact k__law_turned_right.mono (by decide) | exact kk_meets_other_tooth_tooth_begin_other_teeth_teeth.mono (by decide) | exact kk_partners_tooth_begin_other_teeth_teeth.mono (by decide) | exact kk_pairs_met_other_teeth_teeth.mono (by decide) | exact kk_is_even_other_teeth_teeth.mono (by decide)
  have k__law_right : CallOk P w K mg base 8 "_law_right" sp__law_right := call_of F__law_right g__law_right h__law_right (fun _ _ _ _ _ _ us hl => match us, hl with | [_], _ => rfl)
  have h_law : FnG P w K mg base 9 f_law d_law ["_law_script"] (liftSp K sp_law) := by
    refine fn_g (k := 8) (fun_of F_law) s_law p_law c_law ?_ hbn
    simp only [b_law, lb_law_1, okSs, okS, okE, okEs, okIt, lkOf, and_true, true_and]
    (repeat' apply And.intro) <;> first | exact trivial | exact k__law_right.mono (by decide) | exact k__law_urn.mono (by decide)
  have k_law : CallOk P w K mg base 9 "law" sp_law := call_of F_law g_law h_law (fun _ _ _ _ _ _ us hl => match us, hl with | [_], _ => rfl)
  exact h_law
end
def dd_common_divisor : He.DefD := ⟨("common_divisor", none), "common_divisor", "common_divisor", defArgs t_common_divisor, defBody t_common_divisor, defScope t_common_divisor, [], []⟩
def dd_common_multiple : He.DefD := ⟨("common_multiple", none), "common_multiple", "common_multiple", defArgs t_common_multiple, defBody t_common_multiple, defScope t_common_multiple, [], []⟩
def dd_is_integer : He.DefD := ⟨("is_integer", none), "is_integer", "is_integer", defArgs t_is_integer, defBody t_is_integer, defScope t_is_integer, [], []⟩
def dd_is_from : He.DefD := ⟨("is_from", none), "is_from", "is_from", defArgs t_is_from, defBody t_is_from, defScope t_is_from, [], []⟩
def dd_is_between : He.DefD := ⟨("is_between", none), "is_between", "is_between", defArgs t_is_between, defBody t_is_between, defScope t_is_between, [], []⟩
def dd_check_count : He.DefD := ⟨("check_count", none), "check_count", "check_count", defArgs t_check_count, defBody t_check_count, defScope t_check_count, [], []⟩
def dd_check_teeth : He.DefD := ⟨("check_teeth", none), "check_teeth", "check_teeth", defArgs t_check_teeth, defBody t_check_teeth, defScope t_check_teeth, [], []⟩
def dd_inverse_of : He.DefD := ⟨("inverse_of", none), "inverse_of", "inverse_of", defArgs t_inverse_of, defBody t_inverse_of, defScope t_inverse_of, [], []⟩
def dd_time_in : He.DefD := ⟨("time_in", none), "time_in", "time_in", defArgs t_time_in, defBody t_time_in, defScope t_time_in, [], []⟩
def dd_both_in : He.DefD := ⟨("both_in", none), "both_in", "both_in", defArgs t_both_in, defBody t_both_in, defScope t_both_in, [], []⟩
def dd_joint_in : He.DefD := ⟨("joint_in", none), "joint_in", "joint_in", defArgs t_joint_in, defBody t_joint_in, defScope t_joint_in, [], []⟩
def dd_check_tooth : He.DefD := ⟨("check_tooth", none), "check_tooth", "check_tooth", defArgs t_check_tooth, defBody t_check_tooth, defScope t_check_tooth, [], []⟩
def dd_check_begin : He.DefD := ⟨("check_begin", none), "check_begin", "check_begin", defArgs t_check_begin, defBody t_check_begin, defScope t_check_begin, [], []⟩
def dd_check_wheels : He.DefD := ⟨("check_wheels", none), "check_wheels", "check_wheels", defArgs t_check_wheels, defBody t_check_wheels, defScope t_check_wheels, [], []⟩
def dd_check_meeting : He.DefD := ⟨("check_meeting", none), "check_meeting", "check_meeting", defArgs t_check_meeting, defBody t_check_meeting, defScope t_check_meeting, [], []⟩
def dd_passes_at : He.DefD := ⟨("passes_at", none), "passes_at", "passes_at", defArgs t_passes_at, defBody t_passes_at, defScope t_passes_at, [], []⟩
def dd_meets : He.DefD := ⟨("meets", none), "meets", "meets", defArgs t_meets, defBody t_meets, defScope t_meets, [], []⟩
def dd_partners : He.DefD := ⟨("partners", none), "partners", "partners", defArgs t_partners, defBody t_partners, defScope t_partners, [], []⟩
def dd_is_even : He.DefD := ⟨("is_even", none), "is_even", "is_even", defArgs t_is_even, defBody t_is_even, defScope t_is_even, [], []⟩
def dd_pairs_met : He.DefD := ⟨("pairs_met", none), "pairs_met", "pairs_met", defArgs t_pairs_met, defBody t_pairs_met, defScope t_pairs_met, [], []⟩
def dd_times_met : He.DefD := ⟨("times_met", none), "times_met", "times_met", defArgs t_times_met, defBody t_times_met, defScope t_times_met, [], []⟩
def dd__law_urn : He.DefD := ⟨("_law_urn", none), "_law_urn", "_law_urn", defArgs t__law_urn, defBody t__law_urn, defScope t__law_urn, [], []⟩
def dd__law_pick : He.DefD := ⟨("_law_pick", none), "_law_pick", "_law_pick", defArgs t__law_pick, defBody t__law_pick, defScope t__law_pick, [], []⟩
def dd__law_says : He.DefD := ⟨("_law_says", none), "_law_says", "_law_says", defArgs t__law_says, defBody t__law_says, defScope t__law_says, [], []⟩
def dd__law_passes : He.DefD := ⟨("_law_passes", none), "_law_passes", "_law_passes", defArgs t__law_passes, defBody t__law_passes, defScope t__law_passes, [], []⟩
def dd__law_progression : He.DefD := ⟨("_law_progression", none), "_law_progression", "_law_progression", defArgs t__law_progression, defBody t__law_progression, defScope t__law_progression, [], []⟩
def dd__law_counts_right : He.DefD := ⟨("_law_counts_right", none), "_law_counts_right", "_law_counts_right", defArgs t__law_counts_right, defBody t__law_counts_right, defScope t__law_counts_right, [], []⟩
def dd__law_turned_right : He.DefD := ⟨("_law_turned_right", none), "_law_turned_right", "_law_turned_right", defArgs t__law_turned_right, defBody t__law_turned_right, defScope t__law_turned_right, [], []⟩
def dd__law_right : He.DefD := ⟨("_law_right", none), "_law_right", "_law_right", defArgs t__law_right, defBody t__law_right, defScope t__law_right, [], []⟩
def dd_law : He.DefD := ⟨("law", none), "law", "law", defArgs t_law, defBody t_law, defScope t_law, [], []⟩
def fn : List He.DefD := [dd_common_divisor, dd_common_multiple, dd_is_integer, dd_is_from, dd_is_between, dd_check_count, dd_check_teeth, dd_inverse_of, dd_time_in, dd_both_in, dd_joint_in, dd_check_tooth, dd_check_begin, dd_check_wheels, dd_check_meeting, dd_passes_at, dd_meets, dd_partners, dd_is_even, dd_pairs_met, dd_times_met, dd__law_urn, dd__law_pick, dd__law_says, dd__law_passes, dd__law_progression, dd__law_counts_right, dd__law_turned_right, dd__law_right, dd_law]
def fa : List He.Fa := [.glo "common_divisor", .glo "common_multiple", .glo "is_integer", .glo "is_from", .glo "is_between", .glo "check_count", .glo "check_teeth", .glo "inverse_of", .glo "time_in", .glo "both_in", .glo "joint_in", .glo "check_tooth", .glo "check_begin", .glo "check_wheels", .glo "check_meeting", .glo "passes_at", .glo "meets", .glo "partners", .glo "is_even", .glo "pairs_met", .glo "times_met", .glo "_law_urn", .glo "_law_pick", .glo "_law_says", .glo "_law_passes", .glo "_law_progression", .glo "_law_counts_right", .glo "_law_turned_right", .glo "_law_right", .glo "law", .free "len", .free "abs", .free "max", .free "min", .free "int", .free "sum", .free "any", .free "all", .free "list", .free "tuple", .free "sorted", .free "repr", .free "bool", .free "isinstance", .free "range", .free "enumerate", .free "zip", .free "str", .glo "ALL_NUMBERS"]
def ex (K : PySem.W.Frag) : Bool := He.tupB K "ALL_NUMBERS" (DvI [0, 1])
abbrev R : PySem.W.OpenRow := PySem.W.OpenLaw.row PySem.Challenge.rw_drawnbywheels_k50_whole_teeth_that_meet
abbrev hk : PySem.W.Hook := hookP 4 ex fa fn
def ob (s : PySem.W.SharedT) : Bool × He.AlD := obP 4 ex fa fn s
def loose : List Str := (["WheelError", "InvalidCount", "InvalidTeeth", "InvalidTooth", "common_divisor", "common_multiple", "is_integer", "is_from", "is_between", "check_count", "check_teeth", "ALL_NUMBERS", "inverse_of", "time_in", "both_in", "joint_in", "check_tooth", "check_begin", "check_wheels", "check_meeting", "passes_at", "meets", "partners", "is_even", "pairs_met", "times_met", "_law_urn", "_law_pick", "_law_common", "_law_says"] : List Str) ++ (["_law_passes", "_law_progression", "_law_counts_right", "_law_turned_right", "_law_right"] : List Str)
set_option maxHeartbeats 0 in
theorem run (w : World) : HandSHeadRun.RunEq R (PySem.W.view R.prog [41]) hk ob 4000 loose w := by
  intro os
  kernel_rfl
theorem facts {P : Program} {w : World} {K : PySem.W.Frag} {h : Heap} {mg : Str → Option Value} {f : Addr} (X : K.In h) (G : h.Ns mainGlobals mg) (hfa : mg ("law" : Str) = some (.ref f)) (hx : ex K = true) (c : He.SaysD fa fn K) :
    ∃ fd : FuncData, (∀ (s : Shared) (v : Value), BindsTo s fd ⟨[v], []⟩ [("_law_script", v)]) ∧ ∀ base : Heap, K.In base → base.Ns mainGlobals mg → FnG P w K mg base 9 f fd ["_law_script"] (liftSp K sp_law) := by
  obtain ⟨d_common_divisor, F_common_divisor⟩ := c.def_ 0 (d := dd_common_divisor) rfl
  obtain ⟨d_common_multiple, F_common_multiple⟩ := c.def_ 1 (d := dd_common_multiple) rfl
  obtain ⟨d_is_integer, F_is_integer⟩ := c.def_ 2 (d := dd_is_integer) rfl
  obtain ⟨d_is_from, F_is_from⟩ := c.def_ 3 (d := dd_is_from) rfl
  obtain ⟨d_is_between, F_is_between⟩ := c.def_ 4 (d := dd_is_between) rfl
  obtain ⟨d_check_count, F_check_count⟩ := c.def_ 5 (d := dd_check_count) rfl
  obtain ⟨d_check_teeth, F_check_teeth⟩ := c.def_ 6 (d := dd_check_teeth) rfl
  obtain ⟨d_inverse_of, F_inverse_of⟩ := c.def_ 7 (d := dd_inverse_of) rfl
  obtain ⟨d_time_in, F_time_in⟩ := c.def_ 8 (d := dd_time_in) rfl
  obtain ⟨d_both_in, F_both_in⟩ := c.def_ 9 (d := dd_both_in) rfl
  obtain ⟨d_joint_in, F_joint_in⟩ := c.def_ 10 (d := dd_joint_in) rfl
  obtain ⟨d_check_tooth, F_check_tooth⟩ := c.def_ 11 (d := dd_check_tooth) rfl
  obtain ⟨d_check_begin, F_check_begin⟩ := c.def_ 12 (d := dd_check_begin) rfl
  obtain ⟨d_check_wheels, F_check_wheels⟩ := c.def_ 13 (d := dd_check_wheels) rfl
  obtain ⟨d_check_meeting, F_check_meeting⟩ := c.def_ 14 (d := dd_check_meeting) rfl
  obtain ⟨d_passes_at, F_passes_at⟩ := c.def_ 15 (d := dd_passes_at) rfl
  obtain ⟨d_meets, F_meets⟩ := c.def_ 16 (d := dd_meets) rfl
  obtain ⟨d_partners, F_partners⟩ := c.def_ 17 (d := dd_partners) rfl
  obtain ⟨d_is_even, F_is_even⟩ := c.def_ 18 (d := dd_is_even) rfl
  obtain ⟨d_pairs_met, F_pairs_met⟩ := c.def_ 19 (d := dd_pairs_met) rfl
  obtain ⟨d_times_met, F_times_met⟩ := c.def_ 20 (d := dd_times_met) rfl
  obtain ⟨d__law_urn, F__law_urn⟩ := c.def_ 21 (d := dd__law_urn) rfl
  obtain ⟨d__law_pick, F__law_pick⟩ := c.def_ 22 (d := dd__law_pick) rfl
  obtain ⟨d__law_says, F__law_says⟩ := c.def_ 23 (d := dd__law_says) rfl
  obtain ⟨d__law_passes, F__law_passes⟩ := c.def_ 24 (d := dd__law_passes) rfl
  obtain ⟨d__law_progression, F__law_progression⟩ := c.def_ 25 (d := dd__law_progression) rfl
  obtain ⟨d__law_counts_right, F__law_counts_right⟩ := c.def_ 26 (d := dd__law_counts_right) rfl
  obtain ⟨d__law_turned_right, F__law_turned_right⟩ := c.def_ 27 (d := dd__law_turned_right) rfl
  obtain ⟨d__law_right, F__law_right⟩ := c.def_ 28 (d := dd__law_right) rfl
  obtain ⟨d_law, F_law⟩ := c.def_ 29 (d := dd_law) rfl
  have e := hfa.symm.trans (He.glo_ok X G (c.fact 29 (f := .glo "law") rfl))
  cases e
  have b := FunD.bindsA (ps := ["_law_script"]) F_law fun _ _ _ _ _ _ us hl => match us, hl with | [_], _ => rfl
  have hbn : ∀ x ∈ bnames, mg x = none := by
    intro x hx
    simp only [bnames, List.mem_cons, List.not_mem_nil, or_false] at hx
    rcases hx with rfl | rfl | rfl | rfl | rfl | rfl | rfl | rfl | rfl | rfl | rfl | rfl | rfl | rfl | rfl | rfl | rfl | rfl
    · exact He.free_ok X G (c.fact 30 (f := .free "len") rfl)
    · exact He.free_ok X G (c.fact 31 (f := .free "abs") rfl)
    · exact He.free_ok X G (c.fact 32 (f := .free "max") rfl)
    · exact He.free_ok X G (c.fact 33 (f := .free "min") rfl)
    · exact He.free_ok X G (c.fact 34 (f := .free "int") rfl)
    · exact He.free_ok X G (c.fact 35 (f := .free "sum") rfl)
    · exact He.free_ok X G (c.fact 36 (f := .free "any") rfl)
    · exact He.free_ok X G (c.fact 37 (f := .free "all") rfl)
    · exact He.free_ok X G (c.fact 38 (f := .free "list") rfl)
    · exact He.free_ok X G (c.fact 39 (f := .free "tuple") rfl)
    · exact He.free_ok X G (c.fact 40 (f := .free "sorted") rfl)
    · exact He.free_ok X G (c.fact 41 (f := .free "repr") rfl)
    · exact He.free_ok X G (c.fact 42 (f := .free "bool") rfl)
    · exact He.free_ok X G (c.fact 43 (f := .free "isinstance") rfl)
    · exact He.free_ok X G (c.fact 44 (f := .free "range") rfl)
    · exact He.free_ok X G (c.fact 45 (f := .free "enumerate") rfl)
    · exact He.free_ok X G (c.fact 46 (f := .free "zip") rfl)
    · exact He.free_ok X G (c.fact 47 (f := .free "str") rfl)
  have hx2 := hx
  simp only [ex, Bool.and_eq_true] at hx2
  have G_ALL_NUMBERS : GlobOk K mg "ALL_NUMBERS" gv_ALL_NUMBERS := glob_tup (ns := [0, 1]) X G (c.fact 48 (f := .glo "ALL_NUMBERS") rfl) hx2
  exact ⟨_, fun s v => b s [v] rfl, fun base _ _ => chain F_common_divisor (He.glo_ok X G (c.fact 0 (f := .glo "common_divisor") rfl)) F_common_multiple (He.glo_ok X G (c.fact 1 (f := .glo "common_multiple") rfl)) F_is_integer (He.glo_ok X G (c.fact 2 (f := .glo "is_integer") rfl)) F_is_from (He.glo_ok X G (c.fact 3 (f := .glo "is_from") rfl)) F_is_between (He.glo_ok X G (c.fact 4 (f := .glo "is_between") rfl)) F_check_count (He.glo_ok X G (c.fact 5 (f := .glo "check_count") rfl)) F_check_teeth (He.glo_ok X G (c.fact 6 (f := .glo "check_teeth") rfl)) F_inverse_of (He.glo_ok X G (c.fact 7 (f := .glo "inverse_of") rfl)) F_time_in (He.glo_ok X G (c.fact 8 (f := .glo "time_in") rfl)) F_both_in (He.glo_ok X G (c.fact 9 (f := .glo "both_in") rfl)) F_joint_in (He.glo_ok X G (c.fact 10 (f := .glo "joint_in") rfl)) F_check_tooth (He.glo_ok X G (c.fact 11 (f := .glo "check_tooth") rfl)) F_check_begin (He.glo_ok X G (c.fact 12 (f := .glo "check_begin") rfl)) F_check_wheels (He.glo_ok X G (c.fact 13 (f := .glo "check_wheels") rfl)) F_check_meeting (He.glo_ok X G (c.fact 14 (f := .glo "check_meeting") rfl)) F_passes_at (He.glo_ok X G (c.fact 15 (f := .glo "passes_at") rfl)) F_meets (He.glo_ok X G (c.fact 16 (f := .glo "meets") rfl)) F_partners (He.glo_ok X G (c.fact 17 (f := .glo "partners") rfl)) F_is_even (He.glo_ok X G (c.fact 18 (f := .glo "is_even") rfl)) F_pairs_met (He.glo_ok X G (c.fact 19 (f := .glo "pairs_met") rfl)) F_times_met (He.glo_ok X G (c.fact 20 (f := .glo "times_met") rfl)) F__law_urn (He.glo_ok X G (c.fact 21 (f := .glo "_law_urn") rfl)) F__law_pick (He.glo_ok X G (c.fact 22 (f := .glo "_law_pick") rfl)) F__law_says (He.glo_ok X G (c.fact 23 (f := .glo "_law_says") rfl)) F__law_passes (He.glo_ok X G (c.fact 24 (f := .glo "_law_passes") rfl)) F__law_progression (He.glo_ok X G (c.fact 25 (f := .glo "_law_progression") rfl)) F__law_counts_right (He.glo_ok X G (c.fact 26 (f := .glo "_law_counts_right") rfl)) F__law_turned_right (He.glo_ok X G (c.fact 27 (f := .glo "_law_turned_right") rfl)) F__law_right (He.glo_ok X G (c.fact 28 (f := .glo "_law_right") rfl)) F_law (He.glo_ok X G (c.fact 29 (f := .glo "law") rfl)) G_ALL_NUMBERS hbn⟩
end K50
open PySem PySem.W PySem.Calls PyProof.Rows
set_option maxHeartbeats 0 in
theorem PySem.Challenge.cw_drawnbywheels_k50_whole_teeth_that_meet_holds : PySem.Challenge.rw_drawnbywheels_k50_whole_teeth_that_meet.Holds := by
  w_on; o_law
  refine HandSHeadRun.head_any (r := OpenLaw.row PySem.Challenge.rw_drawnbywheels_k50_whole_teeth_that_meet) (q := view (OpenLaw.row PySem.Challenge.rw_drawnbywheels_k50_whole_teeth_that_meet).prog [41]) (H := K50.hk) (ob := K50.ob) (M := 4000) (loose := K50.loose) (d := HandSHeadRun.topDef (OpenLaw.row PySem.Challenge.rw_drawnbywheels_k50_whole_teeth_that_meet).prog 41) (kwd := []) PF.obP_eq
    (by kernel_rfl) (fun s => by kernel_rfl) K50.run (by kernel_rfl) (by kernel_rfl) (by kernel_rfl) (by rfl) (by first | assumption | decide +kernel) (by decide +kernel) ⟨rfl, rfl, rfl, rfl, rfl, by decide +kernel⟩ ?hw ?hc
  case hw => w_witness2
  case hc =>
    refine PF.walk_g (l := PySem.Challenge.rw_drawnbywheels_k50_whole_teeth_that_meet) (n := 63) (k := 9) (x := "_law_script") rfl (by decide) (by kernel_rfl) ⟨rfl, by decide, by decide⟩ ?F
    intro w mg fa h Y G hmg0
    obtain ⟨K, KX, hx, c⟩ := Y
    have hmg : mg ("law" : PySem.Str) = some (.ref fa) := by
      have e : (HandSHeadRun.topDef (OpenLaw.row PySem.Challenge.rw_drawnbywheels_k50_whole_teeth_that_meet).prog 41).name = ("law" : PySem.Str) := by kernel_rfl
      rw [← e]
      exact hmg0
    obtain ⟨fd, hb, hF⟩ := K50.facts (P := (PySem.Challenge.rw_drawnbywheels_k50_whole_teeth_that_meet).prog) (w := w) KX G hmg hx c
    exact ⟨K, fd, KX, hb, hF⟩

