import PyProof.Rows.All
import HandS.ForMost
import HandS.Wide
import HandS.SortRule
import HandS.TupSets
import HandS.Conv
import HandS.Zip
import Wide.All
import OpenK.AllK
import Wide.FinOn
import HandS.Deep
import HandS.Flow
import HandS.Style
import HandS.IsInst
import HandS.TupLe
import HandS.ExcIs
import HandS.ExcValue
import HandS.HeadHook2
import HandS.TupAny
import KE.GoesMore
import HandS.SetFor
import HandS.Strs
import HandS.SortInts
import HandS.Exc
import HandS.ExcOwn
import HandS.RaiseMore
import KE.KSuper
import KE.KExcSuper
import HandS.ExcInit
import HandS.ExcSuper
import HandS.ExcField
import KE.KExcIs
import PyProof.ReprNest
import PyProof.ExcRepr
import PyProof.InstEq
import PyProof.ReprRoads
import HandS.More
import HandS.Iter
import KE.KDictDisplayH
import KE.KDictPairs
import HandS.Text
import KE.KStateDown
import HandS.Words
import HandS.WordsExc
import HandS.Defaults
import HandS.Head0
import HandS.Head1
import HandS.Head2
import HandS.HeadEnd
import HandS.EndBits
import HandS.HeadHook1
import PyProof.P3Eq
import PySem.Challenge.RW_drawnbywheels_k00_error_classes
set_option Elab.async false
set_option linter.all false
set_option maxRecDepth 100000
set_option maxHeartbeats 1000000
/-! E00: the looks at the head, before all else (memory) -/
namespace K00E
open PySem PySem.Spec PyProof.Rows L2 PySem.W
def fileB (P : Program) (K : Frag) (cda : Addr) : Bool := match K.lookup cda with
  | some ⟨_, _, .fields vs, _⟩ => (match (vs[2]? : Option Value) with | some (.str file _) => ((P.main.file : Str) == file) | _ => false)
  | _ => false
def cellB (K : Frag) (cc C : Addr) : Bool := match K.lookup cc with
  | some ⟨_, _, .cell (some (.ref D)), _⟩ => decide (D = C)
  | _ => false
def fdB (P : Program) (K : Frag) (C : Addr) (f : Str) : FuncData → Bool
  | ⟨_, qual, ⟨[], [⟨a0, none, _⟩, ⟨a1, none, _⟩], none, [], [], none, []⟩, .stmts [.Expr (.Call (.Attribute (.Call (.Name n0 _) [] [] _) m0 p2) [.Name n1 _] [] p4) _, .Assign [.Attribute (.Name n2 _) m1 _] (.Name n3 _) _], scope, gl, [(cn, cc)], .none, .none, _, _, _, .ref cda, _, bl⟩ =>
    (decide (a0 = "self") && decide (a1 = f) && decide (n0 = "super") && decide (m0 = "__init__") && decide (n1 = f) && decide (n2 = "self") && decide (m1 = f) && decide (n3 = f) && decide (gl = mainGlobals) && decide (cn = "__class__") && decide (bl = builtinsNs)) &&
    ((p2.endLine == p4.line) && codeIn K (.ref cda) qual && fileB P K cda && cellB K cc C) &&
    (decide (scope.names.lookup ("self" : Str) = some .local) && decide (scope.names.lookup f = some .local) && decide (scope.names.lookup ("__class__" : Str) = some .free) && decide (scope.names.lookup ("super" : Str) = some .globalImplicit) &&
      (scope.names.all fun x => decide (x.2 ≠ .cell)) && decide (scope.kind = .function) && !scope.isGenerator && !scope.isCoroutine) && (decide (f ≠ "self") && !(f == ("__debug__" : Str)))
  | _ => false
def oexB (K : Frag) (C : Addr) : Bool := match K.lookup C with
  | some ⟨.type t, _, .cls cd, sl⟩ => (match cd.mro, sl.toList with
    | .ref C' :: bm, [_, _, _, _, some (.builtin n), _] => decide (t = "type") && decide (C' = C) && decide (n = "ValueError.__new__") && !cd.hasDel && cd.hasDict && PySem.HandSPX.refsVE bm
    | _, _ => false)
  | _ => false
abbrev exVE : List Value := [.type "ValueError", .type "Exception", .type "BaseException", .type "object"]
def exTail : List Value := [.type "ValueError", .type "Exception", .type "BaseException", .type "object"]
def namB (K : PySem.W.Frag) (c : Str) : Bool :=
  decide (PySem.W.findIn K (.ref (He.ga K c)) "__repr__" = some (some (.builtin "BaseException.__repr__"))) &&
  decide (PySem.W.subIn K (.ref (He.ga K c)) (.type "BaseException") = some true) &&
  (match PySem.W.clsIn K (He.ga K c) with | some cd => decide (excReprHead cd.name.toString = c) | none => false)
def objB (K : PySem.W.Frag) (c : Str) : Bool :=
  decide (PySem.W.findIn K (.ref (He.ga K c)) "__getattribute__" = some (some (.builtin "BaseException.__getattribute__"))) &&
  decide (PySem.W.findIn K (.ref (He.ga K c)) "__getattr__" = some none) &&
  decide (PySem.W.subIn K (.ref (He.ga K c)) (.type "BaseException") = some true) &&
  PySem.W.hasDictIn K (He.ga K c) &&
  decide (PySem.W.findIn K (.ref (He.ga K c)) "__class__" = some (some (.builtin "object.__class__"))) &&
  decide (PySem.W.specialIn K (.builtin "object.__class__") "__get__" = some (some (.builtin "getset_descriptor.__get__"))) &&
  decide (PySem.W.takesIn K (.builtin "object.__class__") = some true) &&
  decide (PySem.W.mroIn K (He.ga K c) (.type "object") = some true) &&
  (["int", "bool", "str", "list", "tuple"].all fun t => decide (PySem.W.kitOne K (.ref (He.ga K c)) (.type t) = some false)) &&
  decide (PySem.W.kitOne K (.ref (He.ga K c)) (.type "ValueError") = some true)
def clsB (K : PySem.W.Frag) (c : Str) : Bool := objB K c && PySem.W.excIn K (He.ga K c) exTail "ValueError.__new__" && PySem.W.keepIn K (.ref (He.ga K c)) && namB K c
def inB (P : Program) (K : Frag) (c f : Str) : Bool :=
  objB K c && (xfB K (He.ga K c) && decide (findIn K (.ref (He.ga K c)) f = some none)) && (oexB K (He.ga K c) && decide (findIn K (.ref (He.ga K c)) "__setattr__" = some (some (.builtin "object.__setattr__"))) && decide (typeIn K (.ref (He.ga K c)) = some (.type "type")) && keepIn K (.ref (He.ga K c))) &&
  (match findIn K (.ref (He.ga K c)) "__init__" with
    | some (some (.ref fI)) => decide (typeIn K (.ref fI) = some (.type "function")) && (match K.lookup fI with | some ⟨_, _, .func fd, _⟩ => fdB P K (He.ga K c) f fd | _ => false)
    | _ => false) &&
  (decide (ks_superIn K (He.ga K c) (He.ga K c) "__init__" = some (some (.builtin "ValueError.__init__"))) && decide (mroIn K (He.ga K c) (.ref (He.ga K c)) = some true) && decide (subIn K (.ref (He.ga K c)) (.type "ValueError") = some true) &&
    excInitIn K (He.ga K c) exVE "ValueError.__new__" && decide (nsIn K cStatics "thirdparty.any" = some none) && !(P.main.scope.names.lookup ("super" : Str)).isSome)
def catQ (K : PySem.W.Frag) (c : Str) (cs : List Str) : Bool := cs.all fun c' => objB K c' && decide (PySem.W.exmOne K (.ref (He.ga K c')) (.ref (He.ga K c)) = some true)
def incB : List Nat → Bool
  | a :: b :: r => decide (a < b) && incB (b :: r)
  | _ => true
def mroB (K : PySem.W.Frag) (c : Str) (l : List Value) : Bool := match PySem.W.clsIn K (He.ga K c) with
  | some cd => cd.mro == l
  | none => false
def famB (K : PySem.W.Frag) (W : Str) (CL : List Str) : Bool :=
  ((W :: CL).all fun c => decide (PySem.W.typeIn K (.ref (He.ga K c)) = some (.type "type"))) && (CL.all fun c => mroB K c (.ref (He.ga K c) :: .ref (He.ga K W) :: exTail)) && mroB K W (.ref (He.ga K W) :: exTail) && incB ((W :: CL).map (He.ga K))
def hookQ (n : Nat) (ex : Frag → Bool) (fa : List He.Fa) (fn : List He.DefD) : Hook where
  α := Bool × He.AlD
  obs := fun s => let K := He.frG s.heap.get? (cStatics :: He.asD s.heap.get? n); (ex K, He.obsD fa fn K)
  val := fun _ => (true, He.valD fn)
  says := fun _ h => ∃ K : Frag, K.In h ∧ ex K = true ∧ He.SaysD fa fn K
  of := fun _ _ e => ⟨_, He.frG_in, congrArg Prod.fst e, congrArg Prod.snd e⟩
  keeps := fun _ _ _ ⟨K, i, c⟩ k => ⟨K, Frag.In.keeps i k, c⟩
def obQ (n : Nat) (ex : Frag → Bool) (fa : List He.Fa) (fn : List He.DefD) (s : SharedT) : Bool × He.AlD := let K := He.frG (HandSHeadRun.getT s) (cStatics :: He.asD (HandSHeadRun.getT s) n); (ex K, He.obsD fa fn K)
theorem obQ_eq {n : Nat} {ex : Frag → Bool} {fa : List He.Fa} {fn : List He.DefD} (s : SharedT) : obQ n ex fa fn s = (hookQ n ex fa fn).obs s.abs := by
  have e : HandSHeadRun.getT s = s.abs.heap.get? := funext (HandSHeadRun.getT_eq s)
  show (let K := He.frG (HandSHeadRun.getT s) (cStatics :: He.asD (HandSHeadRun.getT s) n); (ex K, He.obsD fa fn K)) = _
  rw [e]
  rfl
end K00E

set_option Elab.async false
set_option linter.all false
set_option maxRecDepth 100000
set_option maxHeartbeats 1000000
namespace K00
open PySem PySem.Spec PyProof.Rows L2
def CLS : List Str := [("InvalidNumber" : Str), ("InvalidCount" : Str), ("InvalidIndex" : Str), ("InvalidTurn" : Str), ("InvalidProgression" : Str), ("InvalidProgressions" : Str), ("InvalidCongruence" : Str), ("InvalidGrain" : Str), ("InvalidSteps" : Str), ("InvalidSpot" : Str), ("InvalidMachine" : Str), ("InvalidFamily" : Str), ("InvalidGear" : Str), ("InvalidGears" : Str), ("InvalidShaft" : Str), ("InvalidWheel" : Str), ("InvalidState" : Str), ("InvalidTeeth" : Str), ("InvalidTooth" : Str), ("InvalidFraction" : Str), ("InvalidPlace" : Str), ("InvalidRoots" : Str), ("InvalidRows" : Str), ("InvalidPen" : Str), ("InvalidPens" : Str), ("InvalidSession" : Str), ("InvalidClaim" : Str), ("InvalidOffers" : Str), ("InvalidChoice" : Str), ("InvalidLooks" : Str), ("InvalidAsked" : Str), ("NoTime" : Str), ("NotTold" : Str), ("NotDriven" : Str), ("NotFitting" : Str), ("NotOpen" : Str), ("NotSure" : Str), ("NotPlain" : Str), ("TooMany" : Str), ("Refused" : Str), ("NothingToUndo" : Str), ("NoBlock" : Str), ("InvalidCommand" : Str), ("NotReady" : Str), ("Stopped" : Str), ("InvalidDeeds" : Str), ("InvalidWords" : Str)]
def top (i : Nat) : Stmt := PySem.Challenge.pw_drawnbywheels_k00_error_classes.main.body.getD i (.Pass ⟨0, 0, 0, 0⟩)
abbrev t__law_lot_of : Stmt := top 50
abbrev t__law_lift : Stmt := top 51
abbrev t__law_of : Stmt := top 52
abbrev t__law_great : Stmt := top 53
abbrev t__law_far : Stmt := top 54
abbrev t__law_signed : Stmt := top 55
abbrev t__law_texted : Stmt := top 56
abbrev t__law_valued : Stmt := top 57
abbrev t__law_named : Stmt := top 58
abbrev t__law_kept : Stmt := top 59
abbrev t__law_truths : Stmt := top 60
abbrev t__law_worth : Stmt := top 61
abbrev t__law_caught : Stmt := top 62
abbrev t__law_fields_right : Stmt := top 63
abbrev t_law : Stmt := top 64
def dd__law_lot_of : He.DefD := ⟨("_law_lot_of", none), "_law_lot_of", "_law_lot_of", defArgs t__law_lot_of, defBody t__law_lot_of, defScope t__law_lot_of, [], []⟩
def dd__law_lift : He.DefD := ⟨("_law_lift", none), "_law_lift", "_law_lift", defArgs t__law_lift, defBody t__law_lift, defScope t__law_lift, [], []⟩
def dd__law_of : He.DefD := ⟨("_law_of", none), "_law_of", "_law_of", defArgs t__law_of, defBody t__law_of, defScope t__law_of, [], []⟩
def dd__law_great : He.DefD := ⟨("_law_great", none), "_law_great", "_law_great", defArgs t__law_great, defBody t__law_great, defScope t__law_great, [], []⟩
def dd__law_far : He.DefD := ⟨("_law_far", none), "_law_far", "_law_far", defArgs t__law_far, defBody t__law_far, defScope t__law_far, [], []⟩
def dd__law_signed : He.DefD := ⟨("_law_signed", none), "_law_signed", "_law_signed", defArgs t__law_signed, defBody t__law_signed, defScope t__law_signed, [], []⟩
def dd__law_texted : He.DefD := ⟨("_law_texted", none), "_law_texted", "_law_texted", defArgs t__law_texted, defBody t__law_texted, defScope t__law_texted, [], []⟩
def dd__law_valued : He.DefD := ⟨("_law_valued", none), "_law_valued", "_law_valued", defArgs t__law_valued, defBody t__law_valued, defScope t__law_valued, [], []⟩
def dd__law_named : He.DefD := ⟨("_law_named", none), "_law_named", "_law_named", defArgs t__law_named, defBody t__law_named, defScope t__law_named, [], []⟩
def dd__law_kept : He.DefD := ⟨("_law_kept", none), "_law_kept", "_law_kept", defArgs t__law_kept, defBody t__law_kept, defScope t__law_kept, [], []⟩
def dd__law_truths : He.DefD := ⟨("_law_truths", none), "_law_truths", "_law_truths", defArgs t__law_truths, defBody t__law_truths, defScope t__law_truths, [], []⟩
def dd__law_worth : He.DefD := ⟨("_law_worth", none), "_law_worth", "_law_worth", defArgs t__law_worth, defBody t__law_worth, defScope t__law_worth, [], []⟩
def dd__law_caught : He.DefD := ⟨("_law_caught", none), "_law_caught", "_law_caught", defArgs t__law_caught, defBody t__law_caught, defScope t__law_caught, [], []⟩
def dd__law_fields_right : He.DefD := ⟨("_law_fields_right", none), "_law_fields_right", "_law_fields_right", defArgs t__law_fields_right, defBody t__law_fields_right, defScope t__law_fields_right, [], []⟩
def dd_law : He.DefD := ⟨("law", none), "law", "law", defArgs t_law, defBody t_law, defScope t_law, [], []⟩
def fn : List He.DefD := [dd__law_lot_of, dd__law_lift, dd__law_of, dd__law_great, dd__law_far, dd__law_signed, dd__law_texted, dd__law_valued, dd__law_named, dd__law_kept, dd__law_truths, dd__law_worth, dd__law_caught, dd__law_fields_right, dd_law]
def fa : List He.Fa := [.glo "_law_lot_of", .glo "_law_lift", .glo "_law_of", .glo "_law_great", .glo "_law_far", .glo "_law_signed", .glo "_law_texted", .glo "_law_valued", .glo "_law_named", .glo "_law_kept", .glo "_law_truths", .glo "_law_worth", .glo "_law_caught", .glo "_law_fields_right", .glo "law", .free "len", .free "abs", .free "max", .free "min", .free "int", .free "sum", .free "any", .free "all", .free "list", .free "tuple", .free "sorted", .free "repr", .free "bool", .free "isinstance", .free "range", .free "enumerate", .free "zip", .free "str", .free "dict", .free "set", .free "ValueError", .free "super", .glo "InvalidAsked", .glo "InvalidChoice", .glo "InvalidClaim", .glo "InvalidCommand", .glo "InvalidCongruence", .glo "InvalidCount", .glo "InvalidDeeds", .glo "InvalidFamily", .glo "InvalidFraction", .glo "InvalidGear", .glo "InvalidGears", .glo "InvalidGrain", .glo "InvalidIndex", .glo "InvalidLooks", .glo "InvalidMachine", .glo "InvalidNumber", .glo "InvalidOffers", .glo "InvalidPen", .glo "InvalidPens", .glo "InvalidPlace", .glo "InvalidProgression", .glo "InvalidProgressions", .glo "InvalidRoots", .glo "InvalidRows", .glo "InvalidSession", .glo "InvalidShaft", .glo "InvalidSpot", .glo "InvalidState", .glo "InvalidSteps", .glo "InvalidTeeth", .glo "InvalidTooth", .glo "InvalidTurn", .glo "InvalidWheel", .glo "InvalidWords", .glo "NoBlock", .glo "NoTime", .glo "NotDriven", .glo "NotFitting", .glo "NotOpen", .glo "NotPlain", .glo "NotReady", .glo "NotSure", .glo "NotTold", .glo "NothingToUndo", .glo "Refused", .glo "Stopped", .glo "TooMany", .glo "WheelError"]
abbrev PRG : Program := (PySem.Challenge.rw_drawnbywheels_k00_error_classes).prog
def ex (K : PySem.W.Frag) : Bool := K00E.clsB K "InvalidAsked" && K00E.clsB K "InvalidChoice" && K00E.clsB K "InvalidClaim" && K00E.clsB K "InvalidCommand" && K00E.clsB K "InvalidCongruence" && K00E.clsB K "InvalidCount" && K00E.clsB K "InvalidFamily" && K00E.clsB K "InvalidFraction" && K00E.clsB K "InvalidGear" && K00E.clsB K "InvalidGears" && K00E.clsB K "InvalidGrain" && K00E.clsB K "InvalidIndex" && K00E.clsB K "InvalidLooks" && K00E.clsB K "InvalidMachine" && K00E.clsB K "InvalidNumber" && K00E.clsB K "InvalidOffers" && K00E.clsB K "InvalidPen" && K00E.clsB K "InvalidPens" && K00E.clsB K "InvalidPlace" && K00E.clsB K "InvalidProgression" && K00E.clsB K "InvalidProgressions" && K00E.clsB K "InvalidRoots" && K00E.clsB K "InvalidRows" && K00E.clsB K "InvalidSession" && K00E.clsB K "InvalidShaft" && K00E.clsB K "InvalidSpot" && K00E.clsB K "InvalidState" && K00E.clsB K "InvalidSteps" && K00E.clsB K "InvalidTeeth" && K00E.clsB K "InvalidTooth" && K00E.clsB K "InvalidTurn" && K00E.clsB K "InvalidWheel" && K00E.clsB K "NoBlock" && K00E.clsB K "NoTime" && K00E.clsB K "NotDriven" && K00E.clsB K "NotFitting" && K00E.clsB K "NotOpen" && K00E.clsB K "NotPlain" && K00E.clsB K "NotReady" && K00E.clsB K "NotSure" && K00E.clsB K "NotTold" && K00E.clsB K "NothingToUndo" && K00E.clsB K "Refused" && K00E.clsB K "TooMany" && K00E.clsB K "WheelError" && K00E.catQ K "WheelError" ["InvalidDeeds", "InvalidWords", "Stopped"] && K00E.famB K "WheelError" CLS && K00E.inB PRG K "InvalidDeeds" "entry" && K00E.inB PRG K "InvalidWords" "spot" && K00E.inB PRG K "Stopped" "clicks"
abbrev R : PySem.W.OpenRow := PySem.W.OpenLaw.row PySem.Challenge.rw_drawnbywheels_k00_error_classes
abbrev hk : PySem.W.Hook := K00E.hookQ 4 ex fa fn
def ob (s : PySem.W.SharedT) : Bool × He.AlD := K00E.obQ 4 ex fa fn s
def loose : List Str := (["WheelError", "InvalidNumber", "InvalidCount", "InvalidIndex", "InvalidTurn", "InvalidProgression", "InvalidProgressions", "InvalidCongruence", "InvalidGrain", "InvalidSteps", "InvalidSpot", "InvalidMachine", "InvalidFamily", "InvalidGear", "InvalidGears", "InvalidShaft", "InvalidWheel", "InvalidState", "InvalidTeeth", "InvalidTooth", "InvalidFraction", "InvalidPlace", "InvalidRoots", "InvalidRows", "InvalidPen", "InvalidPens", "InvalidSession", "InvalidClaim", "InvalidOffers", "InvalidChoice"] : List Str) ++ (["InvalidLooks", "InvalidAsked", "NoTime", "NotTold", "NotDriven", "NotFitting", "NotOpen", "NotSure", "NotPlain", "TooMany", "Refused", "NothingToUndo", "NoBlock", "InvalidCommand", "NotReady", "Stopped", "InvalidDeeds", "InvalidWords", "_law_lot_of", "_law_lift", "_law_of", "_law_great", "_law_far", "_law_signed", "_law_texted", "_law_valued", "_law_named", "_law_kept", "_law_truths", "_law_worth"] : List Str) ++ (["_law_caught", "_law_fields_right"] : List Str)
set_option maxHeartbeats 0 in
theorem run (w : World) : HandSHeadRun.RunEq R (PySem.W.view R.prog [64]) hk ob 20000 loose w := by
  intro os
  kernel_rfl
end K00

set_option Elab.async false
set_option linter.all false
set_option maxRecDepth 100000
set_option maxHeartbeats 1000000
/-! sorted lists of tuples of whole numbers, of any length -/
namespace SG
open PySem PySem.Spec PyProof.Rows
/-- the order of tuples -/
def ltL : List Int → List Int → Bool
  | _, [] => false
  | [], _ :: _ => true
  | x :: xs, y :: ys => if x = y then ltL xs ys else decide (x < y)
theorem ltL_asym : ∀ xs ys : List Int, ltL xs ys = true → ltL ys xs = false
  | [], [], h => by cases h
  | [], _ :: _, _ => rfl
  | _ :: _, [], h => by cases h
  | x :: xs, y :: ys, h => by
    unfold ltL at h ⊢
    by_cases e : x = y
    · rw [if_pos e] at h
      rw [if_pos e.symm]
      exact ltL_asym xs ys h
    · rw [if_neg e, decide_eq_true_eq] at h
      rw [if_neg (Ne.symm e)]
      exact decide_eq_false (by omega)
theorem ltL_tr : ∀ xs ys zs : List Int, ltL ys xs = false → ltL zs ys = false → ltL zs xs = false
  | [], ys, zs, _, _ => by cases zs <;> rfl
  | x :: xs, [], zs, h, _ => by cases h
  | x :: xs, y :: ys, [], _, h => by cases h
  | x :: xs, y :: ys, z :: zs, h1, h2 => by
    unfold ltL at h1 h2 ⊢
    by_cases e1 : y = x <;> by_cases e2 : z = y
    · rw [if_pos e1] at h1
      rw [if_pos e2] at h2
      rw [if_pos (e2.trans e1)]
      exact ltL_tr xs ys zs h1 h2
    · rw [if_neg e2, decide_eq_false_iff_not] at h2
      rw [if_neg (by omega)]
      exact decide_eq_false (by omega)
    · rw [if_neg e1, decide_eq_false_iff_not] at h1
      rw [if_neg (by omega)]
      exact decide_eq_false (by omega)
    · rw [if_neg e1, decide_eq_false_iff_not] at h1
      rw [if_neg e2, decide_eq_false_iff_not] at h2
      rw [if_neg (by omega)]
      exact decide_eq_false (by omega)
theorem ltL_eq : ∀ xs ys : List Int, ltL xs ys = false → ltL ys xs = false → xs = ys
  | [], [], _, _ => rfl
  | [], _ :: _, h, _ => by cases h
  | _ :: _, [], _, h => by cases h
  | x :: xs, y :: ys, h1, h2 => by
    unfold ltL at h1 h2
    by_cases e : x = y
    · rw [if_pos e] at h1
      rw [if_pos e.symm] at h2
      rw [e, ltL_eq xs ys h1 h2]
    · rw [if_neg e, decide_eq_false_iff_not] at h1
      rw [if_neg (Ne.symm e), decide_eq_false_iff_not] at h2
      omega
theorem swoL {α : Type} (k : α → List Int) : SrtO.Swo fun v u => ltL (k v) (k u) := ⟨fun x y h => ltL_asym _ _ h, fun x y z h1 h2 => ltL_tr _ _ _ h1 h2⟩
section
variable {prog : Program} {w : World} {A : Around} {E : Value → Shared → Prop} {s : Shared}
theorem kat_ints {b fin : Bool} {Q : Bool → Shared → Prop} : ∀ {us vs : List Value} {ns ms : List Int} (i : Nat), IntsAre us ns → IntsAre vs ms → fin = decide (ns.length < ms.length) → Q (ltL ns ms) s → PySem.W.KatLex prog w A b fin Q (us.zip vs) i s
  | _, _, _, _, i, .nil, .nil, hf, q => by subst hf; exact q
  | _, _, _, _, i, .nil, .cons _ _ _, hf, q => by subst hf; exact q
  | _, _, _, _, i, .cons _ _ _, .nil, hf, q => by subst hf; exact q
  | _, _, _, _, i, .cons n t hu, .cons m t' hv, hf, q => by
    refine PySem.W.kat_cons (SeqAt.EqAt.int_int n t m t' prog w _ _ (PySem.W.kat_go (fun e => ?_) fun e => ?_))
    · have e : n = m := by simpa using e
      unfold ltL at q
      rw [if_pos e] at q
      exact PySem.W.kat_yes (kat_ints (i + 1) hu hv (by rw [hf]; simp) q)
    · have e : ¬ n = m := by simpa using e
      unfold ltL at q
      rw [if_neg e] at q
      refine PySem.W.kat_no ?_
      cases hb : (b && i == 0) with
      | true => exact oneLt_int q
      | false => exact PySem.W.kat_one _ _ (PyProof.Rows.lt_int q)
theorem len_ints : ∀ {us : List Value} {ns : List Int}, IntsAre us ns → us.length = ns.length
  | _, _, .nil => rfl
  | _, _, .cons _ _ h => by rw [List.length_cons, List.length_cons, len_ints h]
/-- tuples of whole numbers, none empty -/
def Tups (h : Heap) (k : Value → List Int) (vs : List Value) : Prop := ∀ v ∈ vs, k v ≠ [] ∧ TS.TupInts h v (k v)
theorem firsts {h : Heap} {k : Value → List Int} : ∀ {vs : List Value}, Tups h k vs → ∃ fs : List Value, PySem.W.KatTups h vs fs ∧ fs.length = vs.length ∧ ∀ f ∈ fs, ∃ x t, f = Value.int x t
  | [], _ => ⟨[], PySem.W.KatTups.nil, rfl, fun _ m => absurd m (by simp)⟩
  | v :: vs, hp => by
    obtain ⟨fs, a1, a2, a3⟩ := firsts (vs := vs) fun u m => hp u (List.mem_cons_of_mem _ m)
    obtain ⟨ne, a, xs, rfl, ⟨o, ho, hc, n, hd⟩, hi⟩ := hp v List.mem_cons_self
    obtain ⟨xl⟩ := xs
    revert hi ne
    generalize k (.ref a) = ks
    intro ne hi
    cases hi with
    | nil => exact absurd rfl ne
    | cons x t r =>
      refine ⟨.int x t :: fs, PySem.W.KatTups.cons ho hc hd rfl a1, by rw [List.length_cons, List.length_cons, a2], fun f m => ?_⟩
      rcases List.mem_cons.mp m with rfl | m
      · exact ⟨x, t, rfl⟩
      · exact a3 f m
theorem tup_cmp {vs : List Value} {k : Value → List Int} (hp : Tups s.heap k vs) : SrtO.Cmp prog w A s (tuples' true) (fun p => p.1 ∈ vs) (SrtO.lt2 fun v u => ltL (k v) (k u)) := by
  intro p q hm hm'
  obtain ⟨_, a, xs, ea, ⟨o, ho, hc, n, hd⟩, hi⟩ := hp _ hm
  obtain ⟨_, a2, xs2, ea2, ⟨o2, ho2, hc2, n2, hd2⟩, hi2⟩ := hp _ hm'
  show wpAny (model prog w) A (keyLt' (tuples' true) p.1 q.1) (fun r s' => s' = s ∧ r = ltL (k p.1) (k q.1)) _ s
  revert hi hi2
  generalize k p.1 = ks
  generalize k q.1 = ks2
  intro hi hi2
  rw [ea, ea2]
  refine PySem.W.kat_lt ho hd ho2 hd2 (kat_ints 0 hi hi2 ?_ ⟨rfl, rfl⟩)
  rw [← len_ints hi, ← len_ints hi2, Array.length_toList, Array.length_toList]
theorem tup_sortable {a : Addr} {vs : List Value} {k : Value → List Int} (h0 : 0 < vs.length) (hp : Tups s.heap k vs) (ha : ∀ o, s.heap.get? a = some o → o.cls ≠ .type "tuple") : SrtO.SortableO prog w A s a vs fun v u => ltL (k v) (k u) := by
  intro h' keep
  have hp' : Tups h' k vs := fun v hm => ⟨(hp v hm).1, (hp v hm).2.keeps fun b o e c => keep b o (fun z => ha o (z ▸ e) c) e⟩
  obtain ⟨fs, h1, h2, h3⟩ := firsts hp'
  refine ⟨tuples' true, fun Q E hq => PySem.W.kat_kind (T := .type "int") h1 (by omega) (fun f hm => ?_) (by rfl) ?_, tup_cmp hp'⟩
  · obtain ⟨x, t, rfl⟩ := h3 f hm
    exact PySem.W.Looks.now
  · rw [show (Value.type "int" != Value.type "tuple") = true by decide +kernel]
    exact hq
theorem list_no_tuple {h : Heap} {a : Addr} {vs : Array Value} {n : Nat} (e : h.get? a = some (seqObj "list" vs n)) : ∀ o, h.get? a = some o → o.cls ≠ .type "tuple" := fun o e2 => by
  rw [e] at e2
  cases e2
  intro c
  exact absurd (Value.type.inj c) (by decide)
abbrev Kept (h h' : Heap) : Prop := ∀ b o, h.get? b = some o → h'.get? b = some o
/-- sorted(l), l a list of such tuples -/
theorem sorted_list {l : Addr} {vs : List Value} {k : Value → List Int} {Q : Value → Shared → Prop} (hl : s.heap.IsList l vs.toArray) (hz : vs.length ≤ sizeLine) (hp : Tups s.heap k vs)
    (q : ∀ (h' : Heap) (d : Addr) (out : List Value), SrtO.Srtd (fun v u => ltL (k v) (k u)) out → SrtO.Stb (fun v u => ltL (k v) (k u)) out vs → Kept s.heap h' → s.heap.objs.size ≤ d → (∃ n, h'.get? d = some (seqObj "list" out.toArray n)) → Q (.ref d) { s with heap := h' }) :
    wpAny (model prog w) A (call (.builtin "sorted") [.ref l]) Q E s := by
  refine SrtO.sorted_ord (swoL k) hl hz (fun h2 h1 a ha kk => ?_) fun out hs hb => q _ _ out hs hb (fun b o e => sortedAll_old e) (Nat.le_succ _) (sortedAll_at s.heap vs out.toArray)
  exact tup_sortable (s := { s with heap := h1 }) (by omega) (fun v hm => ⟨(hp v hm).1, (hp v hm).2.keeps fun b o e _ => (kk b o e).2⟩) (list_no_tuple ha)
/-- sorted(d), d a dict with such keys -/
theorem sorted_dict {d : Addr} {od : Obj} {es : Array DictEntry} {ep : Nat} {vs : List Value} {k : Value → List Int} {Q : Value → Shared → Prop} (hh : A.handled = none) (lo : (d == sysModules) = false) (hx : od.ExactDict) (hd : od.data = .dict es ep) (ho : s.heap.get? d = some od) (hv : vs = es.toList.map DictEntry.key) (hz : vs.length ≤ sizeLine) (hp : Tups s.heap k vs)
    (q : ∀ (h1 h' : Heap) (tk : Nat) (d : Addr) (out : List Value), SrtO.Srtd (fun v u => ltL (k v) (k u)) out → SrtO.Stb (fun v u => ltL (k v) (k u)) out vs → Kept s.heap h1 → Kept h1 h' → h1.objs.size ≤ d → (∃ n, h'.get? d = some (seqObj "list" out.toArray n)) → Q (.ref d) { s with heap := h', toks := tk }) :
    wpAny (model prog w) A (call (.builtin "sorted") [.ref d]) Q E s := by
  have hl : es.size = vs.length := by rw [hv]; simp
  refine Calls.call_function_entry kind_sorted plain_sorted entry_sorted (args_sorted1 _) ?_
  unfold Builtin.«sorted»
  refine wpAny_bind (m := checkCount "sorted" 1 1 _) (wpAny_pure ?_)
  refine wpAny_bind (PySem.W.kdu_collect (A := A.in1) (L2.kdl_raw lo hx hd) hh ho (by omega) fun h' tk acc kp it => ?_)
  have ea : acc.toList = vs := by
    apply List.ext_getElem?
    intro j
    cases hj : acc.toList[j]? with
    | none =>
      have h1 := List.getElem?_eq_none_iff.mp hj
      rw [Array.length_toList, it.1] at h1
      rw [List.getElem?_eq_none (by omega)]
    | some v =>
      obtain ⟨en, hen, rfl⟩ := it.2 j v (by rw [← Array.getElem?_toList]; exact hj)
      rw [hv, List.getElem?_map, Array.getElem?_toList, hen]
      rfl
  rw [ea]
  refine wpAny_bind (wpAny_newList ?_ hz)
  have hoL : (h'.push (seqObj "list" vs.toArray 0)).get? h'.objs.size = some (seqObj "list" vs.toArray 0) := Heap.get?_push_size _ rfl
  have hk : Kept s.heap (h'.push (seqObj "list" vs.toArray 0)) := fun b o e => Heap.get?_push_of_some _ (kp b o e)
  refine wpAny_bind (wpAny_holding (wpAny_call_entry slot_list_sort ⟨_, hoL, rfl⟩ entry_list_sort
    (SrtO.list_sort_ord (s := { s with heap := h'.push (seqObj "list" vs.toArray 0), toks := tk }) (swoL k) hoL hz (fun h2 => tup_sortable (s := { s with heap := h'.push (seqObj "list" vs.toArray 0), toks := tk }) (by omega) (fun v hm => ⟨(hp v hm).1, (hp v hm).2.keeps fun b o e _ => hk b o e⟩) (list_no_tuple hoL)) fun out g1 g2 => ⟨_, rfl, ?_⟩) (args_list_sort _)))
  obtain ⟨e', he'⟩ := sortedHeap_at (vs := vs) (out := out.toArray) hoL
  refine wpAny_pure ⟨_, rfl, q h' _ tk _ out g1 g2 kp (fun b o e => ?_) (Nat.le_refl _) ⟨e', he'⟩⟩
  have hb : b < h'.objs.size := Heap.lt_size e
  rw [sortedHeap_old (Nat.ne_of_lt hb) (by rw [Heap.size_push]; exact Nat.lt_succ_of_lt hb)]
  exact Heap.get?_push_of_some _ e
end
/-! ### as rules of the layer -/
open L2
theorem bv_ref {u : Value} {t : Addr} (e : backV u = .ref t) : u = .ref t := by
  cases u with
  | ref a => have e : V.ref a = V.ref t := e; cases e; rfl
  | _ => exact nomatch e
/-- sorted(xs), xs a list of tuples of whole numbers (k says which) -/
def rSortTs (K : PySem.W.Frag) : List V → Hp → VK → Prop := fun vs H Q => ∃ (a : Addr) (xs : List V) (k : V → List Int), vs = [V.ref a] ∧ SqL K H a xs ∧ (∀ x ∈ xs, k x ≠ [] ∧ ∃ t, x = V.ref t ∧ H t = some (.tup ((k x).map V.int))) ∧
  ∀ ys p, SrtO.Srtd (fun x y => ltL (k x) (k y)) ys → ys.Perm xs → H p = none → Q (.ref p) (upd H p (.lst ys))
/-- sorted(d), d a dict with such keys -/
def rSortTd : List V → Hp → VK → Prop := fun vs H Q => ∃ (a : Addr) (kvs : List (List Key × V)) (nss : List (List Int)), vs = [V.ref a] ∧ H a = some (.dT kvs) ∧ kvs.map (·.1) = nss.map (List.map Sum.inl) ∧ (∀ ns ∈ nss, ns ≠ []) ∧
  ∀ (nss' : List (List Int)) (ys : List V) p, SrtO.Srtd ltL nss' → nss'.Perm nss → ys.length = nss'.length → (∀ (i : Nat) y ns, ys[i]? = some y → nss'[i]? = some ns → ∃ t, y = V.ref t ∧ H t = some (.tup (ns.map V.int))) → H p = none → Q (.ref p) (upd H p (.lst ys))
section
variable {X : Cx}
theorem tup_in {pins : List (Addr × Obj)} {s : Shared} {σ : L2.St} {H : Hp} (I : Inv X pins σ H s) {t : Addr} {ns : List Int} (h : H t = some (.tup (ns.map V.int))) : TS.TupInts s.heap (.ref t) ns := by
  obtain ⟨_, its, r, o, ho, hc, n, hd⟩ := I.hok t _ h
  exact ⟨t, its.toArray, rfl, ⟨o, ho, hc, n, hd⟩, by simpa using intsAre_of r⟩
theorem cr_sortTs : CallR X (.builtin "sorted") (rSortTs X.K) := by
  intro pins s σ H vs us Q I r h
  obtain ⟨a, xs, k, rfl, hs, hx, q⟩ := h
  obtain ⟨its, rv, hl, hz⟩ := I.list hs
  obtain ⟨u, rfl, ru⟩ := vals1 r
  obtain rfl : u = Value.ref a := ru
  obtain ⟨e1, e2⟩ := refs_back rv fun x m => by
    obtain ⟨_, t, e, _⟩ := hx x m
    exact ⟨t, e⟩
  refine sorted_list (k := fun u => k (backV u)) hl.isList (by rw [← rv.length]; exact hz) (fun v hv => ?_) fun h' d out g1 g2 kp hd hn => ?_
  · obtain ⟨t, rfl⟩ := e2 v hv
    have hm : V.ref t ∈ xs := by rw [e1]; exact List.mem_map.mpr ⟨_, hv, rfl⟩
    obtain ⟨ne, t', e, ht⟩ := hx _ hm
    cases e
    exact ⟨ne, tup_in I ht⟩
  · have h3 : ∀ u ∈ out, ∃ a, u = Value.ref a := fun u hu => e2 u (g2.perm.mem_iff.mp hu)
    obtain ⟨n, hn⟩ := hn
    have hb : (out.map backV).Perm xs := by rw [e1]; exact g2.perm.map _
    exact ⟨.ref d, upd H d (.lst (out.map backV)), I.laid (t' := s.toks) kp hd ⟨by rw [hb.length_eq]; exact hz, out, n, vals_back h3, hn⟩, rfl, q _ d (SrtO.srtd_map g1) hb (I.hok.fresh hd)⟩
theorem ent_keys {P : Program} {w : World} {ks : List (List Key × Addr × Value)} {es : Array DictEntry} (he : es.toList = ks.map (entryOfKey (tupleKind (mixKind P w)))) : ks.map (fun x => Value.ref x.2.1) = es.toList.map DictEntry.key := by
  rw [he, List.map_map]
  rfl
theorem kt_ints {H : Hp} {s : Shared} {pins : List (Addr × Obj)} {σ : L2.St} (I : Inv X pins σ H s) : ∀ {kvs : List (List Key × V)} {ks : List (List Key × Addr × Value)} {nss : List (List Int)}, KT H kvs ks → kvs.map (·.1) = nss.map (List.map Sum.inl) →
    (ks.map fun x => Value.ref x.2.1).map (TS.intsOf s.heap) = nss ∧ ∀ v ∈ ks.map (fun x => Value.ref x.2.1), ∃ t ns, v = Value.ref t ∧ ns ∈ nss ∧ TS.intsOf s.heap v = ns ∧ H t = some (.tup (ns.map V.int))
  | [], _, [], .nil, _ => ⟨rfl, fun v hv => by simp at hv⟩
  | _ :: _, _, [], _, e => by simp at e
  | [], _, _ :: _, _, e => by simp at e
  | kv :: kvs, q :: ks, ns :: nss, .cons h t, e => by
    simp only [List.map_cons, List.cons.injEq] at e
    obtain ⟨e1, e2⟩ := e
    obtain ⟨h1, h2, _⟩ := h
    obtain ⟨i1, i2⟩ := kt_ints I t e2
    have hq : H q.2.1 = some (.tup (ns.map V.int)) := by
      rw [h2, e1, List.map_map]
      rfl
    have hi : TS.intsOf s.heap (.ref q.2.1) = ns := (tup_in I hq).ints
    refine ⟨by simp only [List.map_cons]; rw [hi, i1], fun v hv => ?_⟩
    rcases List.mem_cons.mp hv with rfl | hv
    · exact ⟨_, ns, rfl, List.mem_cons_self, hi, hq⟩
    · obtain ⟨a, b, c1, c2, c3⟩ := i2 v hv
      exact ⟨a, b, c1, List.mem_cons_of_mem _ c2, c3⟩
theorem cr_sortTd (hc : X.calm = true) : CallR X (.builtin "sorted") rSortTd := by
  intro pins s σ H vs us Q I r h
  obtain ⟨a, kvs, nss, rfl, ha, hk, hne, q⟩ := h
  obtain ⟨u, rfl, ru⟩ := vals1 r
  obtain rfl : u = Value.ref a := ru
  obtain ⟨z, hs, ks, pr, o, es, ep, ho, hx, hdt, he, hn⟩ := (show ObjOk X.prog X.w H s.heap a (.dT kvs) from I.hok a _ ha)
  have l2 : kvs.length = ks.length := Paired.length pr
  obtain ⟨i1, i2⟩ := kt_ints I pr hk
  refine sorted_dict (k := TS.intsOf s.heap) (I.ok.hd hc) hs hx hdt ho (ent_keys he) (by rw [List.length_map]; omega) (fun v hv => ?_) fun h1 h' tk d out g1 g2 kp kp2 hd hnn => ?_
  · obtain ⟨t, ns, rfl, h1, h2, h3⟩ := i2 v hv
    rw [h2]
    exact ⟨hne ns h1, tup_in I h3⟩
  · have h3 : ∀ u ∈ out, ∃ a, u = Value.ref a := fun u hu => by
      obtain ⟨t, _, e, _⟩ := i2 u (g2.perm.mem_iff.mp hu)
      exact ⟨t, e⟩
    obtain ⟨n, hnn⟩ := hnn
    have hp : (out.map (TS.intsOf s.heap)).Perm nss := by rw [← i1]; exact g2.perm.map _
    have hlen : (out.map backV).length ≤ sizeLine := by
      rw [List.length_map, g2.perm.length_eq, List.length_map]
      omega
    have I1 : Inv X pins σ H { s with heap := h1, toks := tk } := I.kept kp
    refine ⟨.ref d, upd H d (.lst (out.map backV)), I1.laid (t' := tk) kp2 hd ⟨hlen, out, n, vals_back h3, hnn⟩, rfl, q _ _ d (SrtO.srtd_map g1) hp (by simp) (fun i y ns hy hns => ?_) (I1.hok.fresh hd)⟩
    rw [List.getElem?_map] at hy hns
    cases ho : out[i]? with
    | none => rw [ho] at hy; cases hy
    | some v =>
      rw [ho] at hy hns
      cases hy
      cases hns
      obtain ⟨t, ns, rfl, _, e2, e3⟩ := i2 v (g2.perm.mem_iff.mp (List.mem_of_getElem? ho))
      exact ⟨t, rfl, by rw [e2]; exact e3⟩
end
end SG

set_option maxRecDepth 100000
set_option maxHeartbeats 1000000
/-! zip of any sources, lists and tuples side by side -/
namespace ZG
open PySem PySem.Spec PyProof.Rows L2
/-- a source: a tuple or a list at l, walked by the iterator at i -/
structure Sr where
  t : Bool
  i : Addr
  l : Addr
def Sr.at (r : Sr) (h : Heap) (k : Nat) : Prop := match r.t with
  | true => h.IsTupleIter r.i r.l k
  | false => h.IsListIter r.i r.l k
def Sr.sq (r : Sr) (h : Heap) (xs : Array Value) : Prop := match r.t with
  | true => h.IsTuple r.l xs
  | false => h.IsList r.l xs
theorem Sr.at.go {r : Sr} {h h' : Heap} {k : Nat} (x : r.at h k) (e : ∀ o, h.get? r.i = some o → h'.get? r.i = some o) : r.at h' k := by
  obtain ⟨t, i, l⟩ := r
  cases t
  · exact Heap.IsListIter.at (show h.IsListIter i l k from x) e
  · exact Heap.IsTupleIter.at (show h.IsTupleIter i l k from x) e
theorem Sr.sq.go {r : Sr} {h h' : Heap} {xs : Array Value} (x : r.sq h xs) (e : ∀ o, h.get? r.l = some o → h'.get? r.l = some o) : r.sq h' xs := by
  obtain ⟨t, i, l⟩ := r
  cases t
  · exact Heap.IsList.at (show h.IsList l xs from x) e
  · obtain ⟨o, a, b⟩ := (show h.IsTuple l xs from x)
    exact (show h'.IsTuple l xs from ⟨o, e o a, b⟩)
theorem Sr.at.obj {r : Sr} {h : Heap} {k : Nat} (x : r.at h k) : ∃ o, h.get? r.i = some o ∧ ∀ v, o.data ≠ .cell v := by
  obtain ⟨t, i, l⟩ := r
  cases t
  · obtain ⟨o, a, _, d⟩ := (show h.IsListIter i l k from x)
    exact ⟨o, a, fun v z => by rw [d] at z; cases z⟩
  · obtain ⟨o, a, _, d⟩ := (show h.IsTupleIter i l k from x)
    exact ⟨o, a, fun v z => by rw [d] at z; cases z⟩
section
variable {prog : Program} {w : World} {A : Around} {E : Value → Shared → Prop} {s : Shared}
theorem next_has {r : Sr} {k : Nat} {xs : Array Value} {x : Value} {Q : Value → Shared → Prop} (hi : r.at s.heap k) (hl : r.sq s.heap xs) (hx : xs[k]? = some x)
    (q : ∀ h', r.at h' (k + 1) → Heap.SameBut r.i s.heap h' → Q x { s with heap := h' }) : wpAny (model prog w) A (Builtin.SmallTypes.nextOf (.ref r.i)) Q E s := by
  obtain ⟨t, i, l⟩ := r
  cases t
  · exact wpAny_nextOf_list_item hi hl hx q
  · exact RZ.nextOf_tuple_item hi hl hx q
theorem next_out {r : Sr} {k : Nat} {xs : Array Value} {Q : Value → Shared → Prop} (hh : A.handled = none) (hi : r.at s.heap k) (hl : r.sq s.heap xs) (hx : xs[k]? = none)
    (q : ∀ h' e, Heap.ExtBut r.i s.heap h' → (∃ o, h'.get? e = some o ∧ o.cls = .type "StopIteration") → E (.ref e) { s with heap := h' }) : wpAny (model prog w) A (Builtin.SmallTypes.nextOf (.ref r.i)) Q E s := by
  obtain ⟨t, i, l⟩ := r
  cases t
  · exact wpAny_nextOf_list_end hh hi hl hx q
  · exact RZ.nextOf_tuple_end hh hi hl hx q
/-- a loop whose turns all go on with what they got -/
theorem loop_wp {M : Model} {α σ : Type} {b : σ} {f : α → σ → Sem (ForInStep σ)} {Q : σ → Shared → Prop} : ∀ (l : List α) (Iv : Nat → Shared → Prop) (s : Shared), Iv 0 s →
    (∀ (j : Nat) (x : α) (s : Shared), l[j]? = some x → Iv j s → wpAny M A (f x b) (fun r s' => r = .yield b ∧ Iv (j + 1) s') E s) → (∀ s, Iv l.length s → Q b s) → wpAny M A (forIn l b f) Q E s
  | [], Iv, s, h0, _, hq => by
    rw [List.forIn_nil]
    exact wpAny_pure (hq s h0)
  | x :: l, Iv, s, h0, hs, hq => by
    rw [List.forIn_cons]
    refine wpAny_bind (wpAny_mono (hs 0 x s rfl h0) ?_ fun _ _ z => z)
    rintro r s' ⟨rfl, h1⟩
    exact loop_wp l (fun j => Iv (j + 1)) s' h1 (fun j y s2 e => hs (j + 1) y s2 (by simpa using e)) fun s2 => hq s2
abbrev Zp (h : Heap) (z TI TO : Addr) (f0 : Value) : Prop := h.get? z = some { cls := .type "zip", dict := none, data := .fields #[f0, .bool false, .bool false, .ref TI, .ref TO], slots := #[] }
abbrev Tp (h : Heap) (T : Addr) (vs : Array Value) : Prop := h.get? T = some { cls := .type "tuple", data := .seq vs }
/-- all apart -/
structure Apart (z TI TO : Addr) (rs : List Sr) : Prop where
  nd : (z :: TI :: TO :: rs.map Sr.i).Nodup
  out : ∀ r ∈ rs, r.l ∉ z :: TI :: TO :: rs.map Sr.i
theorem Apart.zTO {z TI TO : Addr} {rs : List Sr} (D : Apart z TI TO rs) : z ≠ TO := fun e => by
  have := D.nd
  simp only [List.nodup_cons, List.mem_cons, not_or] at this
  exact this.1.2.1 e
theorem Apart.TIo {z TI TO : Addr} {rs : List Sr} (D : Apart z TI TO rs) : TI ∉ z :: TO :: rs.map Sr.i := fun e => by
  have := D.nd
  simp only [List.nodup_cons, List.mem_cons, not_or] at this e
  rcases e with e | e | e
  · exact this.1.1 e.symm
  · exact this.2.1.1 e
  · exact this.2.1.2 e
theorem Apart.iz {z TI TO : Addr} {rs : List Sr} (D : Apart z TI TO rs) {r : Sr} (hr : r ∈ rs) : r.i ≠ z ∧ r.i ≠ TO := by
  have := D.nd
  simp only [List.nodup_cons, List.mem_cons, not_or] at this
  have hm : r.i ∈ rs.map Sr.i := List.mem_map.mpr ⟨r, hr, rfl⟩
  exact ⟨fun e => this.1.2.2 (e ▸ hm), fun e => this.2.2.1 (e ▸ hm)⟩
theorem Apart.ij {z TI TO : Addr} {rs : List Sr} (D : Apart z TI TO rs) {i j : Nat} {r r' : Sr} (hi : rs[i]? = some r) (hj : rs[j]? = some r') (e : r.i = r'.i) : i = j := by
  have h := D.nd
  simp only [List.nodup_cons] at h
  have h := h.2.2.2
  have hil : i < (rs.map Sr.i).length := by rw [List.length_map]; exact (List.getElem?_eq_some_iff.mp hi).1
  refine (List.getElem?_inj hil h).mp ?_
  rw [List.getElem?_map, List.getElem?_map, hi, hj]
  exact congrArg some e
theorem Apart.lo {z TI TO : Addr} {rs : List Sr} (D : Apart z TI TO rs) {r : Sr} (hr : r ∈ rs) : r.l ∉ z :: TO :: rs.map Sr.i := fun hc => D.out r hr (by
  simp only [List.mem_cons] at hc ⊢
  rcases hc with h | h | h
  · exact .inl h
  · exact .inr (.inr (.inl h))
  · exact .inr (.inr (.inr h)))
/-- the heap once the first j sources are drawn -/
structure Mid (z TI TO : Addr) (rs : List Sr) (k : Nat) (vs : Array Value) (h0 : Heap) (j : Nat) (h : Heap) : Prop where
  zp : Zp h z TI TO .ellipsis
  old : ∃ us, Tp h TO us ∧ us.size = rs.length ∧ ∀ i, i < j → us[i]? = vs[i]?
  fst : ∀ i r, i < j → rs[i]? = some r → r.at h (k + 1)
  lst : ∀ i r, j ≤ i → rs[i]? = some r → r.at h k
  kp : ∀ c o, c ∉ z :: TO :: rs.map Sr.i → h0.get? c = some o → h.get? c = some o
  sz : h.objs.size = h0.objs.size
theorem Mid.fixed {z TI TO : Addr} {rs : List Sr} {k : Nat} {vs : Array Value} {h0 h : Heap} {j : Nat} (m : Mid z TI TO rs k vs h0 j h) (D : Apart z TI TO rs) {r : Sr} {xs : Array Value} (hr : r ∈ rs) (q : r.sq h0 xs) : r.sq h xs :=
  q.go fun o e => m.kp _ o (D.lo hr) e
/-- one source drawn, its item put in -/
theorem Mid.step {z TI TO : Addr} {rs : List Sr} {k : Nat} {vs : Array Value} {h0 h h2 h3 : Heap} {j : Nat} {r : Sr} {x : Value} {us : Array Value} (m : Mid z TI TO rs k vs h0 j h) (D : Apart z TI TO rs) (hr : rs[j]? = some r) (a : r.at h2 (k + 1)) (sb : Heap.SameBut r.i h h2)
    (hu : Tp h2 TO us) (hs : us.size = rs.length) (hp : ∀ i, i < j → us[i]? = vs[i]?) (hx : vs[j]? = some x) (hT : Tp h3 TO (us.setIfInBounds j x)) (sb3 : Heap.SameBut TO h2 h3) : Mid z TI TO rs k vs h0 (j + 1) h3 := by
  have hm : r ∈ rs := List.mem_of_getElem? hr
  have hjl : j < rs.length := (List.getElem?_eq_some_iff.mp hr).1
  have two : ∀ c o, c ≠ r.i → c ≠ TO → h.get? c = some o → h3.get? c = some o := fun c o c1 c2 e => by rw [sb3.2 c c2, sb.2 c c1]; exact e
  refine ⟨two z _ (Ne.symm (D.iz hm).1) D.zTO m.zp, ⟨_, hT, by simpa using hs, fun i hi => ?_⟩, fun i r' hi hr' => ?_, fun i r' hi hr' => ?_, fun c o hc e => ?_, ?_⟩
  · by_cases e : i = j
    · subst e
      rw [Array.getElem?_setIfInBounds_self, if_pos (by omega), hx]
    · rw [Array.getElem?_setIfInBounds_ne (Ne.symm e)]
      exact hp i (by omega)
  · by_cases e : i = j
    · subst e
      rw [hr] at hr'; cases hr'
      exact a.go fun o q => by rw [sb3.2 _ (D.iz hm).2]; exact q
    · exact (m.fst i r' (by omega) hr').go fun o q => two _ o (fun z => e (D.ij hr' hr z)) (D.iz (List.mem_of_getElem? hr')).2 q
  · exact (m.lst i r' (by omega) hr').go fun o q => two _ o (fun z => by have := D.ij hr' hr z; omega) (D.iz (List.mem_of_getElem? hr')).2 q
  · have h1 := m.kp c o hc e
    simp only [List.mem_cons, not_or] at hc
    exact two c o (fun z => hc.2.2 (z ▸ List.mem_map.mpr ⟨r, hm, rfl⟩)) hc.2.1 h1
  · rw [sb3.1, sb.1]; exact m.sz

theorem Mid.raised {z TI TO : Addr} {rs : List Sr} {k : Nat} {vs : Array Value} {h0 h h2 h3 : Heap} {j : Nat} {r : Sr} (m : Mid z TI TO rs k vs h0 j h) (hr : r ∈ rs) (x : Heap.ExtBut r.i h h2) (sb : Heap.SameBut z h2 h3) : ∀ c o, c ∉ z :: TO :: rs.map Sr.i → h0.get? c = some o → h3.get? c = some o := fun c o hc e => by
  have h1 := m.kp c o hc e
  simp only [List.mem_cons, not_or] at hc
  rw [sb.2 c hc.1]
  exact x c o (fun y => hc.2.2 (y ▸ List.mem_map.mpr ⟨r, hr, rfl⟩)) h1
theorem mid0 {z TI TO : Addr} {rs : List Sr} {k : Nat} {vs us : Array Value} {h0 h : Heap} (D : Apart z TI TO rs) (zp : Zp h z TI TO .ellipsis) (sb : Heap.SameBut z h0 h) (hu : Tp h0 TO us) (hs : us.size = rs.length) (ha : ∀ (j : Nat) r, rs[j]? = some r → r.at h0 k) : Mid z TI TO rs k vs h0 0 h :=
  ⟨zp, ⟨us, by show h.get? TO = _; rw [sb.2 _ (Ne.symm D.zTO)]; exact hu, hs, fun i hi => absurd hi (Nat.not_lt_zero _)⟩, fun i r hi _ => absurd hi (Nat.not_lt_zero _),
    fun i r _ hr => (ha i r hr).go fun o q => by rw [sb.2 _ (D.iz (List.mem_of_getElem? hr)).1]; exact q, fun c o hc e => by rw [sb.2 c (fun y => hc (y ▸ List.mem_cons_self))]; exact e, sb.1⟩
/-- zip's next: all sources give an item, or one of them is at its end -/
theorem zip_turn {z TI TO : Addr} {rs : List Sr} {k : Nat} {us : Array Value} {items : Nat → Array Value} {Q : Fin → Shared → Prop} (hh : A.handled = none) (D : Apart z TI TO rs) (hz : Zp s.heap z TI TO .none) (hTI : Tp s.heap TI (rs.map fun r => Value.ref r.i).toArray) (hTO : Tp s.heap TO us) (hus : us.size = rs.length)
    (h0 : 0 < rs.length) (hn : rs.length ≤ 8) (ha : ∀ (j : Nat) r, rs[j]? = some r → r.at s.heap k) (hs : ∀ (j : Nat) r, rs[j]? = some r → r.sq s.heap (items j))
    (hQ : ∀ h' (vs : Array Value), vs.size = rs.length → (∀ j : Nat, j < rs.length → (items j)[k]? = vs[j]?) → Zp h' z TI TO (rawInt s.heap.objs.size) → Tp h' TO vs → (∀ (j : Nat) r, rs[j]? = some r → r.at h' (k + 1)) → Tp h' s.heap.objs.size vs → h'.objs.size = s.heap.objs.size + 1 →
      (∀ c o, c ∉ z :: TO :: rs.map Sr.i → s.heap.get? c = some o → h'.get? c = some o) → Q (.done (.ret (.ref s.heap.objs.size))) { s with heap := h' })
    (hE : ∀ h' e, (∃ j : Nat, j < rs.length ∧ (items j)[k]? = none) → (∀ c o, c ∉ z :: TO :: rs.map Sr.i → s.heap.get? c = some o → h'.get? c = some o) → (∃ o, h'.get? e = some o ∧ o.cls = .type "StopIteration") → E (.ref e) { s with heap := h' }) :
    wpAny (model prog w) A (Builtin.«zip.__next__» ⟨[.ref z], []⟩) Q E s := by
  have vsd : ∃ vs : Array Value, vs.size = rs.length ∧ ∀ j : Nat, j < rs.length → vs[j]? = some (((items j)[k]?).getD .none) :=
    ⟨((List.range rs.length).map fun j => ((items j)[k]?).getD .none).toArray, by simp, fun j hj => by simp [hj]⟩
  obtain ⟨vs, hvs, hv⟩ := vsd
  unfold Builtin.«zip.__next__»
  refine wpAny_bind (m := slotArgs "__next__" 0 _) (wpAny_pure ?_)
  refine wpAny_bind (wpAny_field hz rfl (x := .bool false) rfl ?_)
  refine wpAny_bind (wpAny_field hz rfl (x := .ref TI) rfl (wpAny_bind (wpAny_seqItems hTI rfl ?_)))
  dsimp only
  have hne : (rs.map fun r => Value.ref r.i).toArray.isEmpty = false := by
    cases rs with
    | nil => simp at h0
    | cons r rs => rfl
  rw [hne]
  simp only [Bool.false_eq_true, if_false]
  refine wpAny_bind ?_
  unfold Builtin.SmallTypes.ownedTupleIsFree
  refine wpAny_bind (wpAny_field hz rfl (x := .none) rfl (wpAny_pure ?_))
  rw [if_pos rfl]
  refine wpAny_bind (wpAny_rule (wpAny_bind (wpAny_field hz rfl (x := .ref TO) rfl ?_)))
  dsimp only
  refine wpAny_bind (wpAny_setField_rec hz (by simp) fun ha1 hz1 sb1 => wpAny_bind ?_)
  have m0 := mid0 (vs := vs) D hz1 sb1 hTO hus ha
  refine loop_wp _ (fun j s' => (∃ h, s' = { s with heap := h } ∧ Mid z TI TO rs k vs s.heap j h) ∧ ∀ i : Nat, i < j → i < rs.length → ∃ x, (items i)[k]? = some x) _ ⟨⟨_, rfl, m0⟩, fun i hi => absurd hi (Nat.not_lt_zero _)⟩ ?_ ?_
  · rintro j ⟨it, kk⟩ s' hj ⟨⟨h, rfl, m⟩, hall⟩
    rw [List.getElem?_zipIdx] at hj
    simp only [List.getElem?_map, Nat.zero_add] at hj
    cases hr : rs[j]? with
    | none => rw [hr] at hj; cases hj
    | some r =>
      rw [hr] at hj
      simp only [Option.map_some, Option.some.injEq, Prod.mk.injEq] at hj
      obtain ⟨rfl, rfl⟩ := hj
      have hm := List.mem_of_getElem? hr
      have hjl : j < rs.length := (List.getElem?_eq_some_iff.mp hr).1
      refine wpAny_bind (wpAny_onRaise ?_)
      show wpAny _ _ (Builtin.SmallTypes.nextOf (.ref r.i) >>= fun y => pure (some y)) _ _ _
      have hat := m.lst j r (Nat.le_refl _) hr
      have hsq := m.fixed D hm (hs j r hr)
      cases hx : (items j)[k]? with
      | none =>
        refine wpAny_bind (next_out hh hat hsq hx fun h2 e xb he => ?_)
        obtain ⟨oe, hoe, hce⟩ := he
        have hz2 : Zp h2 z TI TO .ellipsis := xb _ _ (Ne.symm (D.iz hm).1) m.zp
        have hez : e ≠ z := fun y => by
          rw [y] at hoe
          rw [hz2] at hoe
          cases hoe
          simp at hce
        refine wpAny_setField_rec hz2 (by simp) fun h3 _ sb3 => hE h3 e ⟨j, hjl, hx⟩ (m.raised hm xb sb3) ⟨oe, by rw [sb3.2 e hez]; exact hoe, hce⟩
      | some x =>
        refine wpAny_bind (next_has hat hsq hx fun h2 a2 sb2 => wpAny_pure ?_)
        obtain ⟨us2, hu2, hs2, hp2⟩ := m.old
        have hu3 : Tp h2 TO us2 := by
          show h2.get? TO = _
          rw [sb2.2 _ (Ne.symm (D.iz hm).2)]
          exact hu2
        have hz8 : us2.size ≤ sizeLine := by rw [hs2, sizeLine_eq]; omega
        dsimp only
        refine wpAny_bind (wpAny_seqItems hu3 rfl ?_)
        refine wpAny_bind (wpAny_updateSeq (f := fun y => y.setIfInBounds j x) hu3 rfl ?_ hz8 (by simp; omega))
        refine wpAny_bind (wpAny_letGo (wpAny_pure ⟨rfl, ⟨_, rfl, ?_⟩, fun i hi hl => ?_⟩))
        · refine m.step (x := x) D hr a2 sb2 hu3 hs2 hp2 (by rw [hv j hjl, hx, Option.getD_some]) ?_ (Heap.SameBut.update ..)
          show Heap.get? _ TO = _
          rw [Heap.get?_update_self _ hu3 rfl]
          simp [Obj.mapSeq]
        · by_cases e : i = j
          · rw [e]; exact ⟨x, hx⟩
          · exact hall i (by omega) hl
  · rintro s' ⟨⟨h5, rfl, m⟩, hall⟩
    simp only [List.length_zipIdx, List.length_map] at m hall
    obtain ⟨us5, hu5, hs5, hp5⟩ := m.old
    have hes : us5 = vs := by
      apply Array.ext_getElem?
      intro i
      by_cases hi : i < rs.length
      · exact hp5 i hi
      · rw [Array.getElem?_eq_none (by omega), Array.getElem?_eq_none (by omega)]
    subst hes
    have hsz := m.sz
    dsimp only
    refine wpAny_bind (wpAny_seqItems hu5 rfl ?_)
    dsimp only
    refine wpAny_bind (wpAny_newTuple ?_ (by rw [Array.length_toList, sizeLine_eq]; omega))
    refine wpAny_bind ?_
    unfold Builtin.SmallTypes.ownedTupleHandOut
    dsimp only
    have hzlt : z < h5.objs.size := Heap.lt_size m.zp
    refine wpAny_bind (wpAny_setField_rec (Heap.get?_push_of_some _ m.zp) (by simp) fun h7 hz7 sb7 => ?_)
    refine wpAny_setField_rec hz7 (by simp) fun h8 hz9 sb8 => wpAny_pure ?_
    have up : ∀ c o, c ≠ z → (h5.push { cls := .type "tuple", data := .seq us5.toList.toArray }).get? c = some o → h8.get? c = some o := fun c o hc e => by rw [sb8.2 c hc, sb7.2 c hc]; exact e
    have up2 : ∀ c o, c ≠ z → h5.get? c = some o → h8.get? c = some o := fun c o hc e => up c o hc (Heap.get?_push_of_some _ e)
    rw [hsz]
    refine hQ h8 us5 hs5 (fun j hj => ?_) (by rw [← hsz]; exact hz9) (up2 _ _ (Ne.symm D.zTO) hu5) (fun j r hr => (m.fst j r (List.getElem?_eq_some_iff.mp hr).1 hr).go fun o e => up2 _ o (D.iz (List.mem_of_getElem? hr)).1 e) ?_ ?_ fun c o hc e => up2 c o (fun y => hc (y ▸ List.mem_cons_self)) (m.kp c o hc e)
    · obtain ⟨x, hx⟩ := hall j hj hj
      rw [hv j hj, hx]
      rfl
    · rw [← hsz]
      refine up _ _ (Nat.ne_of_gt hzlt) ?_
      rw [Heap.get?_push_size _ rfl, Array.toArray_toList]
    · rw [sb8.1, sb7.1, Heap.size_push, hsz]

def kindS (t : Bool) : String := match t with
  | true => "tuple_iterator"
  | false => "list_iterator"
def itObj (t : Bool) (l : Addr) : Obj := { cls := .type (kindS t), data := .fields #[.ref l, .int 0 0] }
theorem iter_src {t : Bool} {l : Addr} {xs : Array Value} {Q : Value → Shared → Prop} (i : Addr) (h : Sr.sq ⟨t, i, l⟩ s.heap xs) (q : Q (.ref s.heap.objs.size) { s with heap := s.heap.push (itObj t l) }) : wpAny (model prog w) A (pyIter (.ref l)) Q E s := by
  cases t
  · exact wpAny_pyIter_list (show s.heap.IsList l xs from h) q
  · exact wpAny_pyIter_tuple (show s.heap.IsTuple l xs from h) q
theorem pyNext_zip {z TI TO : Addr} {rs : List Sr} {k : Nat} {us : Array Value} {items : Nat → Array Value} {Q : Option Value → Shared → Prop} (hh : A.handled = none) (D : Apart z TI TO rs) (hz : Zp s.heap z TI TO .none) (hTI : Tp s.heap TI (rs.map fun r => Value.ref r.i).toArray) (hTO : Tp s.heap TO us) (hus : us.size = rs.length)
    (h0 : 0 < rs.length) (hn : rs.length ≤ 8) (ha : ∀ (j : Nat) r, rs[j]? = some r → r.at s.heap k) (hs : ∀ (j : Nat) r, rs[j]? = some r → r.sq s.heap (items j))
    (hQ : ∀ h' (vs : Array Value), vs.size = rs.length → (∀ j : Nat, j < rs.length → (items j)[k]? = vs[j]?) → Zp h' z TI TO (rawInt s.heap.objs.size) → Tp h' TO vs → (∀ (j : Nat) r, rs[j]? = some r → r.at h' (k + 1)) → Tp h' s.heap.objs.size vs → h'.objs.size = s.heap.objs.size + 1 →
      (∀ c o, c ∉ z :: TO :: rs.map Sr.i → s.heap.get? c = some o → h'.get? c = some o) → Q (some (.ref s.heap.objs.size)) { s with heap := h' })
    (hE : ∀ h', (∃ j : Nat, j < rs.length ∧ (items j)[k]? = none) → (∀ c o, c ∉ z :: TO :: rs.map Sr.i → s.heap.get? c = some o → h'.get? c = some o) → Q none { s with heap := h' }) :
    wpAny (model prog w) A (pyNext (.ref z)) Q E s := by
  have ty : s.TypeIs (.ref z) "zip" := ⟨_, hz, rfl⟩
  unfold pyNext
  refine wpAny_bind (wpAny_attempt (wpAny_callSpecial?_slot (name := Str.ofString "__next__") ty PySem.F.slot_zip_next (wpAny_call_entry PySem.F.slot_zip_next ty PySem.F.entry_zip_next ?_ (PySem.F.args_zip_next_1 _))))
  refine zip_turn hh D hz hTI hTO hus h0 hn ha hs (fun h' vs a1 a2 a3 a4 a5 a6 a7 a8 => ⟨_, rfl, wpAny_pure (hQ h' vs a1 a2 a3 a4 a5 a6 a7 a8)⟩) fun h' e j kp he => ?_
  obtain ⟨o, ho, hc⟩ := he
  exact wpAny_bind (wpAny_isInstance (T := "StopIteration") (b := true) ⟨o, ho, hc⟩ isSubtype_stop (wpAny_pure (hE h' j kp)))
abbrev zn2 (h : Heap) (t1 t2 : Bool) (l1 l2 : Addr) : Heap := ((((h.push (itObj t1 l1)).push (itObj t2 l2)).push { cls := .type "tuple", data := .seq #[.ref h.objs.size, .ref (h.objs.size + 1)] }).push { cls := .type "tuple", data := .seq #[.none, .none] }).push
  { cls := .type "zip", data := .fields #[.none, .bool false, .bool false, .ref (h.objs.size + 2), .ref (h.objs.size + 3)] }
theorem new2 (t1 t2 : Bool) (l1 l2 : Addr) (xs ys : Array Value) : Meets (Builtin.«zip.__new__» ⟨[.type "zip", .ref l1, .ref l2], []⟩) (fun _ R s => Sr.sq ⟨t1, 0, l1⟩ s.heap xs ∧ Sr.sq ⟨t2, 0, l2⟩ s.heap ys ∧ R (.ok (.ret (.ref (s.heap.objs.size + 4)))) { s with heap := zn2 s.heap t1 t2 l1 l2 }) :=
  .of_wp fun prog w A R s h => by
    obtain ⟨hp, g, d, tk, os⟩ := s
    obtain ⟨a1, a2, q⟩ := h
    have sub := sub_zip
    have b1 : Sr.sq ⟨t1, 0, l1⟩ (Shared.heap ⟨hp, g, d, tk, os⟩) xs := a1
    have b2 : Sr.sq ⟨t2, 0, l2⟩ (Shared.heap ⟨hp.push (itObj t1 l1), g, d, tk, os⟩) ys := a2.go fun o e => Heap.get?_push_of_some _ e
    wp_walk using iter_src 0 b1, iter_src 0 b2
    refine ⟨_, rfl, ?_⟩
    simp only [Heap.size_push]
    exact q
theorem new_at {t : Bool} {l : Addr} {h : Heap} {i : Addr} (e : h.get? i = some (itObj t l)) : Sr.at ⟨t, i, l⟩ h 0 := by
  cases t
  · exact (show h.IsListIter i l 0 from ⟨_, e, rfl, rfl⟩)
  · exact (show h.IsTupleIter i l 0 from ⟨_, e, rfl, rfl⟩)
theorem sq_lt {t : Bool} {i l : Addr} {h : Heap} {xs : Array Value} (e : Sr.sq ⟨t, i, l⟩ h xs) : l < h.objs.size := by
  cases t
  · obtain ⟨o, a, _⟩ := (show h.IsList l xs from e); exact Heap.lt_size a
  · obtain ⟨o, a, _⟩ := (show h.IsTuple l xs from e); exact Heap.lt_size a
theorem apart2 {n l1 l2 : Nat} {t1 t2 : Bool} (k1 : l1 < n) (k2 : l2 < n) : Apart (n + 4) (n + 2) (n + 3) [⟨t1, n, l1⟩, ⟨t2, n + 1, l2⟩] := by
  have no : ∀ l : Nat, l < n → l ∉ ([n + 4, n + 2, n + 3, n, n + 1] : List Nat) := fun l h => by
    simp only [List.mem_cons, List.not_mem_nil, or_false, not_or]
    omega
  refine ⟨(show ([n + 4, n + 2, n + 3, n, n + 1] : List Nat).Nodup from ?_), fun r hr => ?_⟩
  · simp only [List.nodup_cons, List.mem_cons, List.not_mem_nil, or_false, not_or, List.nodup_nil, and_true, not_false_eq_true]
    omega
  · simp only [List.mem_cons, List.not_mem_nil, or_false] at hr
    rcases hr with h | h
    · rw [h]; exact no l1 k1
    · rw [h]; exact no l2 k2
/-- zip(a, b) -/
theorem call_zip2 {t1 t2 : Bool} {l1 l2 : Addr} {xs ys : Array Value} {Q : Value → Shared → Prop} (h1 : Sr.sq ⟨t1, 0, l1⟩ s.heap xs) (h2 : Sr.sq ⟨t2, 0, l2⟩ s.heap ys)
    (q : ∀ h' rs, rs = [⟨t1, s.heap.objs.size, l1⟩, ⟨t2, s.heap.objs.size + 1, l2⟩] → Apart (s.heap.objs.size + 4) (s.heap.objs.size + 2) (s.heap.objs.size + 3) rs → Zp h' (s.heap.objs.size + 4) (s.heap.objs.size + 2) (s.heap.objs.size + 3) .none → Tp h' (s.heap.objs.size + 2) (rs.map fun r => Value.ref r.i).toArray → Tp h' (s.heap.objs.size + 3) #[.none, .none] →
      (∀ (j : Nat) r, rs[j]? = some r → r.at h' 0) → (∀ c o, s.heap.get? c = some o → h'.get? c = some o) → Q (.ref (s.heap.objs.size + 4)) { s with heap := h' }) :
    wpAny (model prog w) A (call (.type "zip") [.ref l1, .ref l2]) Q E s := by
  refine callType_new PySem.F.called_zip (by decide) (PySem.F.typeCall_zip_2 _ _) (PySem.F.newCall_zip_2 _ _) (fun obj => PySem.F.args_object_init_3 obj _ _) PySem.F.entry_zip_new (new2 t1 t2 l1 l2 xs ys) ⟨h1, h2, ?_⟩
  have k1 : l1 < s.heap.objs.size := sq_lt h1
  have k2 : l2 < s.heap.objs.size := sq_lt h2
  have sz : ∀ (h : Heap) (o : Obj) (n : Nat), h.objs.size = n → o.isFreed = false → (h.push o).get? n = some o ∧ (h.push o).objs.size = n + 1 := fun h o n e f => ⟨by rw [← e]; exact Heap.get?_push_size _ f, by rw [Heap.size_push, e]⟩
  have f1 : (itObj t1 l1).isFreed = false := by cases t1 <;> rfl
  have f2 : (itObj t2 l2).isFreed = false := by cases t2 <;> rfl
  obtain ⟨g1, z1⟩ := sz s.heap (itObj t1 l1) _ rfl f1
  obtain ⟨g2, z2⟩ := sz _ (itObj t2 l2) _ z1 f2
  obtain ⟨g3, z3⟩ := sz _ { cls := .type "tuple", data := .seq #[.ref s.heap.objs.size, .ref (s.heap.objs.size + 1)] } _ z2 rfl
  obtain ⟨g4, z4⟩ := sz _ { cls := .type "tuple", data := .seq #[.none, .none] } _ z3 rfl
  obtain ⟨g5, z5⟩ := sz _ { cls := .type "zip", data := .fields #[.none, .bool false, .bool false, .ref (s.heap.objs.size + 2), .ref (s.heap.objs.size + 3)] } _ z4 rfl
  refine ⟨⟨_, g5, rfl⟩, q _ _ rfl (apart2 k1 k2) g5 (Heap.get?_push_of_some _ (Heap.get?_push_of_some _ g3)) (Heap.get?_push_of_some _ g4) ?_ fun c o e => Heap.get?_push_of_some _ (Heap.get?_push_of_some _ (Heap.get?_push_of_some _ (Heap.get?_push_of_some _ (Heap.get?_push_of_some _ e))))⟩
  · intro j r hr
    match j, hr with
    | 0, hr => cases hr; exact new_at (Heap.get?_push_of_some _ (Heap.get?_push_of_some _ (Heap.get?_push_of_some _ (Heap.get?_push_of_some _ g1))))
    | 1, hr => cases hr; exact new_at (Heap.get?_push_of_some _ (Heap.get?_push_of_some _ (Heap.get?_push_of_some _ g2)))
    | j + 2, hr => simp at hr
end
/-! ### as a rule of the layer -/
def SqK (t : Bool) (K : PySem.W.Frag) (H : Hp) (a : Addr) (xs : List V) : Prop := match t with
  | true => SqT K H a xs
  | false => SqL K H a xs
theorem sqk_inv {X : Cx} {pins : List (Addr × Obj)} {s : Shared} {σ : L2.St} {H : Hp} {t : Bool} {a : Addr} {xs : List V} (i : Addr) (I : Inv X pins σ H s) (h : SqK t X.K H a xs) : ∃ its : List Value, Vals xs its ∧ Sr.sq ⟨t, i, a⟩ s.heap its.toArray ∧ xs.length ≤ sizeLine := by
  cases t
  · obtain ⟨its, rv, p, hz⟩ := I.list (show SqL X.K H a xs from h)
    exact ⟨its, rv, (show s.heap.IsList a its.toArray from p.isList), hz⟩
  · obtain ⟨its, rv, p, hz⟩ := I.tuple (show SqT X.K H a xs from h)
    exact ⟨its, rv, (show s.heap.IsTuple a its.toArray from p), hz⟩
theorem sqk_uni {X : Cx} {pins : List (Addr × Obj)} {s : Shared} {σ : L2.St} {H : Hp} {t : Bool} {a : Addr} {xs ys : List V} (I : Inv X pins σ H s) (h : SqK t X.K H a xs) (h' : SqK t X.K H a ys) : xs = ys := by
  cases t
  · exact I.list_inj h h'
  · exact I.tuple_inj h h'
/-- what stands at a and b at each turn, in new pairs -/
def ItG (K : PySem.W.Frag) (t1 t2 : Bool) (a b : Addr) : It :=
  ⟨fun i H => ∃ (xs ys : List V) (x y : V), SqK t1 K H a xs ∧ SqK t2 K H b ys ∧ xs[i]? = some x ∧ ys[i]? = some y,
   fun i H v H' => ∃ T x y, v = .ref T ∧ H T = none ∧ H' = upd H T (.tup [x, y]) ∧ (∀ xs, SqK t1 K H a xs → xs[i]? = some x) ∧ ∀ ys, SqK t2 K H b ys → ys[i]? = some y,
   fun i H => ∃ xs ys : List V, SqK t1 K H a xs ∧ SqK t2 K H b ys ∧ (xs.length ≤ i ∨ ys.length ≤ i)⟩
theorem two_of {α : Type} {vs : Array α} (h : vs.size = 2) : ∃ x y, vs = #[x, y] ∧ vs[0]? = some x ∧ vs[1]? = some y := by
  obtain ⟨l⟩ := vs
  match l, h with
  | [x, y], _ => exact ⟨x, y, rfl, rfl, rfl⟩
theorem rs2 {P : Nat → Sr → Prop} {r1 r2 : Sr} (h1 : P 0 r1) (h2 : P 1 r2) : ∀ (j : Nat) r, [r1, r2][j]? = some r → P j r := fun j r h => by
  match j, h with
  | 0, h => cases h; exact h1
  | 1, h => cases h; exact h2
  | j + 2, h => simp at h
theorem turn_G {P : Program} {w : World} {K : PySem.W.Frag} {elts : List Expr} {kk : Nat} {tpos : Pos} {t1 t2 : Bool} {a b z TI TO i1 i2 : Addr} (D : Apart z TI TO [⟨t1, i1, a⟩, ⟨t2, i2, b⟩]) :
    Turn P w K (.Tuple elts kk tpos) (ItG K t1 t2 a b) [z, TI, TO, i1, i2] z (fun i h => Zp h z TI TO .none ∧ Tp h TI #[.ref i1, .ref i2] ∧ (∃ us, us.size = 2 ∧ Tp h TO us) ∧ Sr.at ⟨t1, i1, a⟩ h i ∧ Sr.at ⟨t2, i2, b⟩ h i) where
  mem := List.mem_cons_self
  obj := fun i h st c hc => by
    obtain ⟨hz, hI, ⟨us, _, hO⟩, h1, h2⟩ := st
    simp only [List.mem_cons, List.not_mem_nil, or_false] at hc
    rcases hc with e | e | e | e | e
    · subst e; exact ⟨_, hz, fun v q => by cases q⟩
    · subst e; exact ⟨_, hI, fun v q => by cases q⟩
    · subst e; exact ⟨_, hO, fun v q => by cases q⟩
    · subst e; exact h1.obj
    · subst e; exact h2.obj
  keep := fun i h h' st k => by
    obtain ⟨hz, hI, ⟨us, hs, hO⟩, h1, h2⟩ := st
    exact ⟨k z (by simp) _ hz, k TI (by simp) _ hI, ⟨us, hs, k TO (by simp) _ hO⟩, h1.go (fun o q => k i1 (by simp) o q), h2.go (fun o q => k i2 (by simp) o q)⟩
  item := by
    intro X hP hw hK hc i pins s σ H E I hf st hg
    subst hP hw hK
    obtain ⟨hz, hI, ⟨us, hs, hO⟩, h1, h2⟩ := st
    obtain ⟨xs, ys, x, y, hx0, hy0, hx, hy⟩ := hg
    obtain ⟨its, rv, p, _⟩ := sqk_inv i1 I hx0
    obtain ⟨its2, rv2, p2, _⟩ := sqk_inv i2 I hy0
    obtain ⟨u, hu, ru⟩ := rv.get hx
    obtain ⟨u2, hu2, ru2⟩ := rv2.get hy
    have hzl : z < s.heap.objs.size := Heap.lt_size hz
    have fit : ∀ c ∈ [z, TI, TO, i1, i2], c < s.heap.objs.size := fun c hc => by
      simp only [List.mem_cons, List.not_mem_nil, or_false] at hc
      rcases hc with e | e | e | e | e
      · subst e; exact hzl
      · subst e; exact Heap.lt_size hI
      · subst e; exact Heap.lt_size hO
      · subst e; obtain ⟨_, q, _⟩ := h1.obj; exact Heap.lt_size q
      · subst e; obtain ⟨_, q, _⟩ := h2.obj; exact Heap.lt_size q
    refine pyNext_zip (items := fun j => if j = 0 then its.toArray else its2.toArray) (I.ok.hd hc) D hz hI hO hs (by simp) (by simp) (rs2 h1 h2) (rs2 p p2) (fun h' vs v1 v2 z' O' at' T' sz' kp => ?_) fun h' ⟨j, hj, hno⟩ kp => ?_
    · obtain ⟨v, v', rfl, w1, w2⟩ := two_of v1
      have e1 := v2 0 (by simp)
      have e2 := v2 1 (by simp)
      rw [w1, if_pos rfl] at e1
      rw [w2, if_neg (by decide)] at e2
      rw [List.getElem?_toArray, hu] at e1
      rw [List.getElem?_toArray, hu2] at e2
      cases e1
      cases e2
      refine ⟨_, rfl, wpAny_letOwnedTupleGo_zip (s := { s with heap := h' }) z' fun h2' z2 sb => ?_⟩
      have hT2 : Tp h2' s.heap.objs.size #[u, u2] := (sb.2 _ (Nat.ne_of_gt hzl)).trans T'
      have new : ObjOk X.prog X.w (upd H s.heap.objs.size (.tup [x, y])) h2' s.heap.objs.size (.tup [x, y]) := ⟨by rw [sizeLine_eq]; simp, [u, u2], .cons ru (.cons ru2 .nil), ⟨_, hT2, rfl, _, rfl⟩⟩
      have kp2 : ∀ c o, c ∉ [z, TI, TO, i1, i2] → s.heap.get? c = some o → h2'.get? c = some o := fun c o hb q => by
        simp only [List.mem_cons, List.not_mem_nil, or_false, not_or] at hb
        rw [sb.2 c hb.1]
        exact kp c o (by simp only [List.map_cons, List.map_nil, List.mem_cons, List.not_mem_nil, or_false, not_or]; exact ⟨hb.1, hb.2.2⟩) q
      have I1 : Inv X pins σ (upd H s.heap.objs.size (.tup [x, y])) { s with heap := h2' } := I.turnedNew (t' := s.toks) (ch := [z, TI, TO, i1, i2]) kp2 hf (Nat.le_refl _) new
      have hi1 := D.iz (r := ⟨t1, i1, a⟩) (by simp)
      have hi2 := D.iz (r := ⟨t2, i2, b⟩) (by simp)
      refine ⟨.ref s.heap.objs.size, _, I1, rfl, ⟨_, x, y, rfl, I.hok.fresh (Nat.le_refl _), rfl, fun l hl => by rw [sqk_uni I hl hx0]; exact hx, fun l hl => by rw [sqk_uni I hl hy0]; exact hy⟩, ⟨z2, ?_, ⟨_, rfl, (sb.2 _ (Ne.symm D.zTO)).trans O'⟩, ?_, ?_⟩, fun c hcm => ?_⟩
      · have hn := D.TIo
        exact (sb.2 TI (fun e => hn (e ▸ List.mem_cons_self))).trans (kp TI _ hn hI)
      · exact (at' 0 _ rfl).go fun o q => (sb.2 _ hi1.1).trans q
      · exact (at' 1 _ rfl).go fun o q => (sb.2 _ hi2.1).trans q
      · rw [upd_ne (Nat.ne_of_lt (fit c hcm))]
        exact (hf c hcm).1
    · have l1 := rv.length
      have l2 := rv2.length
      have b1 : i < its.length := (List.getElem?_eq_some_iff.mp hu).1
      have b2 : i < its2.length := (List.getElem?_eq_some_iff.mp hu2).1
      exfalso
      by_cases hj0 : j = 0
      · rw [if_pos hj0, List.getElem?_toArray, hu] at hno; cases hno
      · rw [if_neg hj0, List.getElem?_toArray, hu2] at hno; cases hno
  done := by
    intro X hP hw hK hc i pins s σ H E I hf st hg
    subst hP hw hK
    obtain ⟨hz, hI, ⟨us, hs, hO⟩, h1, h2⟩ := st
    obtain ⟨xs, ys, hx0, hy0, hend⟩ := hg
    obtain ⟨its, rv, p, _⟩ := sqk_inv i1 I hx0
    obtain ⟨its2, rv2, p2, _⟩ := sqk_inv i2 I hy0
    have l1 := rv.length
    have l2 := rv2.length
    refine pyNext_zip (items := fun j => if j = 0 then its.toArray else its2.toArray) (I.ok.hd hc) D hz hI hO hs (by simp) (by simp) (rs2 h1 h2) (rs2 p p2) (fun h' vs v1 v2 _ _ _ _ _ _ => ?_) fun h' _ kp => ⟨rfl, I.turnedL (t' := s.toks) (ch := [z, TI, TO, i1, i2]) (fun c o hb q => ?_) hf⟩
    · exfalso
      obtain ⟨v, v', rfl, w1, w2⟩ := two_of v1
      have e1 := v2 0 (by simp)
      have e2 := v2 1 (by simp)
      rw [w1, if_pos rfl, List.getElem?_toArray] at e1
      rw [w2, if_neg (by decide), List.getElem?_toArray] at e2
      have b1 := (List.getElem?_eq_some_iff.mp e1).1
      have b2 := (List.getElem?_eq_some_iff.mp e2).1
      omega
    · simp only [List.mem_cons, List.not_mem_nil, or_false, not_or] at hb
      exact kp c o (by simp only [List.map_cons, List.map_nil, List.mem_cons, List.not_mem_nil, or_false, not_or]; exact ⟨hb.1, hb.2.2⟩) q
  self := fun A i s Q E st h => wpAny_pyIter_zip st.1 h
def iZipG (K : PySem.W.Frag) (ta : TA) : TI := fun σ H R => ta σ H fun vs H1 => ∃ t1 t2 a b xs ys, vs = [.ref a, .ref b] ∧ SqK t1 K H1 a xs ∧ SqK t2 K H1 b ys ∧ R (ItG K t1 t2 a b) H1
theorem pi_zipG {X : Cx} {e e2 : Expr} {ta : TA} {p pos tpos : Pos} {elts : List Expr} {kk : Nat} (hg : Gl X "zip") (hm : X.mg "zip" = none) (ha : PA X [e, e2] ta) (hs : starEach [e, e2] X.env = (false, eval e X.env) :: starEach [e2] X.env) (hpl : (backTo pos (starEach [e2] X.env)).any (·.1) = false) :
    PI X (.Tuple elts kk tpos) (.Call (.Name "zip" p) [e, e2] [] pos) (iZipG X.K ta) := by
  refine ⟨fun pins s σ H R I h => Call_ (ld_blt I hg hm PyProof.Rows.boot_zip (PyProof.Rows.callWith_type1 (thn (ha.run pos pins s σ H _ I h) ?_) hs hpl))⟩
  rintro us s1 ⟨vs, H1, I1, r1, t1, t2, a, b, xs, ys, rfl, hx, hy, q⟩
  obtain ⟨u, u2, rfl, ru, ru2⟩ := r1.two
  cases ru
  cases ru2
  obtain ⟨its, rv, p1, _⟩ := sqk_inv 0 I1 hx
  obtain ⟨its2, rv2, p2, _⟩ := sqk_inv 0 I1 hy
  refine call_zip2 p1 p2 fun h' rs hrs D hz hI hO hat kp => wpAny_pyIter_zip hz ?_
  subst hrs
  refine ⟨s1.heap.objs.size + 4, [s1.heap.objs.size + 4, s1.heap.objs.size + 2, s1.heap.objs.size + 3, s1.heap.objs.size, s1.heap.objs.size + 1], _, _, H1, rfl, I1.kept (t' := s1.toks) kp, turn_G D, ⟨hz, hI, ⟨_, rfl, hO⟩, hat 0 _ rfl, hat 1 _ rfl⟩, fun c hc => ?_, q⟩
  have le : s1.heap.objs.size ≤ c := by
    simp only [List.mem_cons, List.not_mem_nil, or_false] at hc
    rcases hc with e | e | e | e | e
    · rw [e]; exact Nat.le_add_right _ _
    · rw [e]; exact Nat.le_add_right _ _
    · rw [e]; exact Nat.le_add_right _ _
    · rw [e]; exact Nat.le_refl _
    · rw [e]; exact Nat.le_add_right _ _
  exact I1.fpOk le (I1.hok.fresh le)
end ZG

set_option maxRecDepth 100000
/-! PF: a small language of pure data, with a calculus of wishes; lists that a slot owns may be changed. -/
namespace PF
open PySem

abbrev Ky := List (Sum Int Str)
/-- what an expression gives: data; a new list; the list that slot j owns; a new tuple of a new list and data; a slot may own a dict -/
inductive AV where
  | d (x : PyData) | o (ds : List PyData) | b (j : Nat) | p (ds : List PyData) (x : PyData) | m (kvs : List (Ky × PyData))
abbrev AEnv := List (Option AV)

/-- what a def promises -/
structure ASp where
  run : List AV → (AV → List AV → Prop) → (Str → Prop) → Prop
  mono : ∀ vs Q Q' X X', (∀ r as, Q r as → Q' r as) → (∀ c, X c → X' c) → run vs Q X → run vs Q' X'

inductive BOp where
  | add | sub | mul | fdiv | mod | pow | shl | band
  deriving DecidableEq
inductive COp where
  | eq | ne | lt | le | gt | ge | isin | notin | is | isnot | eqE | neE
  deriving DecidableEq
inductive BI where
  | len | abs | max2 | min2 | int | sum | any | all | min1 | max1 | list | tuple | sorted | repr | bool
  deriving DecidableEq
inductive Ty where
  | int | bool | str | list | tuple
  deriving DecidableEq
/-- a field; of ValueError; texts joined; how many signs; made of a text -/
inductive UN where
  | att (f : Str) | instV | join | lenS | mkV (c : Str)
  deriving DecidableEq
inductive Tg where
  | nm (i : Nat) | tp (is : List Nat)
  deriving DecidableEq

mutual
inductive E where
  | var (i : Nat) | int (i : Int) | bool (b : Bool) | none | str (s : Str)
  | glob (x : Str) (v : PyData)
  | bin (op : BOp) (a b : E) | neg (a : E) | rep (a n : E)
  | not (a : E) | and (a b : E) | or (a b : E)
  | cmp (op : COp) (a b : E) | chain (o1 o2 : COp) (a b c : E)
  | ife (c a b : E)
  | tup (es : Es) | lst (es : Es)
  | ix (a i : E)
  | slL (a lo : E) | slU (a hi : E) | slLU (a lo hi : E) | slRev (a : E)
  | call (x : Str) (sp : ASp) (es : Es)
  | callK (x : Str) (sp : ASp) (ps ks : List Str) (es : Es)
  | mkE (c s : Str)
  | un (f : UN) (a : E) | mkA (c f : Str) (kw : Bool) (e : E) | ixS (a i : E)
  | din (neg : Bool) (j : Nat) (ke : E) | dkeys (j : Nat) | dsort (j : Nat)
  | callO (x : Str) (sp : ASp) (e : E)
  | callR (x : Str) (sp : ASp) (es : Es) | callM (x : Str) (sp : ASp) (es : Es)
  | bi (f : BI) (es : Es)
  | inst (a : E) (ts : List Ty)
  | instC (a : E) (c : Str) (ts : List (Str × Bool))
  | ixOf (a b : E)
  | ssort (a : E)
  | lrg1 (a : E) | lrg2 (a b : E) | lrg3 (a b c : E)
  | pop (j : Nat) (i : E)
  | comp (elt : E) (cond : Option Unit) (c : E) (tg : Tg) (it : It) (own : List (Str × Nat))
inductive Es where
  | nil | cons (e : E) (es : Es)
inductive It where
  | seq (e : E) | range1 (a : E) | range2 (a b : E) | range3 (a b c : E) | enum (e : E) | zip (a b : E) | zip3 (a b c : E)
end
/-- an expression that may raise: a call, or one of two -/
inductive RE where
  | e (a : E)
  | call (x : Str) (sp : ASp) (es : Es)
  | callK (x : Str) (sp : ASp) (ps ks : List Str) (es : Es)
  | ife (c : E) (a b : RE)
mutual
inductive S where
  | asg (i : Nat) (e : E)
  | asgF (i : Nat) (e : E)
  | par (is : List Nat) (es : Es)
  | parN (is : List Nat) (es : Es) (js : List Nat)
  | parF (i j : Nat) (a b : E)
  | parI (i j : Nat) (a b : E)
  | parG (i j l : Nat) (a b c : E)
  | parH (i j l : Nat) (a b c : E)
  | unp (is : List Nat) (e : E)
  | unpP (i j : Nat) (e : E)
  | retP (j : Nat) (e : E)
  | setIx (j : Nat) (i e : E)
  | aug (i : Nat) (op : BOp) (e : E)
  | append (j : Nat) (e : E)
  | insert (j : Nat) (i e : E)
  | expr (e : E)
  | ret (e : E) | retN
  | ite (c : E) (a b : Ss)
  | forS (tg : Tg) (it : It) (body : Ss)
  | whl (c : E) (body : Ss)
  | pass | brk | cont | raise (x : Str)
  | frz (j : Nat)
  | dnew (j : Nat) (ke ve : E) | dset (j : Nat) (ke ve : E)
  | dnewP (j : Nat) (e : E)
  | rexpr (r : RE) | rret (r : RE) | raiseX (c s : Str)
  | tryC (body : Ss) (c : Str) (cs : List Str) (i j : Nat)
inductive Ss where
  | nil | cons (s : S) (ss : Ss)
end

/-! ### slots -/
def getE : AEnv → Nat → Option AV
  | [], _ => Option.none
  | x :: _, 0 => x
  | _ :: l, n + 1 => getE l n
def setE : AEnv → Nat → Option AV → AEnv
  | [], _, _ => []
  | _ :: l, 0, v => v :: l
  | x :: l, n + 1, v => x :: setE l n v
def wipeE (env : AEnv) : List (Str × Nat) → AEnv
  | [] => env
  | p :: r => setE (wipeE env r) p.2 Option.none
def backE (old env : AEnv) : List (Str × Nat) → AEnv
  | [] => env
  | p :: r => setE (backE old env r) p.2 (getE old p.2)
/-- what is read -/
def rdK (env : AEnv) (v : AV) (k : PyData → Prop) : Prop :=
  match v with
  | .d x => k x
  | .o ds => k (.list ds)
  | .b j => match getE env j with
    | some (.o ds) => k (.list ds)
    | _ => False
  | .p ds x => k (.tuple [.list ds, x])
  | .m _ => False
/-- what is kept: data, or a new list that is not changed any more -/
def dataK (v : AV) (k : PyData → Prop) : Prop :=
  match v with
  | .d x => k x
  | .o ds => k (.list ds)
  | .b _ => False
  | .p ds x => k (.tuple [.list ds, x])
  | .m _ => False
def datasK : List AV → (List PyData → Prop) → Prop
  | [], k => k []
  | v :: vs, k => dataK v fun x => datasK vs fun xs => k (x :: xs)
def truth : PyData → Option Bool
  | .none => some false
  | .bool b => some b
  | .int i => some (i != 0)
  | .list xs => some (!xs.isEmpty)
  | .tuple xs => some (!xs.isEmpty)
  | _ => Option.none
def truthK (env : AEnv) (v : AV) (k : Bool → Prop) : Prop :=
  rdK env v fun x => match truth x with
    | some b => k b
    | Option.none => False

/-- an exception object as data: the name of its class -/
def objD (c : Str) : PyData := .dict [(.none, .str c)]
/-- an exception object that was made of a text: the name of its class, the text -/
def objM (c s : Str) : PyData := .dict [(.none, .tuple [.str c, .str s])]
/-- an exception object whose class keeps its one argument: the class, the field, what it keeps -/
def objA (c f : Str) (v : PyData) : PyData := .dict [(.none, .tuple [.str c, .str f, v])]
def excX : List (PyData × PyData) → Option Str
  | [(.none, .tuple [.str c, .str s])] => some (c ++ "(" ++ reprText s ++ ")")
  | _ => Option.none
mutual
/-- how data shows, made exception objects among it -/
def shX : PyData → Str
  | .none => "None"
  | .bool b => if b then "True" else "False"
  | .int i => toString i
  | .str x => reprText x
  | .list xs => listText (shXs xs)
  | .tuple xs => tupleText (shXs xs)
  | .dict kvs => (excX kvs).getD ""
def shXs : List PyData → List Str
  | [] => []
  | x :: xs => shX x :: shXs xs
end
mutual
def okX : PyData → Bool
  | .none | .bool _ | .str _ => true
  | .int i => decide (i.natAbs.log2 < 1920)
  | .list xs | .tuple xs => okXs xs
  | .dict kvs => (excX kvs).isSome
def okXs : List PyData → Bool
  | [] => true
  | x :: xs => okX x && okXs xs
end
def okR : PyData → Bool
  | .dict _ => false
  | x => okX x
/-- a tuple of whole numbers of the written part -/
def kD (ns : List Int) : PyData := .dict [(.bool true, .tuple (ns.map .int))]
def intsOf : List PyData → Option (List Int)
  | [] => some []
  | .int i :: r => (intsOf r).map (i :: ·)
  | _ :: _ => Option.none
def leT (ns ms : List Int) : Bool := Ob.lexAt (fun j => decide (ns.getD j 0 = ms.getD j 0)) (fun j => decide (ns.getD j 0 ≤ ms.getD j 0)) (decide (ns.length ≤ ms.length)) 0 (min ns.length ms.length)
/-! ### operators -/
def mulOk (i j : Int) : Prop := i.natAbs.log2 + j.natAbs.log2 < 1000000
def divOk (j : Int) : Prop := j ≠ 0 ∧ j.natAbs.log2 < 9000
def powOk (i n : Int) : Prop := 0 ≤ n ∧ (Builtin.Int.intBits i : Int) * n ≤ 2 ^ 27
def binK (op : BOp) (x y : PyData) (k : AV → Prop) : Prop :=
  match op, x, y with
  | .add, .int i, .int j => k (.d (.int (i + j)))
  | .sub, .int i, .int j => k (.d (.int (i - j)))
  | .mul, .int i, .int j => mulOk i j ∧ k (.d (.int (i * j)))
  | .fdiv, .int i, .int j => divOk j ∧ k (.d (.int (i.fdiv j)))
  | .mod, .int i, .int j => j ≠ 0 ∧ k (.d (.int (i.fmod j)))
  | .pow, .int i, .int n => powOk i n ∧ k (.d (.int (i ^ n.toNat)))
  | .add, .list a, .list b => a.length + b.length ≤ sizeLine ∧ k (.o (a ++ b))
  | .add, .tuple a, .tuple b => a.length + b.length ≤ sizeLine ∧ k (.d (.tuple (a ++ b)))
  | _, _, _ => False
def cmpK (op : COp) (x y : PyData) (k : Bool → Prop) : Prop :=
  match op with
  | .eq => SeqAt.shaped x = true ∧ SeqAt.shaped y = true ∧ k (PyData.eqv x y)
  | .ne => SeqAt.shaped x = true ∧ SeqAt.shaped y = true ∧ k (!PyData.eqv x y)
  | .eqE => match x, y with | .list a, .list [] => k a.isEmpty | .tuple a, .tuple [] => k a.isEmpty | _, _ => False
  | .neE => match x, y with | .list a, .list [] => k (!a.isEmpty) | .tuple a, .tuple [] => k (!a.isEmpty) | _, _ => False
  | .lt => match x, y with | .int i, .int j => k (decide (i < j)) | _, _ => False
  | .le => match x, y with | .int i, .int j => k (decide (i ≤ j)) | .tuple a, .tuple b => (match intsOf a, intsOf b with | some ns, some ms => k (leT ns ms) | _, _ => False) | _, _ => False
  | .gt => match x, y with | .int i, .int j => k (decide (j < i)) | _, _ => False
  | .ge => match x, y with | .int i, .int j => k (decide (j ≤ i)) | _, _ => False
  | .isin => match y with
    | .list ys => SeqAt.shaped x = true ∧ SeqAt.shaped (.list ys) = true ∧ k (ys.any fun z => PyData.eqv z x)
    | _ => False
  | .notin => match y with
    | .list ys => SeqAt.shaped x = true ∧ SeqAt.shaped (.list ys) = true ∧ k (!ys.any fun z => PyData.eqv z x)
    | _ => False
  | .is => match x, y with
    | .none, .none => k true
    | _, .none => k false
    | .bool a, .bool b => k (decide (a = b))
    | _, _ => False
  | .isnot => match x, y with
    | .none, .none => k false
    | _, .none => k true
    | .bool a, .bool b => k (!decide (a = b))
    | _, _ => False
def ixK (x y : PyData) (k : PyData → Prop) : Prop :=
  match x, y with
  | .list xs, .int i => match L2.atI xs i with | some z => k z | Option.none => False
  | .tuple xs, .int i => match L2.atI xs i with | some z => k z | Option.none => False
  | .dict [(.bool true, .tuple xs)], .int i => match L2.atI xs i with | some z => k z | Option.none => False
  | _, _ => False
def cutD (xs : List PyData) (lo hi : Option Int) : List PyData := (xs.drop (HT.sIx xs.length 0 lo)).take (HT.sIx xs.length xs.length hi - HT.sIx xs.length 0 lo)
def slK (x : PyData) (lo hi : Option Int) (k : AV → Prop) : Prop :=
  match x with
  | .list xs => k (.o (cutD xs lo hi))
  | .tuple xs => k (.d (.tuple (cutD xs lo hi)))
  | _ => False
def tyOf : PyData → List Ty
  | .bool _ => [.bool, .int]
  | .int _ => [.int]
  | .str _ => [.str]
  | .list _ => [.list]
  | .tuple _ => [.tuple]
  | .dict [(.bool true, .tuple _)] => [.tuple]
  | _ => []
def isTy (x : PyData) (ts : List Ty) : Bool := ts.any fun t => (tyOf x).contains t
/-- of a class of the program: none, or an exception object -/
def insK (x : PyData) (ts : List (Str × Bool)) (k : Bool → Prop) : Prop :=
  match x with
  | .none => k false
  | .dict [(.none, .str c)] => (match ts.lookup c with | some b => k b | Option.none => False)
  | .dict [(.none, .tuple (.str c :: _))] => (match ts.lookup c with | some b => k b | Option.none => False)
  | _ => False
def strsOf : List PyData → Option (List Str)
  | [] => some []
  | .str s :: r => (strsOf r).map (s :: ·)
  | _ :: _ => Option.none
def unK (f : UN) (x : PyData) (k : PyData → Prop) : Prop :=
  match f with
  | .att f => (match x with | .dict [(.none, .tuple [.str _, .str g, v])] => g = f ∧ k v | _ => False)
  | .instV => (match x with | .dict [(.none, _)] => k (.bool true) | _ => False)
  | .join => (match x with | .list ds => (match strsOf ds with | some ys => (ys.map (·.length)).sum ≤ 16777216 ∧ ∀ s : Str, k (.str s) | Option.none => False) | _ => False)
  | .lenS => (match x with | .str z => z.length ≤ sizeLine ∧ k (.int z.length) | _ => False)
  | .mkV c => (match x with | .str s => k (objM c s) | _ => False)
/-- one sign of a text -/
def ixSK (x y : PyData) (k : PyData → Prop) : Prop :=
  match x, y with
  | .str z, .int i => (0 ≤ i ∧ i < 2 ^ 63 ∧ i < z.length) ∧ ∀ c, z.cps[i.toNat]? = some c → k (.str ⟨#[c]⟩)
  | _, _ => False
def boolsOf : List PyData → Option (List Bool)
  | [] => some []
  | .bool b :: r => (boolsOf r).map (b :: ·)
  | _ :: _ => Option.none
def tupD (ns : List Int) : PyData := .tuple (ns.map .int)
def tupsOf : List PyData → Option (List (List Int))
  | [] => some []
  | .tuple xs :: r => match intsOf xs, tupsOf r with
    | some ns, some nss => some (ns :: nss)
    | _, _ => Option.none
  | _ :: _ => Option.none
/-- what sorted gives: of whole numbers, of tuples of such -/
def sortK (a : List PyData) (k : AV → Prop) : Prop :=
  match intsOf a with
  | some ns => ∀ ns' : List Int, ns'.Perm ns → ns'.Pairwise (· ≤ ·) → k (.o (ns'.map .int))
  | Option.none => match tupsOf a with
    | some nss => (∀ ns ∈ nss, ns ≠ []) ∧ ∀ nss' : List (List Int), nss'.Perm nss → SrtO.Srtd SG.ltL nss' → k (.o (nss'.map tupD))
    | Option.none => False
/-- the first place of an equal item -/
def ixOfK (x y : PyData) (k : Nat → Prop) : Prop :=
  match x with
  | .list ds => SeqAt.shaped (.list ds) = true ∧ SeqAt.shaped y = true ∧ (match ds.findIdx? (fun z => PyData.eqv z y) with | some j => k j | Option.none => False)
  | _ => False
/-- sorted(set(xs)) of whole numbers -/
def ssK (x : PyData) (k : List Int → Prop) : Prop :=
  match x with
  | .list ds => (match intsOf ds with | some ns => ns.length < 4000 ∧ ∀ ns' : List Int, ns'.Pairwise (· < ·) → (∀ i, i ∈ ns' ↔ i ∈ ns) → k ns' | Option.none => False)
  | _ => False
def biK (f : BI) (xs : List PyData) (k : AV → Prop) : Prop :=
  match f, xs with
  | .len, [.list a] => k (.d (.int a.length))
  | .len, [.tuple a] => k (.d (.int a.length))
  | .abs, [.int i] => k (.d (.int (if i < 0 then -i else i)))
  | .max2, [.int i, .int j] => k (.d (.int (if j > i then j else i)))
  | .min2, [.int i, .int j] => k (.d (.int (if j < i then j else i)))
  | .int, [.int i] => k (.d (.int i))
  | .int, [.bool b] => k (.d (.int (if b then 1 else 0)))
  | .list, [.list a] => k (.o a)
  | .list, [.tuple a] => k (.o a)
  | .tuple, [.list a] => k (.d (.tuple a))
  | .tuple, [.tuple a] => k (.d (.tuple a))
  | .sum, [.list a] => match intsOf a with | some ns => k (.d (.int ns.sum)) | Option.none => False
  | .any, [.list a] => match boolsOf a with | some bs => k (.d (.bool (bs.any id))) | Option.none => False
  | .all, [.list a] => match boolsOf a with | some bs => k (.d (.bool (bs.all id))) | Option.none => False
  | .min1, [.list a] => match intsOf a with | some ns => 0 < ns.length ∧ ∀ m, m ∈ ns → (∀ y, y ∈ ns → m ≤ y) → k (.d (.int m)) | Option.none => False
  | .max1, [.list a] => match intsOf a with | some ns => 0 < ns.length ∧ ∀ m, m ∈ ns → (∀ y, y ∈ ns → y ≤ m) → k (.d (.int m)) | Option.none => False
  | .sorted, [.list a] => sortK a k
  | .repr, [x] => (okR x = true ∧ (shX x).length ≤ sizeLine ∧ x.depth ≤ 64) ∧ k (.d (.str (shX x)))
  | _, _ => False

/-! ### targets and walks -/
def setMany : List Nat → List PyData → AEnv → AEnv
  | i :: is, x :: xs, env => setMany is xs (setE env i (some (.d x)))
  | _, _, env => env
def tgK (tg : Tg) (x : PyData) (env : AEnv) (k : AEnv → Prop) : Prop :=
  match tg with
  | .nm i => k (setE env i (some (.d x)))
  | .tp is => match x with
    | .tuple xs => xs.length = is.length ∧ k (setMany is xs env)
    | .dict [(.bool true, .tuple xs)] => xs.length = is.length ∧ k (setMany is xs env)
    | _ => False
def rangeL (lo hi : Int) : List PyData := (List.range (hi - lo).toNat).map fun (i : Nat) => .int (lo + (i : Int))
def rangeK (lo hi : Int) (k : List PyData → Prop) : Prop := (-1000000000 ≤ lo ∧ lo ≤ 1000000000 ∧ -1000000000 ≤ hi ∧ hi ≤ 1000000000 ∧ (hi - lo).toNat < sizeLine) ∧ k (rangeL lo hi)
/-- lo, lo + c, .. below hi, for a step above 0 -/
def rangeCn (lo hi c : Int) : Nat := if lo < hi then ((hi - lo - 1) / c + 1).toNat else 0
def rangeCL (lo hi c : Int) : List PyData := (List.range (rangeCn lo hi c)).map fun (i : Nat) => .int (lo + (i : Int) * c)
def rangeCK (lo hi c : Int) (k : List PyData → Prop) : Prop := (0 < c ∧ c ≤ 1000000000 ∧ -1000000000 ≤ lo ∧ lo ≤ 1000000000 ∧ -1000000000 ≤ hi ∧ hi ≤ 1000000000 ∧ rangeCn lo hi c < sizeLine) ∧ k (rangeCL lo hi c)
/-- empty lists, one for each slot -/
def setNils : List Nat → AEnv → AEnv
  | [], env => env
  | j :: js, env => setNils js (setE env j (some (.o [])))
/-- one item taken out of a list -/
def popK (ds : List PyData) (n : Int) (k : PyData → List PyData → Prop) : Prop := (0 ≤ n ∧ n < 2 ^ 63) ∧ match ds[n.toNat]? with | some x => k x (ds.eraseIdx n.toNat) | Option.none => False
def enumL (i : Nat) : List PyData → List PyData
  | [] => []
  | x :: xs => .tuple [.int i, x] :: enumL (i + 1) xs
def zipL : List PyData → List PyData → List PyData
  | x :: xs, y :: ys => .tuple [x, y] :: zipL xs ys
  | _, _ => []
def zipL3 : List PyData → List PyData → List PyData → List PyData
  | x :: xs, y :: ys, z :: zs => .tuple [x, y, z] :: zipL3 xs ys zs
  | _, _, _ => []
/-- the items of what is walked -/
def seqK (v : AV) (k : List PyData → Prop) : Prop :=
  match v with
  | .d (.list xs) => k xs
  | .d (.tuple xs) => k xs
  | .o xs => k xs
  | .d (.dict [(.bool true, .tuple xs)]) => k xs
  | _ => False
def lstK (v : AV) (k : List PyData → Prop) : Prop :=
  match v with
  | .d (.list xs) => k xs
  | .o xs => k xs
  | _ => False

/-- what holds no place -/
def flatD : PyData → Bool
  | .none => true
  | .bool _ => true
  | .int _ => true
  | .str _ => true
  | _ => false
/-! ### dicts -/
def keyD : Sum Int Str → PyData
  | .inl i => .int i
  | .inr s => .str s
def kyD (ks : Ky) : PyData := .tuple (ks.map keyD)
def keysOf : List PyData → Option Ky
  | [] => some []
  | .int i :: r => (keysOf r).map (.inl i :: ·)
  | .str s :: r => (keysOf r).map (.inr s :: ·)
  | _ :: _ => Option.none
def keyK (x : PyData) (k : Ky → Prop) : Prop := match x with
  | .tuple xs => (match keysOf xs with | some ks => k ks | Option.none => False)
  | _ => False
def kyI : Ky → Option (List Int)
  | [] => some []
  | .inl i :: r => (kyI r).map (i :: ·)
  | .inr _ :: _ => Option.none
def kysI : List Ky → Option (List (List Int))
  | [] => some []
  | k :: r => match kyI k, kysI r with
    | some ns, some nss => some (ns :: nss)
    | _, _ => Option.none
def hasKy (kvs : List (Ky × PyData)) (ks : Ky) : Bool := kvs.any fun kv => decide (kv.1 = ks)
def putKy (kvs : List (Ky × PyData)) (ks : Ky) (y : PyData) : List (Ky × PyData) := if hasKy kvs ks = true then kvs.map fun kv => if kv.1 = ks then (kv.1, y) else kv else kvs ++ [(ks, y)]
/-- pairs of a key and a value -/
def pairsOf : List PyData → Option (List (Ky × PyData))
  | [] => some []
  | .tuple [.tuple xs, y] :: r => match keysOf xs, pairsOf r with
    | some ks, some kvs => some ((ks, y) :: kvs)
    | _, _ => Option.none
  | _ :: _ => Option.none
def pairsK (x : PyData) (k : List (Ky × PyData) → Prop) : Prop := match x with
  | .list ds => (match pairsOf ds with | some kvs => ((kvs.map (·.1)).Nodup ∧ kvs.length ≤ sizeLine ∧ ∀ kv ∈ kvs, flatD kv.2 = true) ∧ k kvs | Option.none => False)
  | _ => False
/-! ### the ends of a statement -/
structure AEnds where
  nx : AEnv → Prop
  rt : AV → AEnv → Prop
  bk : AEnv → Prop := fun _ => False
  ct : AEnv → Prop := fun _ => False
abbrev XQ := Str → AEnv → Prop
/-- nothing is raised -/
abbrev X0 : XQ := fun _ _ => False

/-- none of these slots owns a list -/
def noOwn (env : AEnv) : List (Str × Nat) → Prop
  | [] => True
  | p :: r => (match getE env p.2 with | some (.o _) => False | some (.m _) => False | _ => True) ∧ noOwn env r
def compW (cond : Option Unit) (ec ee : AEnv → (AV → AEnv → Prop) → Prop) (tg : Tg) (own : List (Str × Nat)) : List PyData → AEnv → List PyData → (List PyData → AEnv → Prop) → Prop
  | [], env, acc, Q => Q acc env
  | x :: xs, env, acc, Q => tgK tg x (wipeE env own) fun env1 =>
    match cond with
    | Option.none => ee env1 fun v env3 => dataK v fun y => compW cond ec ee tg own xs env3 (acc ++ [y]) Q
    | some _ => ec env1 fun c env2 => truthK env2 c fun b =>
      if b = true then ee env2 fun v env3 => dataK v fun y => compW cond ec ee tg own xs env3 (acc ++ [y]) Q
      else compW cond ec ee tg own xs env2 acc Q
def forW (body : AEnv → AEnds → Prop) (tg : Tg) (D : AEnds) : List PyData → AEnv → Prop
  | [], env => D.nx env
  | x :: xs, env => tgK tg x env fun env1 => body env1 { D with nx := forW body tg D xs, ct := forW body tg D xs, bk := D.nx }
def whileW (c : AEnv → (AV → AEnv → Prop) → Prop) (body : AEnv → AEnds → Prop) (D : AEnds) (env : AEnv) : Prop :=
  ∃ W : Nat → AEnv → Prop, (∃ m, W m env) ∧ ∀ m env, W m env → c env fun v env1 => truthK env1 v fun b =>
    if b = true then ∃ N : AEnv → Prop, (∀ env', N env' → ∃ m', m' < m ∧ W m' env') ∧ body env1 { D with nx := N, ct := N, bk := D.nx } else D.nx env1

def rdsK (env : AEnv) : List AV → (List PyData → Prop) → Prop
  | [], k => k []
  | v :: vs, k => rdK env v fun x => rdsK env vs fun xs => k (x :: xs)
/-- arguments as a def gets them; at most one is lent -/
def lendK (env : AEnv) : List AV → (List AV → Prop) → Prop
  | [], k => k []
  | .d x :: r, k => lendK env r fun as => k (.d x :: as)
  | .o ds :: r, k => lendK env r fun as => k (.d (.list ds) :: as)
  | .b j :: r, k => match getE env j with
    | some (.o ds) => lendK env r fun as => k (.o ds :: as)
    | _ => False
  | .p ds x :: r, k => lendK env r fun as => k (.d (.tuple [.list ds, x]) :: as)
  | .m _ :: _, _ => False
def lent : List AV → List Nat
  | [] => []
  | .b j :: r => j :: lent r
  | _ :: r => lent r
def backL (env : AEnv) : List AV → List AV → AEnv
  | .b j :: r, .o ds :: as => backL (setE env j (some (.o ds))) r as
  | _ :: r, _ :: as => backL env r as
  | _, _ => env
def callK (sp : ASp) (vs : List AV) (env : AEnv) (Q : AV → AEnv → Prop) (X : XQ) : Prop :=
  (lent vs).length ≤ 1 ∧ lendK env vs fun as => sp.run as (fun r as' => Q r (backL env vs as')) (fun c => X c env)
/-- a call that only reads, with a flat answer -/
def callRK (sp : ASp) (ds : List PyData) (env : AEnv) (Q : AV → AEnv → Prop) (X : XQ) : Prop :=
  sp.run (ds.map .d) (fun r _ => match r with | .d x => flatD x = true ∧ Q (.d x) env | .o ys => (tupsOf ys).isSome = true ∧ Q (.o ys) env | _ => False) (fun c => X c env)
mutual
/-- no list in it has n items -/
def noLen (n : Nat) : PyData → Bool
  | .list xs => decide (xs.length ≠ n) && noLens n xs
  | .tuple xs => noLens n xs
  | .dict [(.none, .tuple [_, _, _])] => false
  | _ => true
def noLens (n : Nat) : List PyData → Bool
  | [] => true
  | x :: xs => noLen n x && noLens n xs
end
/-- what is read beside a lent list -/
def rdmK (env : AEnv) (j : Nat) : List AV → (List PyData → Prop) → Prop
  | [], k => k []
  | .d x :: r, k => rdmK env j r fun xs => k (x :: xs)
  | .b m :: r, k => m ≠ j ∧ match getE env m with
    | some (.o ys) => rdmK env j r fun xs => k (.list ys :: xs)
    | _ => False
  | _ :: _, _ => False
/-- a call that is lent its first list and reads others; its answer hangs on none of them -/
def callMK (sp : ASp) (vs : List AV) (env : AEnv) (Q : AV → AEnv → Prop) (X : XQ) : Prop := match vs with
  | .b j :: rest => match getE env j with
    | some (.o l) => rdmK env j rest fun ds => sp.run (.o l :: ds.map .d) (fun r as' => match r, as' with
      | .d x, .o l' :: _ => (∀ m ys, getE env m = some (.o ys) → m ≠ j → noLen ys.length x = true ∧ noLens ys.length l' = true) ∧ Q (.d x) (setE env j (some (.o l')))
      | _, _ => False) (fun c => X c env)
    | _ => False
  | _ => False
/-- keywords put in the order of the parameters -/
def reorder (ps ks : List Str) (vs : List AV) : Option (List AV) := ps.mapM fun p => (ks.zip vs).lookup p

mutual
def wE : E → AEnv → (AV → AEnv → Prop) → XQ → Prop
  | .var i, env, Q, _ => match getE env i with
    | some (.d x) => Q (.d x) env
    | some (.o _) => Q (.b i) env
    | _ => False
  | .int i, env, Q, _ => Q (.d (.int i)) env
  | .bool b, env, Q, _ => Q (.d (.bool b)) env
  | .none, env, Q, _ => Q (.d .none) env
  | .str s, env, Q, _ => Q (.d (.str s)) env
  | .glob _ v, env, Q, _ => Q (.d v) env
  | .bin op a b, env, Q, X => wE a env (fun x env1 => wE b env1 (fun y env2 => rdK env2 x fun dx => rdK env2 y fun dy => binK op dx dy fun r => Q r env2) X) X
  | .neg a, env, Q, X => wE a env (fun x env1 => match x with | .d (.int i) => Q (.d (.int (-i))) env1 | _ => False) X
  | .rep a n, env, Q, X => wE a env (fun x env1 => wE n env1 (fun y env2 => match x, y with | .o ds, .d (.int n) => (-(2 ^ 63) ≤ n ∧ n < 2 ^ 63 ∧ ds.length * n.toNat ≤ sizeLine) ∧ Q (.o (List.replicate n.toNat ds).flatten) env2 | _, _ => False) X) X
  | .not a, env, Q, X => wE a env (fun x env1 => truthK env1 x fun b => Q (.d (.bool (!b))) env1) X
  | .and a b, env, Q, X => wE a env (fun x env1 => truthK env1 x fun t => if t = true then wE b env1 Q X else Q x env1) X
  | .or a b, env, Q, X => wE a env (fun x env1 => truthK env1 x fun t => if t = true then Q x env1 else wE b env1 Q X) X
  | .cmp op a b, env, Q, X => wE a env (fun x env1 => wE b env1 (fun y env2 => rdK env2 x fun dx => rdK env2 y fun dy => cmpK op dx dy fun r => Q (.d (.bool r)) env2) X) X
  | .chain o1 o2 a b c, env, Q, X => wE a env (fun x env1 => wE b env1 (fun y env2 => rdK env2 x fun dx => rdK env2 y fun dy => cmpK o1 dx dy fun r =>
      if r = true then wE c env2 (fun z env3 => rdK env3 y fun dy => rdK env3 z fun dz => cmpK o2 dy dz fun r2 => Q (.d (.bool r2)) env3) X else Q (.d (.bool false)) env2) X) X
  | .ife c a b, env, Q, X => wE c env (fun x env1 => truthK env1 x fun t => if t = true then wE a env1 Q X else wE b env1 Q X) X
  | .tup es, env, Q, X => wEs es env (fun vs env1 => datasK vs fun ds => Q (.d (.tuple ds)) env1) X
  | .lst es, env, Q, X => wEs es env (fun vs env1 => datasK vs fun ds => Q (.o ds) env1) X
  | .ix a i, env, Q, X => wE a env (fun x env1 => wE i env1 (fun y env2 => rdK env2 x fun dx => rdK env2 y fun dy => ixK dx dy fun z => Q (.d z) env2) X) X
  | .slL a lo, env, Q, X => wE a env (fun x env1 => wE lo env1 (fun y env2 => match y with | .d (.int i) => rdK env2 x fun dx => slK dx (some i) Option.none fun r => Q r env2 | _ => False) X) X
  | .slU a hi, env, Q, X => wE a env (fun x env1 => wE hi env1 (fun y env2 => match y with | .d (.int i) => rdK env2 x fun dx => slK dx Option.none (some i) fun r => Q r env2 | _ => False) X) X
  | .slLU a lo hi, env, Q, X => wE a env (fun x env1 => wE lo env1 (fun y env2 => match y with | .d (.int i) => wE hi env2 (fun z env3 => match z with | .d (.int j) => rdK env3 x fun dx => slK dx (some i) (some j) fun r => Q r env3 | _ => False) X | _ => False) X) X
  | .slRev a, env, Q, X => wE a env (fun x env1 => rdK env1 x fun dx => match dx with | .list xs => Q (.o xs.reverse) env1 | _ => False) X
  | .call _ sp es, env, Q, X => wEs es env (fun vs env1 => callK sp vs env1 Q X) X
  | .callK _ sp ps ks es, env, Q, X => wEs es env (fun vs env1 => match reorder ps ks vs with | some us => callK sp us env1 Q X | Option.none => False) X
  | .callO _ sp a, env, Q, X => wE a env (fun v env1 => match v with | .o ds => sp.run [.o ds] (fun r _ => match r with | .d x => Q (.d x) env1 | _ => False) (fun c => X c env1) | _ => False) X
  | .mkE c s, env, Q, _ => Q (.d (objM c s)) env
  | .un f a, env, Q, X => wE a env (fun v env1 => rdK env1 v fun x => unK f x fun y => Q (.d y) env1) X
  | .mkA c f _ e, env, Q, X => wE e env (fun v env1 => dataK v fun x => Q (.d (objA c f x)) env1) X
  | .ixS a i, env, Q, X => wE a env (fun x env1 => wE i env1 (fun y env2 => rdK env2 x fun dx => rdK env2 y fun dy => ixSK dx dy fun z => Q (.d z) env2) X) X
  | .din neg j ke, env, Q, X => wE ke env (fun v env1 => rdK env1 v fun x => keyK x fun ks => match getE env1 j with
      | some (.m kvs) => Q (.d (.bool (if neg = true then !hasKy kvs ks else hasKy kvs ks))) env1
      | _ => False) X
  | .dkeys j, env, Q, _ => match getE env j with
      | some (.m kvs) => Q (.o (kvs.map fun kv => kyD kv.1)) env
      | _ => False
  | .dsort j, env, Q, _ => match getE env j with
      | some (.m kvs) => match kysI (kvs.map (·.1)) with
        | some nss => (∀ ns ∈ nss, ns ≠ []) ∧ ∀ nss' : List (List Int), nss'.Perm nss → SrtO.Srtd SG.ltL nss' → Q (.o (nss'.map tupD)) env
        | Option.none => False
      | _ => False
  | .callM _ sp es, env, Q, X => wEs es env (fun vs env1 => callMK sp vs env1 Q X) X
  | .callR _ sp es, env, Q, X => wEs es env (fun vs env1 => rdsK env1 vs fun ds => callRK sp ds env1 Q X) X
  | .bi f es, env, Q, X => wEs es env (fun vs env1 => rdsK env1 vs fun ds => biK f ds fun r => Q r env1) X
  | .ixOf a b, env, Q, X => wE a env (fun x env1 => lstK x fun ds => wE b env1 (fun y env2 => rdK env2 y fun dy => ixOfK (.list ds) dy fun j => Q (.d (.int (j : Nat))) env2) X) X
  | .ssort a, env, Q, X => wE a env (fun x env1 => rdK env1 x fun dx => ssK dx fun ns => Q (.o (ns.map .int)) env1) X
  | .instC a _ ts, env, Q, X => wE a env (fun x env1 => rdK env1 x fun dx => insK dx ts fun b => Q (.d (.bool b)) env1) X
  | .inst a ts, env, Q, X => wE a env (fun x env1 => rdK env1 x fun dx => Q (.d (.bool (isTy dx ts))) env1) X
  | .lrg1 a, env, Q, X => wE a env (fun v env1 => match v with | .d (.int n) => rangeK 0 n fun xs => Q (.o xs) env1 | _ => False) X
  | .lrg2 a b, env, Q, X => wE a env (fun v env1 => wE b env1 (fun u env2 => match v, u with | .d (.int m), .d (.int n) => rangeK m n fun xs => Q (.o xs) env2 | _, _ => False) X) X
  | .lrg3 a b c, env, Q, X => wE a env (fun v env1 => wE b env1 (fun u env2 => wE c env2 (fun t env3 => match v, u, t with | .d (.int m), .d (.int n), .d (.int s) => rangeCK m n s fun xs => Q (.o xs) env3 | _, _, _ => False) X) X) X
  | .pop j i, env, Q, X => match getE env j with
    | some (.o _) => wE i env (fun t env1 => match t, getE env1 j with
      | .d (.int n), some (.o ds) => popK ds n fun x ds' => Q (.d x) (setE env1 j (some (.o ds')))
      | _, _ => False) X
    | _ => False
  | .comp elt cond c tg it own, env, Q, X => wIt it env (fun items env1 => noOwn env1 own ∧ compW cond (fun e q => wE c e q X) (fun e q => wE elt e q X) tg own items env1 [] fun ds env2 => Q (.o ds) (backE env1 env2 own)) X
def wEs : Es → AEnv → (List AV → AEnv → Prop) → XQ → Prop
  | .nil, env, Q, _ => Q [] env
  | .cons e es, env, Q, X => wE e env (fun v env1 => wEs es env1 (fun vs env2 => Q (v :: vs) env2) X) X
def wIt : It → AEnv → (List PyData → AEnv → Prop) → XQ → Prop
  | .seq e, env, Q, X => wE e env (fun v env1 => seqK v fun xs => Q xs env1) X
  | .range1 a, env, Q, X => wE a env (fun v env1 => match v with | .d (.int n) => rangeK 0 n fun xs => Q xs env1 | _ => False) X
  | .range2 a b, env, Q, X => wE a env (fun v env1 => wE b env1 (fun u env2 => match v, u with | .d (.int m), .d (.int n) => rangeK m n fun xs => Q xs env2 | _, _ => False) X) X
  | .range3 a b c, env, Q, X => wE a env (fun v env1 => wE b env1 (fun u env2 => wE c env2 (fun t env3 => match v, u, t with | .d (.int m), .d (.int n), .d (.int s) => rangeCK m n s fun xs => Q xs env3 | _, _, _ => False) X) X) X
  | .enum e, env, Q, X => wE e env (fun v env1 => lstK v fun xs => Q (enumL 0 xs) env1) X
  | .zip3 a b c, env, Q, X => wE a env (fun v env1 => wE b env1 (fun u env2 => wE c env2 (fun t env3 => seqK v fun xs => seqK u fun ys => seqK t fun zs => Q (zipL3 xs ys zs) env3) X) X) X
  | .zip a b, env, Q, X => wE a env (fun v env1 => wE b env1 (fun u env2 => seqK v fun xs => seqK u fun ys => Q (zipL xs ys) env2) X) X
end

/-- what may raise lends no list -/
def wR (X : XQ) : RE → AEnv → (AV → AEnv → Prop) → Prop
  | .e a, env, Q => wE a env Q X0
  | .call _ sp es, env, Q => wEs es env (fun vs env1 => lent vs = [] ∧ callK sp vs env1 Q X) X0
  | .callK _ sp ps ks es, env, Q => wEs es env (fun vs env1 => match reorder ps ks vs with | some us => lent us = [] ∧ callK sp us env1 Q X | Option.none => False) X0
  | .ife c a b, env, Q => wE c env (fun x env1 => truthK env1 x fun t => if t = true then wR X a env1 Q else wR X b env1 Q) X0
mutual
def wS (X : XQ) : S → AEnv → AEnds → Prop
  | .asg i e, env, D => wE e env (fun v env1 => match v with | .b _ => False | .p _ _ => False | .m _ => False | v => D.nx (setE env1 i (some v))) X0
  | .asgF i e, env, D => wE e env (fun v env1 => dataK v fun x => D.nx (setE env1 i (some (.d x)))) X0
  | .par is es, env, D => wEs es env (fun vs env1 => datasK vs fun xs => xs.length = is.length ∧ D.nx (setMany is xs env1)) X0
  | .parN is es js, env, D => wEs es env (fun vs env1 => datasK vs fun xs => xs.length = is.length ∧ D.nx (setNils js (setMany is xs env1))) X0
  | .parF i j a b, env, D => wE a env (fun v env1 => wE b env1 (fun u env2 => dataK u fun y => match v with
      | .b _ => False
      | .p _ _ => False
      | .m _ => False
      | v => D.nx (setE (setE env2 i (some v)) j (some (.d y)))) X0) X0
  | .parI i j a b, env, D => wE a env (fun v0 env0 => dataK v0 fun x0 => wE b env0 (fun v env1 => match v with
      | .b _ => False
      | .p _ _ => False
      | .m _ => False
      | v => D.nx (setE (setE env1 j (some v)) i (some (.d x0)))) X0) X0
  | .parG i j l a b c, env, D => wE a env (fun v0 env0 => dataK v0 fun x0 => wE b env0 (fun v env1 => wE c env1 (fun u env2 => dataK u fun y => match v with
      | .b _ => False
      | .p _ _ => False
      | .m _ => False
      | v => D.nx (setE (setE (setE env2 j (some v)) i (some (.d x0))) l (some (.d y)))) X0) X0) X0
  | .parH i j l a b c, env, D => wE a env (fun v0 env0 => dataK v0 fun x0 => wE b env0 (fun v1 env1 => dataK v1 fun x1 => wE c env1 (fun v env2 => match v with
      | .b _ => False
      | .p _ _ => False
      | .m _ => False
      | v => D.nx (setE (setE (setE env2 l (some v)) i (some (.d x0))) j (some (.d x1)))) X0) X0) X0
  | .unp is e, env, D => wE e env (fun v env1 => match v with | .d x => tgK (.tp is) x env1 D.nx | _ => False) X0
  | .unpP i j e, env, D => wE e env (fun v env1 => match v with | .p ds x => D.nx (setE (setE env1 i (some (.o ds))) j (some (.d x))) | _ => False) X0
  | .retP j e, env, D => match getE env j with
      | some (.o _) => wE e env (fun v env1 => dataK v fun x => match getE env1 j with
        | some (.o ds) => D.rt (.p ds x) (setE env1 j Option.none)
        | _ => False) X0
      | _ => False
  | .setIx j i e, env, D => wE e env (fun v env1 => dataK v fun x => match getE env1 j with
      | some (.o _) => wE i env1 (fun w env2 => match w, getE env2 j with
        | .d (.int n), some (.o ds) => (0 ≤ n ∧ n < ds.length) ∧ D.nx (setE env2 j (some (.o (ds.set n.toNat x))))
        | _, _ => False) X0
      | _ => False) X0
  | .aug i op e, env, D => match getE env i with
      | some (.d x) => wE e env (fun v env1 => match v with | .d y => binK op x y (fun r => match r with | .d (.int z) => D.nx (setE env1 i (some (.d (.int z)))) | _ => False) | _ => False) X0
      | _ => False
  | .append j e, env, D => match getE env j with
      | some (.o _) => wE e env (fun v env1 => dataK v fun x => match getE env1 j with
        | some (.o ds) => ds.length < sizeLine ∧ D.nx (setE env1 j (some (.o (ds ++ [x]))))
        | _ => False) X0
      | _ => False
  | .insert j i e, env, D => match getE env j with
      | some (.o _) => wE i env (fun w env1 => wE e env1 (fun v env2 => dataK v fun x => match w, getE env2 j with
        | .d (.int n), some (.o ds) => (0 ≤ n ∧ n < 2 ^ 63 ∧ ds.length < sizeLine) ∧ D.nx (setE env2 j (some (.o (ds.take n.toNat ++ x :: ds.drop n.toNat))))
        | _, _ => False) X0) X0
      | _ => False
  | .expr e, env, D => wE e env (fun _ env1 => D.nx env1) X0
  | .ret e, env, D => wE e env (fun v env1 => D.rt v env1) X0
  | .retN, env, D => D.rt (.d .none) env
  | .ite c a b, env, D => wE c env (fun v env1 => truthK env1 v fun t => if t = true then wSs X a env1 D else wSs X b env1 D) X0
  | .forS tg it body, env, D => wIt it env (fun items env1 => forW (fun e D' => wSs X body e D') tg D items env1) X0
  | .whl c body, env, D => whileW (fun e q => wE c e q X0) (fun e D' => wSs X body e D') D env
  | .pass, env, D => D.nx env
  | .brk, env, D => D.bk env
  | .cont, env, D => D.ct env
  | .raise _, _, _ => False
  | .raiseX c _, env, _ => X c env
  | .rexpr r, env, D => wR X r env fun _ env1 => D.nx env1
  | .rret r, env, D => wR X r env fun v env1 => D.rt v env1
  | .tryC body _ cs i j, env, D => wSs (fun c env1 => c ∈ cs ∧ i < env1.length ∧ D.nx (setE (setE env1 i Option.none) j (some (.d (objD c))))) body env D
  | .frz j, env, D => match getE env j with
      | some (.o ds) => D.nx (setE env j (some (.d (.list ds))))
      | _ => False
  | .dnewP j e, env, D => wE e env (fun v env1 => rdK env1 v fun x => pairsK x fun kvs => D.nx (setE env1 j (some (.m kvs)))) X0
  | .dnew j ke ve, env, D => wE ke env (fun v env1 => wE ve env1 (fun u env2 => rdK env2 v fun x => keyK x fun ks => dataK u fun y => flatD y = true ∧ D.nx (setE env2 j (some (.m [(ks, y)])))) X0) X0
  | .dset j ke ve, env, D => wE ve env (fun u env1 => dataK u fun y => match getE env1 j with
      | some (.m _) => wE ke env1 (fun v env2 => rdK env2 v fun x => keyK x fun ks => match getE env2 j with
        | some (.m kvs) => (kvs.length < sizeLine ∧ flatD y = true) ∧ D.nx (setE env2 j (some (.m (putKy kvs ks y))))
        | _ => False) X0
      | _ => False) X0
def wSs (X : XQ) : Ss → AEnv → AEnds → Prop
  | .nil, env, D => D.nx env
  | .cons s ss, env, D => wS X s env { D with nx := fun env1 => wSs X ss env1 D }
end
end PF

set_option maxRecDepth 100000
set_option maxHeartbeats 4000000
namespace PF
open PySem
theorem rdK_mono {env : AEnv} {v : AV} {k k' : PyData → Prop} (h : ∀ x, k x → k' x) (q : rdK env v k) : rdK env v k' := by
  unfold rdK at q ⊢
  split at q
  · exact h _ q
  · exact h _ q
  · split at q
    · exact h _ q
    · exact q
  · exact h _ q
  · exact q
def rdV (env : AEnv) : AV → Option PyData
  | .d x => some x
  | .o ds => some (.list ds)
  | .b j => match getE env j with
    | some (.o ds) => some (.list ds)
    | _ => Option.none
  | .p ds x => some (.tuple [.list ds, x])
  | .m _ => Option.none
theorem rdK_iff {env : AEnv} {v : AV} {k : PyData → Prop} : rdK env v k ↔ ∃ x, rdV env v = some x ∧ k x := by
  cases v with
  | d x => exact ⟨fun h => ⟨x, rfl, h⟩, fun ⟨y, e, h⟩ => by cases e; exact h⟩
  | o x => exact ⟨fun h => ⟨_, rfl, h⟩, fun ⟨y, e, h⟩ => by cases e; exact h⟩
  | p ds x => exact ⟨fun h => ⟨_, rfl, h⟩, fun ⟨y, e, h⟩ => by cases e; exact h⟩
  | m _ => exact ⟨fun h => h.elim, fun ⟨y, e, h⟩ => by cases e⟩
  | b j =>
    unfold rdK rdV
    simp only
    generalize getE env j = g
    match g with
    | some (.o ds) => exact ⟨fun h => ⟨_, rfl, h⟩, fun ⟨y, e, h⟩ => by cases e; exact h⟩
    | some (.d x) => exact ⟨fun h => h.elim, fun ⟨y, e, h⟩ => by cases e⟩
    | some (.b x) => exact ⟨fun h => h.elim, fun ⟨y, e, h⟩ => by cases e⟩
    | some (.p _ _) => exact ⟨fun h => h.elim, fun ⟨y, e, h⟩ => by cases e⟩
    | some (.m _) => exact ⟨fun h => h.elim, fun ⟨y, e, h⟩ => by cases e⟩
    | Option.none => exact ⟨fun h => h.elim, fun ⟨y, e, h⟩ => by cases e⟩
theorem truthK_iff {env : AEnv} {v : AV} {k : Bool → Prop} : truthK env v k ↔ ∃ b, (rdV env v).bind truth = some b ∧ k b := by
  unfold truthK
  rw [rdK_iff]
  constructor
  · rintro ⟨x, e, h⟩
    cases ht : truth x with
    | none => rw [ht] at h; exact h.elim
    | some b => rw [ht] at h; exact ⟨b, by rw [e]; exact ht, h⟩
  · rintro ⟨b, e, h⟩
    cases hr : rdV env v with
    | none => rw [hr] at e; cases e
    | some x =>
      rw [hr] at e
      have e : truth x = some b := e
      exact ⟨x, rfl, by rw [e]; exact h⟩
theorem dataK_mono {v : AV} {k k' : PyData → Prop} (h : ∀ x, k x → k' x) (q : dataK v k) : dataK v k' := by
  unfold dataK at q ⊢
  split at q
  · exact h _ q
  · exact h _ q
  · exact q
  · exact h _ q
  · exact q
theorem datasK_mono : ∀ {vs : List AV} {k k' : List PyData → Prop}, (∀ x, k x → k' x) → datasK vs k → datasK vs k'
  | [], _, _, h, q => h _ q
  | v :: vs, _, _, h, q => dataK_mono (fun x q => datasK_mono (fun xs q => h _ q) q) q
theorem rdsK_mono {env : AEnv} : ∀ {vs : List AV} {k k' : List PyData → Prop}, (∀ x, k x → k' x) → rdsK env vs k → rdsK env vs k'
  | [], _, _, h, q => h _ q
  | v :: vs, _, _, h, q => rdK_mono (fun x q => rdsK_mono (fun xs q => h _ q) q) q
theorem truthK_mono {env : AEnv} {v : AV} {k k' : Bool → Prop} (h : ∀ x, k x → k' x) (q : truthK env v k) : truthK env v k' :=
  rdK_mono (fun x q => by
    split at q
    · exact h _ q
    · exact q) q
theorem binK_mono {op : BOp} {x y : PyData} {k k' : AV → Prop} (h : ∀ r, k r → k' r) (q : binK op x y k) : binK op x y k' := by
  unfold binK at q ⊢
  split at q <;> first | exact h _ q | exact ⟨q.1, h _ q.2⟩ | exact q
theorem cmpK_mono {op : COp} {x y : PyData} {k k' : Bool → Prop} (h : ∀ r, k r → k' r) (q : cmpK op x y k) : cmpK op x y k' := by
  unfold cmpK at q ⊢
  split at q <;> (try split at q) <;> (try split at q) <;> first | exact h _ q | exact ⟨q.1, q.2.1, h _ q.2.2⟩ | exact q
theorem ixK_mono {x y : PyData} {k k' : PyData → Prop} (h : ∀ r, k r → k' r) (q : ixK x y k) : ixK x y k' := by
  unfold ixK at q ⊢
  split at q <;> (try split at q) <;> first | exact h _ q | exact q
theorem slK_mono {x : PyData} {lo hi : Option Int} {k k' : AV → Prop} (h : ∀ r, k r → k' r) (q : slK x lo hi k) : slK x lo hi k' := by
  unfold slK at q ⊢
  split at q <;> first | exact h _ q | exact q
theorem sortK_mono {a : List PyData} {k k' : AV → Prop} (h : ∀ r, k r → k' r) (q : sortK a k) : sortK a k' := by
  unfold sortK at q ⊢
  split at q
  · exact fun ns a b => h _ (q ns a b)
  · split at q
    · exact ⟨q.1, fun ns a b => h _ (q.2 ns a b)⟩
    · exact q
theorem ssK_mono {x : PyData} {k k' : List Int → Prop} (h : ∀ r, k r → k' r) (q : ssK x k) : ssK x k' := by
  unfold ssK at q ⊢
  split at q
  · split at q
    · exact ⟨q.1, fun ns' a b => h _ (q.2 ns' a b)⟩
    · exact q
  · exact q
theorem ixOfK_mono {x y : PyData} {k k' : Nat → Prop} (h : ∀ r, k r → k' r) (q : ixOfK x y k) : ixOfK x y k' := by
  unfold ixOfK at q ⊢
  split at q
  · refine ⟨q.1, q.2.1, ?_⟩
    have q := q.2.2
    split at q
    · exact h _ q
    · exact q
  · exact q
theorem biK_mono {f : BI} {xs : List PyData} {k k' : AV → Prop} (h : ∀ r, k r → k' r) (q : biK f xs k) : biK f xs k' := by
  unfold biK at q ⊢
  split at q <;> first | exact h _ q | exact ⟨q.1, h _ q.2⟩ | exact sortK_mono h q | (split at q <;> first | exact h _ q | exact ⟨q.1, fun m h1 h2 => h _ (q.2 m h1 h2)⟩ | exact fun m h1 h2 => h _ (q m h1 h2) | exact q) | exact q
theorem tgK_mono {tg : Tg} {x : PyData} {env : AEnv} {k k' : AEnv → Prop} (h : ∀ r, k r → k' r) (q : tgK tg x env k) : tgK tg x env k' := by
  unfold tgK at q ⊢
  split at q
  · exact h _ q
  · split at q
    · exact ⟨q.1, h _ q.2⟩
    · exact ⟨q.1, h _ q.2⟩
    · exact q
theorem seqK_mono {v : AV} {k k' : List PyData → Prop} (h : ∀ xs, k xs → k' xs) (q : seqK v k) : seqK v k' := by
  unfold seqK at q ⊢
  split at q <;> first | exact h _ q | exact q
theorem lstK_mono {v : AV} {k k' : List PyData → Prop} (h : ∀ xs, k xs → k' xs) (q : lstK v k) : lstK v k' := by
  unfold lstK at q ⊢
  split at q <;> first | exact h _ q | exact q
theorem lendK_mono {env : AEnv} : ∀ {vs : List AV} {k k' : List AV → Prop}, (∀ x, k x → k' x) → lendK env vs k → lendK env vs k'
  | [], _, _, h, q => h _ q
  | .d x :: r, _, _, h, q => lendK_mono (vs := r) (fun as q => h _ q) q
  | .o ds :: r, _, _, h, q => lendK_mono (vs := r) (fun as q => h _ q) q
  | .b j :: r, _, _, h, q => by
    unfold lendK at q ⊢
    split at q
    · exact lendK_mono (fun as q => h _ q) q
    · exact q
  | .p ds x :: r, _, _, h, q => lendK_mono (vs := r) (fun as q => h _ q) q
  | .m _ :: _, _, _, _, q => q
theorem callK_mono {sp : ASp} {vs : List AV} {env : AEnv} {Q Q' : AV → AEnv → Prop} {X : XQ} (h : ∀ r e, Q r e → Q' r e) (q : callK sp vs env Q X) : callK sp vs env Q' X :=
  ⟨q.1, lendK_mono (fun as q => sp.mono _ _ _ _ _ (fun r as z => h _ _ z) (fun _ z => z) q) q.2⟩
theorem rdmK_mono {env : AEnv} {j : Nat} : ∀ {vs : List AV} {k k' : List PyData → Prop}, (∀ x, k x → k' x) → rdmK env j vs k → rdmK env j vs k'
  | [], _, _, h, q => h _ q
  | .d x :: r, _, _, h, q => rdmK_mono (vs := r) (fun xs q => h _ q) q
  | .b m :: r, _, _, h, q => by
    unfold rdmK at q ⊢
    refine ⟨q.1, ?_⟩
    have q := q.2
    split at q
    · exact rdmK_mono (fun xs q => h _ q) q
    · exact q
  | .o _ :: _, _, _, _, q => q
  | .p _ _ :: _, _, _, _, q => q
  | .m _ :: _, _, _, _, q => q
theorem callMK_mono {sp : ASp} {vs : List AV} {env : AEnv} {Q Q' : AV → AEnv → Prop} {X : XQ} (h : ∀ r e, Q r e → Q' r e) (q : callMK sp vs env Q X) : callMK sp vs env Q' X := by
  unfold callMK at q ⊢
  split at q
  · split at q
    · refine rdmK_mono (fun ds q => sp.mono _ _ _ _ _ (fun r as' z => ?_) (fun _ z => z) q) q
      split at z
      · exact ⟨z.1, h _ _ z.2⟩
      · exact z
    · exact q
  · exact q
theorem callRK_mono {sp : ASp} {ds : List PyData} {env : AEnv} {Q Q' : AV → AEnv → Prop} {X : XQ} (h : ∀ r e, Q r e → Q' r e) (q : callRK sp ds env Q X) : callRK sp ds env Q' X :=
  sp.mono _ _ _ _ _ (fun r _ z => by
    split at z
    · exact ⟨z.1, h _ _ z.2⟩
    · exact ⟨z.1, h _ _ z.2⟩
    · exact z) (fun _ z => z) q
theorem pairsK_mono {x : PyData} {k k' : List (Ky × PyData) → Prop} (h : ∀ r, k r → k' r) (q : pairsK x k) : pairsK x k' := by
  unfold pairsK at q ⊢
  split at q
  · split at q
    · exact ⟨q.1, h _ q.2⟩
    · exact q
  · exact q
theorem compW_mono {cond : Option Unit} {ec ee : AEnv → (AV → AEnv → Prop) → Prop} {tg : Tg} {own : List (Str × Nat)} (hc : ∀ env Q Q', (∀ r e, Q r e → Q' r e) → ec env Q → ec env Q') (he : ∀ env Q Q', (∀ r e, Q r e → Q' r e) → ee env Q → ee env Q') :
    ∀ {items : List PyData} {env : AEnv} {acc : List PyData} {Q Q' : List PyData → AEnv → Prop}, (∀ r e, Q r e → Q' r e) → compW cond ec ee tg own items env acc Q → compW cond ec ee tg own items env acc Q'
  | [], _, _, _, _, h, q => h _ _ q
  | x :: xs, env, acc, Q, Q', h, q => by
    refine tgK_mono (fun env1 q => ?_) q
    cases cond with
    | none => exact he _ _ _ (fun v e3 q => dataK_mono (fun y q => compW_mono hc he h q) q) q
    | some u =>
      refine hc _ _ _ (fun c e2 q => truthK_mono (fun b q => ?_) q) q
      cases b with
      | true =>
        rw [if_pos rfl] at q ⊢
        exact he _ _ _ (fun v e3 q => dataK_mono (fun y q => compW_mono hc he h q) q) q
      | false =>
        rw [if_neg Bool.false_ne_true] at q ⊢
        exact compW_mono hc he h q
theorem ite_mono {b : Bool} {A A' B B' : Prop} (h1 : A → A') (h2 : B → B') (q : if b = true then A else B) : if b = true then A' else B' := by
  cases b with
  | true => rw [if_pos rfl] at q ⊢; exact h1 q
  | false => rw [if_neg Bool.false_ne_true] at q ⊢; exact h2 q
theorem popK_mono {ds : List PyData} {n : Int} {k k' : PyData → List PyData → Prop} (h : ∀ x y, k x y → k' x y) (q : popK ds n k) : popK ds n k' := by
  unfold popK at q ⊢
  refine ⟨q.1, ?_⟩
  have q2 := q.2
  split at q2
  · exact h _ _ q2
  · exact q2
theorem keyK_mono {x : PyData} {k k' : Ky → Prop} (h : ∀ ks, k ks → k' ks) (q : keyK x k) : keyK x k' := by
  unfold keyK at q ⊢
  split at q
  · split at q
    · exact h _ q
    · exact q
  · exact q
theorem insK_mono {x : PyData} {ts : List (Str × Bool)} {k k' : Bool → Prop} (h : ∀ b, k b → k' b) (q : insK x ts k) : insK x ts k' := by
  unfold insK at q ⊢
  split at q
  · exact h _ q
  · split at q
    · exact h _ q
    · exact q
  · split at q
    · exact h _ q
    · exact q
  · exact q
theorem unK_mono {f : UN} {x : PyData} {k k' : PyData → Prop} (h : ∀ b, k b → k' b) (q : unK f x k) : unK f x k' := by
  unfold unK at q ⊢
  cases f with
  | att f =>
    dsimp only at q ⊢
    split at q
    · exact ⟨q.1, h _ q.2⟩
    · exact q
  | instV =>
    dsimp only at q ⊢
    split at q
    · exact h _ q
    · exact q
  | join =>
    dsimp only at q ⊢
    split at q
    · split at q
      · exact ⟨q.1, fun s => h _ (q.2 s)⟩
      · exact q
    · exact q
  | lenS =>
    dsimp only at q ⊢
    split at q
    · exact ⟨q.1, h _ q.2⟩
    · exact q
  | mkV c =>
    dsimp only at q ⊢
    split at q
    · exact h _ q
    · exact q
theorem ixSK_mono {x y : PyData} {k k' : PyData → Prop} (h : ∀ b, k b → k' b) (q : ixSK x y k) : ixSK x y k' := by
  unfold ixSK at q ⊢
  split at q
  · exact ⟨q.1, fun c hc => h _ (q.2 c hc)⟩
  · exact q
mutual
theorem wE_mono : ∀ (e : E) {env : AEnv} {Q Q' : AV → AEnv → Prop} {X : XQ}, (∀ r e, Q r e → Q' r e) → wE e env Q X → wE e env Q' X
  | .var i, env, Q, Q', X, h, q => by
    unfold wE at q ⊢
    split at q <;> first | exact h _ _ q | exact q
  | .int _, _, _, _, _, h, q => h _ _ q
  | .bool _, _, _, _, _, h, q => h _ _ q
  | .none, _, _, _, _, h, q => h _ _ q
  | .str _, _, _, _, _, h, q => h _ _ q
  | .glob _ _, _, _, _, _, h, q => h _ _ q
  | .bin op a b, _, _, _, _, h, q => wE_mono a (fun _ _ q => wE_mono b (fun _ _ q => rdK_mono (fun _ q => rdK_mono (fun _ q => binK_mono (fun _ q => h _ _ q) q) q) q) q) q
  | .neg a, _, _, _, _, h, q => wE_mono a (fun _ _ q => by
      split at q
      · exact h _ _ q
      · exact q) q
  | .rep a n, _, _, _, _, h, q => wE_mono a (fun _ _ q => wE_mono n (fun _ _ q => by
      split at q
      · exact ⟨q.1, h _ _ q.2⟩
      · exact q) q) q
  | .not a, _, _, _, _, h, q => wE_mono a (fun _ _ q => truthK_mono (fun _ q => h _ _ q) q) q
  | .and a b, _, _, _, _, h, q => wE_mono a (fun _ _ q => truthK_mono (fun _ q => ite_mono (fun q => wE_mono b h q) (fun q => h _ _ q) q) q) q
  | .or a b, _, _, _, _, h, q => wE_mono a (fun _ _ q => truthK_mono (fun _ q => ite_mono (fun q => h _ _ q) (fun q => wE_mono b h q) q) q) q
  | .cmp op a b, _, _, _, _, h, q => wE_mono a (fun _ _ q => wE_mono b (fun _ _ q => rdK_mono (fun _ q => rdK_mono (fun _ q => cmpK_mono (fun _ q => h _ _ q) q) q) q) q) q
  | .chain o1 o2 a b c, _, _, _, _, h, q => wE_mono a (fun _ _ q => wE_mono b (fun _ _ q => rdK_mono (fun _ q => rdK_mono (fun _ q => cmpK_mono (fun _ q => ite_mono (fun q => wE_mono c (fun _ _ q => rdK_mono (fun _ q => rdK_mono (fun _ q => cmpK_mono (fun _ q => h _ _ q) q) q) q) q) (fun q => h _ _ q) q) q) q) q) q) q
  | .ife c a b, _, _, _, _, h, q => wE_mono c (fun _ _ q => truthK_mono (fun _ q => ite_mono (fun q => wE_mono a h q) (fun q => wE_mono b h q) q) q) q
  | .tup es, _, _, _, _, h, q => wEs_mono es (fun _ _ q => datasK_mono (fun _ q => h _ _ q) q) q
  | .lst es, _, _, _, _, h, q => wEs_mono es (fun _ _ q => datasK_mono (fun _ q => h _ _ q) q) q
  | .ix a i, _, _, _, _, h, q => wE_mono a (fun _ _ q => wE_mono i (fun _ _ q => rdK_mono (fun _ q => rdK_mono (fun _ q => ixK_mono (fun _ q => h _ _ q) q) q) q) q) q
  | .slL a lo, _, _, _, _, h, q => wE_mono a (fun _ _ q => wE_mono lo (fun _ _ q => by
      split at q
      · exact rdK_mono (fun _ q => slK_mono (fun _ q => h _ _ q) q) q
      · exact q) q) q
  | .slU a hi, _, _, _, _, h, q => wE_mono a (fun _ _ q => wE_mono hi (fun _ _ q => by
      split at q
      · exact rdK_mono (fun _ q => slK_mono (fun _ q => h _ _ q) q) q
      · exact q) q) q
  | .slLU a lo hi, _, _, _, _, h, q => wE_mono a (fun _ _ q => wE_mono lo (fun _ _ q => by
      split at q
      · refine wE_mono hi (fun _ _ q => ?_) q
        split at q
        · exact rdK_mono (fun _ q => slK_mono (fun _ q => h _ _ q) q) q
        · exact q
      · exact q) q) q
  | .slRev a, _, _, _, _, h, q => wE_mono a (fun _ _ q => rdK_mono (fun _ q => by
      split at q
      · exact h _ _ q
      · exact q) q) q
  | .call _ sp es, _, _, _, _, h, q => wEs_mono es (fun _ _ q => callK_mono h q) q
  | .callK _ sp ps ks es, _, _, _, _, h, q => wEs_mono es (fun _ _ q => by
      split at q
      · exact callK_mono h q
      · exact q) q
  | .callO _ sp a, _, _, _, _, h, q => wE_mono a (fun v _ q => by
      split at q
      · exact sp.mono _ _ _ _ _ (fun r _ z => by
          split at z
          · exact h _ _ z
          · exact z) (fun _ z => z) q
      · exact q) q
  | .mkE _ _, _, _, _, _, h, q => h _ _ q
  | .un f a, _, _, _, _, h, q => wE_mono a (fun _ _ q => rdK_mono (fun _ q => unK_mono (fun _ q => h _ _ q) q) q) q
  | .mkA _ _ _ e, _, _, _, _, h, q => wE_mono e (fun _ _ q => dataK_mono (fun _ q => h _ _ q) q) q
  | .ixS a i, _, _, _, _, h, q => wE_mono a (fun _ _ q => wE_mono i (fun _ _ q => rdK_mono (fun _ q => rdK_mono (fun _ q => ixSK_mono (fun _ q => h _ _ q) q) q) q) q) q
  | .din neg j ke, _, _, _, _, h, q => wE_mono ke (fun _ _ q => rdK_mono (fun _ q => keyK_mono (fun _ q => by
      split at q
      · exact h _ _ q
      · exact q) q) q) q
  | .dkeys j, _, _, _, _, h, q => by
    unfold wE at q ⊢
    split at q
    · exact h _ _ q
    · exact q
  | .dsort j, _, _, _, _, h, q => by
    unfold wE at q ⊢
    split at q
    · split at q
      · exact ⟨q.1, fun ks z y => h _ _ (q.2 ks z y)⟩
      · exact q
    · exact q
  | .callM _ sp es, _, _, _, _, h, q => wEs_mono es (fun _ _ q => callMK_mono h q) q
  | .callR _ sp es, _, _, _, _, h, q => wEs_mono es (fun _ _ q => rdsK_mono (fun _ q => callRK_mono h q) q) q
  | .bi f es, _, _, _, _, h, q => wEs_mono es (fun _ _ q => rdsK_mono (fun _ q => biK_mono (fun _ q => h _ _ q) q) q) q
  | .ssort a, _, _, _, _, h, q => wE_mono a (fun _ _ q => rdK_mono (fun _ q => ssK_mono (fun _ q => h _ _ q) q) q) q
  | .ixOf a b, _, _, _, _, h, q => wE_mono a (fun _ _ q => lstK_mono (fun _ q => wE_mono b (fun _ _ q => rdK_mono (fun _ q => ixOfK_mono (fun _ q => h _ _ q) q) q) q) q) q
  | .instC a c ts, _, _, _, _, h, q => wE_mono a (fun _ _ q => rdK_mono (fun _ q => insK_mono (fun _ q => h _ _ q) q) q) q
  | .inst a ts, _, _, _, _, h, q => wE_mono a (fun _ _ q => rdK_mono (fun _ q => h _ _ q) q) q
  | .lrg1 a, _, _, _, _, h, q => wE_mono a (fun _ _ q => by
      split at q
      · exact ⟨q.1, h _ _ q.2⟩
      · exact q) q
  | .lrg2 a b, _, _, _, _, h, q => wE_mono a (fun _ _ q => wE_mono b (fun _ _ q => by
      split at q
      · exact ⟨q.1, h _ _ q.2⟩
      · exact q) q) q
  | .lrg3 a b c, _, _, _, _, h, q => wE_mono a (fun _ _ q => wE_mono b (fun _ _ q => wE_mono c (fun _ _ q => by
      split at q
      · exact ⟨q.1, h _ _ q.2⟩
      · exact q) q) q) q
  | .pop j i, env, Q, Q', X, h, q => by
    unfold wE at q ⊢
    split at q
    · refine wE_mono i (fun _ _ q => ?_) q
      split at q
      · exact popK_mono (fun _ _ q => h _ _ q) q
      · exact q
    · exact q
  | .comp elt cond c tg it own, env, Q, Q', X, h, q => by
    unfold wE at q ⊢
    refine wIt_mono it (fun items e1 q => ⟨q.1, ?_⟩) q
    refine compW_mono (ec := fun e q => wE c e q X) (ee := fun e q => wE elt e q X) (fun env Q Q' h q => wE_mono c h q) (fun env Q Q' h q => wE_mono elt h q) (fun r e q => h _ _ q) q.2
theorem wEs_mono : ∀ (es : Es) {env : AEnv} {Q Q' : List AV → AEnv → Prop} {X : XQ}, (∀ r e, Q r e → Q' r e) → wEs es env Q X → wEs es env Q' X
  | .nil, _, _, _, _, h, q => h _ _ q
  | .cons e es, _, _, _, _, h, q => wE_mono e (fun _ _ q => wEs_mono es (fun _ _ q => h _ _ q) q) q
theorem wIt_mono : ∀ (it : It) {env : AEnv} {Q Q' : List PyData → AEnv → Prop} {X : XQ}, (∀ r e, Q r e → Q' r e) → wIt it env Q X → wIt it env Q' X
  | .seq e, _, _, _, _, h, q => wE_mono e (fun _ _ q => seqK_mono (fun _ q => h _ _ q) q) q
  | .range1 a, _, _, _, _, h, q => wE_mono a (fun _ _ q => by
      split at q
      · exact ⟨q.1, h _ _ q.2⟩
      · exact q) q
  | .range2 a b, _, _, _, _, h, q => wE_mono a (fun _ _ q => wE_mono b (fun _ _ q => by
      split at q
      · exact ⟨q.1, h _ _ q.2⟩
      · exact q) q) q
  | .range3 a b c, _, _, _, _, h, q => wE_mono a (fun _ _ q => wE_mono b (fun _ _ q => wE_mono c (fun _ _ q => by
      split at q
      · exact ⟨q.1, h _ _ q.2⟩
      · exact q) q) q) q
  | .enum e, _, _, _, _, h, q => wE_mono e (fun _ _ q => lstK_mono (fun _ q => h _ _ q) q) q
  | .zip3 a b c, _, _, _, _, h, q => wE_mono a (fun _ _ q => wE_mono b (fun _ _ q => wE_mono c (fun _ _ q => seqK_mono (fun _ q => seqK_mono (fun _ q => seqK_mono (fun _ q => h _ _ q) q) q) q) q) q) q
  | .zip a b, _, _, _, _, h, q => wE_mono a (fun _ _ q => wE_mono b (fun _ _ q => seqK_mono (fun _ q => seqK_mono (fun _ q => h _ _ q) q) q) q) q
end
structure AEnds.Le (D D' : AEnds) : Prop where
  nx : ∀ e, D.nx e → D'.nx e
  rt : ∀ v e, D.rt v e → D'.rt v e
  bk : ∀ e, D.bk e → D'.bk e
  ct : ∀ e, D.ct e → D'.ct e
theorem forW_mono {body body' : AEnv → AEnds → Prop} {tg : Tg} (hb : ∀ env D D', D.Le D' → body env D → body' env D') {D D' : AEnds} (h : D.Le D') : ∀ {items : List PyData} {env : AEnv}, forW body tg D items env → forW body' tg D' items env
  | [], _, q => h.nx _ q
  | x :: xs, env, q => by
    unfold forW at q ⊢
    refine tgK_mono (fun env1 q => ?_) q
    refine hb env1 { D with nx := forW body tg D xs, ct := forW body tg D xs, bk := D.nx } _ ⟨fun _ q => forW_mono hb h q, h.rt, h.nx, fun _ q => forW_mono hb h q⟩ q
theorem callK_mx {sp : ASp} {vs : List AV} {env : AEnv} {Q Q' : AV → AEnv → Prop} {X X' : XQ} (hx : ∀ c e, X c e → X' c e) (h : ∀ r e, Q r e → Q' r e) (q : callK sp vs env Q X) : callK sp vs env Q' X' :=
  ⟨q.1, lendK_mono (fun as q => sp.mono _ _ _ _ _ (fun r as' z => h _ _ z) (fun c z => hx _ _ z) q) q.2⟩
theorem wR_mx {X X' : XQ} (hx : ∀ c e, X c e → X' c e) : ∀ (r : RE) {env : AEnv} {Q Q' : AV → AEnv → Prop}, (∀ r e, Q r e → Q' r e) → wR X r env Q → wR X' r env Q'
  | .e a, _, _, _, h, q => wE_mono a h q
  | .call _ sp es, _, _, _, h, q => wEs_mono es (fun _ _ q => ⟨q.1, callK_mx hx h q.2⟩) q
  | .callK _ sp ps ks es, _, _, _, h, q => wEs_mono es (fun _ _ q => by
      split at q
      · exact ⟨q.1, callK_mx hx h q.2⟩
      · exact q) q
  | .ife c a b, _, _, _, h, q => wE_mono c (fun _ _ q => truthK_mono (fun _ q => ite_mono (fun q => wR_mx hx a h q) (fun q => wR_mx hx b h q) q) q) q
mutual
theorem wS_mx : ∀ (s : S) {X X' : XQ} {env : AEnv} {D D' : AEnds}, (∀ c e, X c e → X' c e) → D.Le D' → wS X s env D → wS X' s env D'
  | .asg i e, X, X', _, _, _, hx, h, q => wE_mono e (fun _ _ q => by
      split at q
      · exact q
      · exact q
      · exact q
      · exact h.nx _ q) q
  | .asgF i e, X, X', _, _, _, hx, h, q => wE_mono e (fun _ _ q => dataK_mono (fun _ q => h.nx _ q) q) q
  | .par is es, X, X', _, _, _, hx, h, q => wEs_mono es (fun _ _ q => datasK_mono (fun _ q => ⟨q.1, h.nx _ q.2⟩) q) q
  | .parN is es js, X, X', _, _, _, hx, h, q => wEs_mono es (fun _ _ q => datasK_mono (fun _ q => ⟨q.1, h.nx _ q.2⟩) q) q
  | .parF i j a b, X, X', _, _, _, hx, h, q => wE_mono a (fun _ _ q => wE_mono b (fun _ _ q => dataK_mono (fun _ q => by
      split at q
      · exact q
      · exact q
      · exact q
      · exact h.nx _ q) q) q) q
  | .parI i j a b, X, X', _, _, _, hx, h, q => wE_mono a (fun _ _ q => dataK_mono (fun _ q => wE_mono b (fun _ _ q => by
      split at q
      · exact q
      · exact q
      · exact q
      · exact h.nx _ q) q) q) q
  | .parG i j l a b c, X, X', _, _, _, hx, h, q => wE_mono a (fun _ _ q => dataK_mono (fun _ q => wE_mono b (fun _ _ q => wE_mono c (fun _ _ q => dataK_mono (fun _ q => by
      split at q
      · exact q
      · exact q
      · exact q
      · exact h.nx _ q) q) q) q) q) q
  | .parH i j l a b c, X, X', _, _, _, hx, h, q => wE_mono a (fun _ _ q => dataK_mono (fun _ q => wE_mono b (fun _ _ q => dataK_mono (fun _ q => wE_mono c (fun _ _ q => by
      split at q
      · exact q
      · exact q
      · exact q
      · exact h.nx _ q) q) q) q) q) q
  | .unp is e, X, X', _, _, _, hx, h, q => wE_mono e (fun _ _ q => by
      split at q
      · exact tgK_mono (fun _ q => h.nx _ q) q
      · exact q) q
  | .unpP i j e, X, X', _, _, _, hx, h, q => wE_mono e (fun _ _ q => by
      split at q
      · exact h.nx _ q
      · exact q) q
  | .retP j e, X, X', env, D, D', hx, h, q => by
    unfold wS at q ⊢
    split at q
    · refine wE_mono e (fun _ _ q => dataK_mono (fun _ q => ?_) q) q
      split at q
      · exact h.rt _ _ q
      · exact q
    · exact q
  | .setIx j i e, X, X', _, _, _, hx, h, q => wE_mono e (fun _ _ q => dataK_mono (fun _ q => by
      split at q
      · refine wE_mono i (fun _ _ q => ?_) q
        split at q
        · exact ⟨q.1, h.nx _ q.2⟩
        · exact q
      · exact q) q) q
  | .aug i op e, X, X', env, D, D', hx, h, q => by
    unfold wS at q ⊢
    split at q
    · refine wE_mono e (fun _ _ q => ?_) q
      split at q
      · refine binK_mono (fun _ q => ?_) q
        split at q
        · exact h.nx _ q
        · exact q
      · exact q
    · exact q
  | .append j e, X, X', env, D, D', hx, h, q => by
    unfold wS at q ⊢
    split at q
    · refine wE_mono e (fun _ _ q => dataK_mono (fun _ q => ?_) q) q
      split at q
      · exact ⟨q.1, h.nx _ q.2⟩
      · exact q
    · exact q
  | .insert j i e, X, X', env, D, D', hx, h, q => by
    unfold wS at q ⊢
    split at q
    · refine wE_mono i (fun _ _ q => wE_mono e (fun _ _ q => dataK_mono (fun _ q => ?_) q) q) q
      split at q
      · exact ⟨q.1, h.nx _ q.2⟩
      · exact q
    · exact q
  | .expr e, X, X', _, _, _, hx, h, q => wE_mono e (fun _ _ q => h.nx _ q) q
  | .ret e, X, X', _, _, _, hx, h, q => wE_mono e (fun _ _ q => h.rt _ _ q) q
  | .retN, X, X', _, _, _, hx, h, q => h.rt _ _ q
  | .ite c a b, X, X', _, _, _, hx, h, q => wE_mono c (fun _ _ q => truthK_mono (fun _ q => ite_mono (fun q => wSs_mx a hx h q) (fun q => wSs_mx b hx h q) q) q) q
  | .forS tg it body, X, X', env, D, D', hx, h, q => by
    unfold wS at q ⊢
    exact wIt_mono it (fun _ _ q => forW_mono (body := fun e D' => wSs X body e D') (body' := fun e D' => wSs X' body e D') (fun env D D' h q => wSs_mx body hx h q) h q) q
  | .whl c body, X, X', env, D, D', hx, h, q => by
    unfold wS whileW at q ⊢
    obtain ⟨W, w0, turn⟩ := q
    refine ⟨W, w0, fun m env w => wE_mono c (fun _ _ q => truthK_mono (fun _ q => ite_mono (fun q => ?_) (fun q => h.nx _ q) q) q) (turn m env w)⟩
    obtain ⟨N, hN, q⟩ := q
    exact ⟨N, hN, wSs_mx body (D := { D with nx := N, ct := N, bk := D.nx }) hx ⟨fun _ z => z, h.rt, h.nx, fun _ z => z⟩ q⟩
  | .pass, X, X', _, _, _, hx, h, q => h.nx _ q
  | .brk, X, X', _, _, _, hx, h, q => h.bk _ q
  | .cont, X, X', _, _, _, hx, h, q => h.ct _ q
  | .raise x, X, X', _, _, _, hx, h, q => q
  | .raiseX c _, X, X', _, _, _, hx, h, q => hx _ _ q
  | .rexpr r, X, X', _, _, _, hx, h, q => wR_mx hx r (fun _ _ q => h.nx _ q) q
  | .rret r, X, X', _, _, _, hx, h, q => wR_mx hx r (fun _ _ q => h.rt _ _ q) q
  | .tryC body c cs i j, X, X', env, D, D', hx, h, q => wSs_mx (X := fun c env1 => c ∈ cs ∧ i < env1.length ∧ D.nx (setE (setE env1 i Option.none) j (some (.d (objD c))))) (X' := fun c env1 => c ∈ cs ∧ i < env1.length ∧ D'.nx (setE (setE env1 i Option.none) j (some (.d (objD c))))) body (fun _ _ z => ⟨z.1, z.2.1, h.nx _ z.2.2⟩) h q
  | .frz j, X, X', env, D, D', hx, h, q => by
    unfold wS at q ⊢
    split at q
    · exact h.nx _ q
    · exact q
  | .dnewP j e, X, X', _, _, _, hx, h, q => wE_mono e (fun _ _ q => rdK_mono (fun _ q => pairsK_mono (fun _ q => h.nx _ q) q) q) q
  | .dnew j ke ve, X, X', _, _, _, hx, h, q => wE_mono ke (fun _ _ q => wE_mono ve (fun _ _ q => rdK_mono (fun _ q => keyK_mono (fun _ q => dataK_mono (fun _ q => ⟨q.1, h.nx _ q.2⟩) q) q) q) q) q
  | .dset j ke ve, X, X', _, _, _, hx, h, q => wE_mono ve (fun _ _ q => dataK_mono (fun _ q => by
      split at q
      · refine wE_mono ke (fun _ _ q => rdK_mono (fun _ q => keyK_mono (fun _ q => ?_) q) q) q
        split at q
        · exact ⟨q.1, h.nx _ q.2⟩
        · exact q
      · exact q) q) q
theorem wSs_mx : ∀ (ss : Ss) {X X' : XQ} {env : AEnv} {D D' : AEnds}, (∀ c e, X c e → X' c e) → D.Le D' → wSs X ss env D → wSs X' ss env D'
  | .nil, X, X', _, _, _, hx, h, q => h.nx _ q
  | .cons s ss, X, X', env, D, D', hx, h, q => wS_mx s (D := { D with nx := fun env1 => wSs X ss env1 D }) (D' := { D' with nx := fun env1 => wSs X' ss env1 D' }) hx ⟨fun _ q => wSs_mx ss hx h q, h.rt, h.bk, h.ct⟩ q
end
theorem wS_mono {X : XQ} (s : S) {env : AEnv} {D D' : AEnds} (h : D.Le D') (q : wS X s env D) : wS X s env D' := wS_mx s (fun _ _ z => z) h q
theorem wSs_mono {X : XQ} (ss : Ss) {env : AEnv} {D D' : AEnds} (h : D.Le D') (q : wSs X ss env D) : wSs X ss env D' := wSs_mx ss (fun _ _ z => z) h q
end PF

set_option maxRecDepth 100000
set_option maxHeartbeats 1000000
/-! zip of three sources -/
namespace ZG
open PySem PySem.Spec PyProof.Rows L2
section
variable {prog : Program} {w : World} {A : Around} {E : Value → Shared → Prop} {s : Shared}
abbrev zn3 (h : Heap) (t1 t2 t3 : Bool) (l1 l2 l3 : Addr) : Heap := (((((h.push (itObj t1 l1)).push (itObj t2 l2)).push (itObj t3 l3)).push { cls := .type "tuple", data := .seq #[.ref h.objs.size, .ref (h.objs.size + 1), .ref (h.objs.size + 2)] }).push { cls := .type "tuple", data := .seq #[.none, .none, .none] }).push
  { cls := .type "zip", data := .fields #[.none, .bool false, .bool false, .ref (h.objs.size + 3), .ref (h.objs.size + 4)] }
theorem new3 (t1 t2 t3 : Bool) (l1 l2 l3 : Addr) (xs ys zs : Array Value) : Meets (Builtin.«zip.__new__» ⟨[.type "zip", .ref l1, .ref l2, .ref l3], []⟩) (fun _ R s => Sr.sq ⟨t1, 0, l1⟩ s.heap xs ∧ Sr.sq ⟨t2, 0, l2⟩ s.heap ys ∧ Sr.sq ⟨t3, 0, l3⟩ s.heap zs ∧ R (.ok (.ret (.ref (s.heap.objs.size + 5)))) { s with heap := zn3 s.heap t1 t2 t3 l1 l2 l3 }) :=
  .of_wp fun prog w A R s h => by
    obtain ⟨hp, g, d, tk, os⟩ := s
    obtain ⟨a1, a2, a3, q⟩ := h
    have sub := sub_zip
    have b1 : Sr.sq ⟨t1, 0, l1⟩ (Shared.heap ⟨hp, g, d, tk, os⟩) xs := a1
    have b2 : Sr.sq ⟨t2, 0, l2⟩ (Shared.heap ⟨hp.push (itObj t1 l1), g, d, tk, os⟩) ys := a2.go fun o e => Heap.get?_push_of_some _ e
    have b3 : Sr.sq ⟨t3, 0, l3⟩ (Shared.heap ⟨(hp.push (itObj t1 l1)).push (itObj t2 l2), g, d, tk, os⟩) zs := a3.go fun o e => Heap.get?_push_of_some _ (Heap.get?_push_of_some _ e)
    wp_walk using iter_src 0 b1, iter_src 0 b2, iter_src 0 b3
    refine ⟨_, rfl, ?_⟩
    simp only [Heap.size_push]
    exact q
theorem apart3 {n l1 l2 l3 : Nat} {t1 t2 t3 : Bool} (k1 : l1 < n) (k2 : l2 < n) (k3 : l3 < n) : Apart (n + 5) (n + 3) (n + 4) [⟨t1, n, l1⟩, ⟨t2, n + 1, l2⟩, ⟨t3, n + 2, l3⟩] := by
  have no : ∀ l : Nat, l < n → l ∉ ([n + 5, n + 3, n + 4, n, n + 1, n + 2] : List Nat) := fun l h => by
    simp only [List.mem_cons, List.not_mem_nil, or_false, not_or]
    omega
  refine ⟨(show ([n + 5, n + 3, n + 4, n, n + 1, n + 2] : List Nat).Nodup from ?_), fun r hr => ?_⟩
  · simp only [List.nodup_cons, List.mem_cons, List.not_mem_nil, or_false, not_or, List.nodup_nil, and_true, not_false_eq_true]
    omega
  · simp only [List.mem_cons, List.not_mem_nil, or_false] at hr
    rcases hr with h | h | h
    · rw [h]; exact no l1 k1
    · rw [h]; exact no l2 k2
    · rw [h]; exact no l3 k3
/-- zip(a, b, c) -/
theorem call_zip3 {t1 t2 t3 : Bool} {l1 l2 l3 : Addr} {xs ys zs : Array Value} {Q : Value → Shared → Prop} (h1 : Sr.sq ⟨t1, 0, l1⟩ s.heap xs) (h2 : Sr.sq ⟨t2, 0, l2⟩ s.heap ys) (h3 : Sr.sq ⟨t3, 0, l3⟩ s.heap zs)
    (q : ∀ h' rs, rs = [⟨t1, s.heap.objs.size, l1⟩, ⟨t2, s.heap.objs.size + 1, l2⟩, ⟨t3, s.heap.objs.size + 2, l3⟩] → Apart (s.heap.objs.size + 5) (s.heap.objs.size + 3) (s.heap.objs.size + 4) rs → Zp h' (s.heap.objs.size + 5) (s.heap.objs.size + 3) (s.heap.objs.size + 4) .none → Tp h' (s.heap.objs.size + 3) (rs.map fun r => Value.ref r.i).toArray → Tp h' (s.heap.objs.size + 4) #[.none, .none, .none] →
      (∀ (j : Nat) r, rs[j]? = some r → r.at h' 0) → (∀ c o, s.heap.get? c = some o → h'.get? c = some o) → Q (.ref (s.heap.objs.size + 5)) { s with heap := h' }) :
    wpAny (model prog w) A (call (.type "zip") [.ref l1, .ref l2, .ref l3]) Q E s := by
  refine callType_new PySem.F.called_zip (by decide) (F.typeCall_zip_3 _ _ _) (F.newCall_zip_3 _ _ _) (fun obj => F.args_object_init_4 obj _ _ _) PySem.F.entry_zip_new (new3 t1 t2 t3 l1 l2 l3 xs ys zs) ⟨h1, h2, h3, ?_⟩
  have k1 : l1 < s.heap.objs.size := sq_lt h1
  have k2 : l2 < s.heap.objs.size := sq_lt h2
  have k3 : l3 < s.heap.objs.size := sq_lt h3
  have sz : ∀ (h : Heap) (o : Obj) (n : Nat), h.objs.size = n → o.isFreed = false → (h.push o).get? n = some o ∧ (h.push o).objs.size = n + 1 := fun h o n e f => ⟨by rw [← e]; exact Heap.get?_push_size _ f, by rw [Heap.size_push, e]⟩
  have ff : ∀ (t : Bool) (l : Addr), (itObj t l).isFreed = false := fun t l => by cases t <;> rfl
  obtain ⟨g1, z1⟩ := sz s.heap (itObj t1 l1) _ rfl (ff t1 l1)
  obtain ⟨g2, z2⟩ := sz _ (itObj t2 l2) _ z1 (ff t2 l2)
  obtain ⟨g3, z3⟩ := sz _ (itObj t3 l3) _ z2 (ff t3 l3)
  obtain ⟨g4, z4⟩ := sz _ { cls := .type "tuple", data := .seq #[.ref s.heap.objs.size, .ref (s.heap.objs.size + 1), .ref (s.heap.objs.size + 2)] } _ z3 rfl
  obtain ⟨g5, z5⟩ := sz _ { cls := .type "tuple", data := .seq #[.none, .none, .none] } _ z4 rfl
  obtain ⟨g6, z6⟩ := sz _ { cls := .type "zip", data := .fields #[.none, .bool false, .bool false, .ref (s.heap.objs.size + 3), .ref (s.heap.objs.size + 4)] } _ z5 rfl
  have up : ∀ {h : Heap} {c : Addr} {o p : Obj}, h.get? c = some o → (h.push p).get? c = some o := fun e => Heap.get?_push_of_some _ e
  refine ⟨⟨_, g6, rfl⟩, q _ _ rfl (apart3 k1 k2 k3) g6 (up (up g4)) (up g5) ?_ fun c o e => up (up (up (up (up (up e)))))⟩
  intro j r hr
  match j, hr with
  | 0, hr => cases hr; exact new_at (up (up (up (up (up g1)))))
  | 1, hr => cases hr; exact new_at (up (up (up (up g2))))
  | 2, hr => cases hr; exact new_at (up (up (up g3)))
  | j + 3, hr => simp at hr
end
/-- what stands at a, b and c at each turn, in new triples -/
def ItH (K : PySem.W.Frag) (t1 t2 t3 : Bool) (a b c : Addr) : It :=
  ⟨fun i H => ∃ (xs ys zs : List V) (x y z : V), SqK t1 K H a xs ∧ SqK t2 K H b ys ∧ SqK t3 K H c zs ∧ xs[i]? = some x ∧ ys[i]? = some y ∧ zs[i]? = some z,
   fun i H v H' => ∃ T x y z, v = .ref T ∧ H T = none ∧ H' = upd H T (.tup [x, y, z]) ∧ (∀ xs, SqK t1 K H a xs → xs[i]? = some x) ∧ (∀ ys, SqK t2 K H b ys → ys[i]? = some y) ∧ ∀ zs, SqK t3 K H c zs → zs[i]? = some z,
   fun i H => ∃ xs ys zs : List V, SqK t1 K H a xs ∧ SqK t2 K H b ys ∧ SqK t3 K H c zs ∧ (xs.length ≤ i ∨ ys.length ≤ i ∨ zs.length ≤ i)⟩
theorem three_of {α : Type} {vs : Array α} (h : vs.size = 3) : ∃ x y z, vs = #[x, y, z] ∧ vs[0]? = some x ∧ vs[1]? = some y ∧ vs[2]? = some z := by
  obtain ⟨l⟩ := vs
  match l, h with
  | [x, y, z], _ => exact ⟨x, y, z, rfl, rfl, rfl, rfl⟩
theorem rs3 {P : Nat → Sr → Prop} {r1 r2 r3 : Sr} (h1 : P 0 r1) (h2 : P 1 r2) (h3 : P 2 r3) : ∀ (j : Nat) r, [r1, r2, r3][j]? = some r → P j r := fun j r h => by
  match j, h with
  | 0, h => cases h; exact h1
  | 1, h => cases h; exact h2
  | 2, h => cases h; exact h3
  | j + 3, h => simp at h
def pick3 {α : Type} (a b c : α) (j : Nat) : α := if j = 0 then a else if j = 1 then b else c
theorem turn_H {P : Program} {w : World} {K : PySem.W.Frag} {elts : List Expr} {kk : Nat} {tpos : Pos} {t1 t2 t3 : Bool} {a b c z TI TO i1 i2 i3 : Addr} (D : Apart z TI TO [⟨t1, i1, a⟩, ⟨t2, i2, b⟩, ⟨t3, i3, c⟩]) :
    Turn P w K (.Tuple elts kk tpos) (ItH K t1 t2 t3 a b c) [z, TI, TO, i1, i2, i3] z (fun i h => Zp h z TI TO .none ∧ Tp h TI #[.ref i1, .ref i2, .ref i3] ∧ (∃ us, us.size = 3 ∧ Tp h TO us) ∧ Sr.at ⟨t1, i1, a⟩ h i ∧ Sr.at ⟨t2, i2, b⟩ h i ∧ Sr.at ⟨t3, i3, c⟩ h i) where
  mem := List.mem_cons_self
  obj := fun i h st c' hc => by
    obtain ⟨hz, hI, ⟨us, _, hO⟩, h1, h2, h3⟩ := st
    simp only [List.mem_cons, List.not_mem_nil, or_false] at hc
    rcases hc with e | e | e | e | e | e
    · subst e; exact ⟨_, hz, fun v q => by cases q⟩
    · subst e; exact ⟨_, hI, fun v q => by cases q⟩
    · subst e; exact ⟨_, hO, fun v q => by cases q⟩
    · subst e; exact h1.obj
    · subst e; exact h2.obj
    · subst e; exact h3.obj
  keep := fun i h h' st k => by
    obtain ⟨hz, hI, ⟨us, hs, hO⟩, h1, h2, h3⟩ := st
    exact ⟨k z (by simp) _ hz, k TI (by simp) _ hI, ⟨us, hs, k TO (by simp) _ hO⟩, h1.go (fun o q => k i1 (by simp) o q), h2.go (fun o q => k i2 (by simp) o q), h3.go (fun o q => k i3 (by simp) o q)⟩
  item := by
    intro X hP hw hK hc i pins s σ H E I hf st hg
    subst hP hw hK
    obtain ⟨hz, hI, ⟨us, hs, hO⟩, h1, h2, h3⟩ := st
    obtain ⟨xs, ys, zs, x, y, y3, hx0, hy0, hz0, hx, hy, hy3⟩ := hg
    obtain ⟨its, rv, p, _⟩ := sqk_inv i1 I hx0
    obtain ⟨its2, rv2, p2, _⟩ := sqk_inv i2 I hy0
    obtain ⟨its3, rv3, p3, _⟩ := sqk_inv i3 I hz0
    obtain ⟨u, hu, ru⟩ := rv.get hx
    obtain ⟨u2, hu2, ru2⟩ := rv2.get hy
    obtain ⟨u3, hu3, ru3⟩ := rv3.get hy3
    have hzl : z < s.heap.objs.size := Heap.lt_size hz
    have fit : ∀ c' ∈ [z, TI, TO, i1, i2, i3], c' < s.heap.objs.size := fun c' hc => by
      simp only [List.mem_cons, List.not_mem_nil, or_false] at hc
      rcases hc with e | e | e | e | e | e
      · subst e; exact hzl
      · subst e; exact Heap.lt_size hI
      · subst e; exact Heap.lt_size hO
      · subst e; obtain ⟨_, q, _⟩ := h1.obj; exact Heap.lt_size q
      · subst e; obtain ⟨_, q, _⟩ := h2.obj; exact Heap.lt_size q
      · subst e; obtain ⟨_, q, _⟩ := h3.obj; exact Heap.lt_size q
    refine pyNext_zip (items := pick3 its.toArray its2.toArray its3.toArray) (I.ok.hd hc) D hz hI hO hs (by simp) (by simp) (rs3 h1 h2 h3) (rs3 p p2 p3) (fun h' vs v1 v2 z' O' at' T' sz' kp => ?_) fun h' ⟨j, hj, hno⟩ kp => ?_
    · obtain ⟨v, v', v'', rfl, w1, w2, w3⟩ := three_of v1
      have e1 := v2 0 (by simp)
      have e2 := v2 1 (by simp)
      have e3 := v2 2 (by simp)
      rw [w1, show pick3 its.toArray its2.toArray its3.toArray 0 = its.toArray from rfl, List.getElem?_toArray, hu] at e1
      rw [w2, show pick3 its.toArray its2.toArray its3.toArray 1 = its2.toArray from rfl, List.getElem?_toArray, hu2] at e2
      rw [w3, show pick3 its.toArray its2.toArray its3.toArray 2 = its3.toArray from rfl, List.getElem?_toArray, hu3] at e3
      cases e1
      cases e2
      cases e3
      refine ⟨_, rfl, wpAny_letOwnedTupleGo_zip (s := { s with heap := h' }) z' fun h2' z2 sb => ?_⟩
      have hT2 : Tp h2' s.heap.objs.size #[u, u2, u3] := (sb.2 _ (Nat.ne_of_gt hzl)).trans T'
      have new : ObjOk X.prog X.w (upd H s.heap.objs.size (.tup [x, y, y3])) h2' s.heap.objs.size (.tup [x, y, y3]) := ⟨by rw [sizeLine_eq]; simp, [u, u2, u3], .cons ru (.cons ru2 (.cons ru3 .nil)), ⟨_, hT2, rfl, _, rfl⟩⟩
      have kp2 : ∀ c' o, c' ∉ [z, TI, TO, i1, i2, i3] → s.heap.get? c' = some o → h2'.get? c' = some o := fun c' o hb q => by
        simp only [List.mem_cons, List.not_mem_nil, or_false, not_or] at hb
        rw [sb.2 c' hb.1]
        exact kp c' o (by simp only [List.map_cons, List.map_nil, List.mem_cons, List.not_mem_nil, or_false, not_or]; exact ⟨hb.1, hb.2.2⟩) q
      have I1 : Inv X pins σ (upd H s.heap.objs.size (.tup [x, y, y3])) { s with heap := h2' } := I.turnedNew (t' := s.toks) (ch := [z, TI, TO, i1, i2, i3]) kp2 hf (Nat.le_refl _) new
      have hi1 := D.iz (r := ⟨t1, i1, a⟩) (by simp)
      have hi2 := D.iz (r := ⟨t2, i2, b⟩) (by simp)
      have hi3 := D.iz (r := ⟨t3, i3, c⟩) (by simp)
      refine ⟨.ref s.heap.objs.size, _, I1, rfl, ⟨_, x, y, y3, rfl, I.hok.fresh (Nat.le_refl _), rfl, fun l hl => by rw [sqk_uni I hl hx0]; exact hx, fun l hl => by rw [sqk_uni I hl hy0]; exact hy, fun l hl => by rw [sqk_uni I hl hz0]; exact hy3⟩, ⟨z2, ?_, ⟨_, rfl, (sb.2 _ (Ne.symm D.zTO)).trans O'⟩, ?_, ?_, ?_⟩, fun c' hcm => ?_⟩
      · have hn := D.TIo
        exact (sb.2 TI (fun e => hn (e ▸ List.mem_cons_self))).trans (kp TI _ hn hI)
      · exact (at' 0 _ rfl).go fun o q => (sb.2 _ hi1.1).trans q
      · exact (at' 1 _ rfl).go fun o q => (sb.2 _ hi2.1).trans q
      · exact (at' 2 _ rfl).go fun o q => (sb.2 _ hi3.1).trans q
      · rw [upd_ne (Nat.ne_of_lt (fit c' hcm))]
        exact (hf c' hcm).1
    · exfalso
      unfold pick3 at hno
      by_cases hj0 : j = 0
      · rw [if_pos hj0, List.getElem?_toArray, hu] at hno; cases hno
      · by_cases hj1 : j = 1
        · rw [if_neg hj0, if_pos hj1, List.getElem?_toArray, hu2] at hno; cases hno
        · rw [if_neg hj0, if_neg hj1, List.getElem?_toArray, hu3] at hno; cases hno
  done := by
    intro X hP hw hK hc i pins s σ H E I hf st hg
    subst hP hw hK
    obtain ⟨hz, hI, ⟨us, hs, hO⟩, h1, h2, h3⟩ := st
    obtain ⟨xs, ys, zs, hx0, hy0, hz0, hend⟩ := hg
    obtain ⟨its, rv, p, _⟩ := sqk_inv i1 I hx0
    obtain ⟨its2, rv2, p2, _⟩ := sqk_inv i2 I hy0
    obtain ⟨its3, rv3, p3, _⟩ := sqk_inv i3 I hz0
    have l1 := rv.length
    have l2 := rv2.length
    have l3 := rv3.length
    refine pyNext_zip (items := pick3 its.toArray its2.toArray its3.toArray) (I.ok.hd hc) D hz hI hO hs (by simp) (by simp) (rs3 h1 h2 h3) (rs3 p p2 p3) (fun h' vs v1 v2 _ _ _ _ _ _ => ?_) fun h' _ kp => ⟨rfl, I.turnedL (t' := s.toks) (ch := [z, TI, TO, i1, i2, i3]) (fun c' o hb q => ?_) hf⟩
    · exfalso
      obtain ⟨v, v', v'', rfl, w1, w2, w3⟩ := three_of v1
      have e1 := v2 0 (by simp)
      have e2 := v2 1 (by simp)
      have e3 := v2 2 (by simp)
      rw [w1, show pick3 its.toArray its2.toArray its3.toArray 0 = its.toArray from rfl, List.getElem?_toArray] at e1
      rw [w2, show pick3 its.toArray its2.toArray its3.toArray 1 = its2.toArray from rfl, List.getElem?_toArray] at e2
      rw [w3, show pick3 its.toArray its2.toArray its3.toArray 2 = its3.toArray from rfl, List.getElem?_toArray] at e3
      have b1 := (List.getElem?_eq_some_iff.mp e1).1
      have b2 := (List.getElem?_eq_some_iff.mp e2).1
      have b3 := (List.getElem?_eq_some_iff.mp e3).1
      omega
    · simp only [List.mem_cons, List.not_mem_nil, or_false, not_or] at hb
      exact kp c' o (by simp only [List.map_cons, List.map_nil, List.mem_cons, List.not_mem_nil, or_false, not_or]; exact ⟨hb.1, hb.2.2⟩) q
  self := fun A i s Q E st h => wpAny_pyIter_zip st.1 h
def iZipH (K : PySem.W.Frag) (ta : TA) : TI := fun σ H R => ta σ H fun vs H1 => ∃ t1 t2 t3 a b c xs ys zs, vs = [.ref a, .ref b, .ref c] ∧ SqK t1 K H1 a xs ∧ SqK t2 K H1 b ys ∧ SqK t3 K H1 c zs ∧ R (ItH K t1 t2 t3 a b c) H1
theorem vals3 {vs : List V} {a b c : V} {us : List Value} (r : Vals [a, b, c] us) : ∃ u u2 u3, us = [u, u2, u3] ∧ RelV a u ∧ RelV b u2 ∧ RelV c u3 := by
  cases r with
  | cons r1 t => cases t with
    | cons r2 t => cases t with
      | cons r3 t => cases t with
        | nil => exact ⟨_, _, _, rfl, r1, r2, r3⟩
theorem pi_zipH {X : Cx} {e e2 e3 : Expr} {ta : TA} {p pos tpos : Pos} {elts : List Expr} {kk : Nat} (hg : Gl X "zip") (hm : X.mg "zip" = none) (ha : PA X [e, e2, e3] ta) (hs : starEach [e, e2, e3] X.env = (false, eval e X.env) :: starEach [e2, e3] X.env) (hpl : (backTo pos (starEach [e2, e3] X.env)).any (·.1) = false) :
    PI X (.Tuple elts kk tpos) (.Call (.Name "zip" p) [e, e2, e3] [] pos) (iZipH X.K ta) := by
  refine ⟨fun pins s σ H R I h => Call_ (ld_blt I hg hm PyProof.Rows.boot_zip (PyProof.Rows.callWith_type1 (thn (ha.run pos pins s σ H _ I h) ?_) hs hpl))⟩
  rintro us s1 ⟨vs, H1, I1, r1, t1, t2, t3, a, b, c, xs, ys, zs, rfl, hx, hy, hz, q⟩
  obtain ⟨u, u2, u3, rfl, ru, ru2, ru3⟩ := vals3 (vs := []) r1
  cases ru
  cases ru2
  cases ru3
  obtain ⟨its, rv, p1, _⟩ := sqk_inv 0 I1 hx
  obtain ⟨its2, rv2, p2, _⟩ := sqk_inv 0 I1 hy
  obtain ⟨its3, rv3, p3, _⟩ := sqk_inv 0 I1 hz
  refine call_zip3 p1 p2 p3 fun h' rs hrs D hz hI hO hat kp => wpAny_pyIter_zip hz ?_
  subst hrs
  refine ⟨s1.heap.objs.size + 5, [s1.heap.objs.size + 5, s1.heap.objs.size + 3, s1.heap.objs.size + 4, s1.heap.objs.size, s1.heap.objs.size + 1, s1.heap.objs.size + 2], _, _, H1, rfl, I1.kept (t' := s1.toks) kp, turn_H D, ⟨hz, hI, ⟨_, rfl, hO⟩, hat 0 _ rfl, hat 1 _ rfl, hat 2 _ rfl⟩, fun c' hc => ?_, q⟩
  have le : s1.heap.objs.size ≤ c' := by
    simp only [List.mem_cons, List.not_mem_nil, or_false] at hc
    rcases hc with e | e | e | e | e | e
    · rw [e]; exact Nat.le_add_right _ _
    · rw [e]; exact Nat.le_add_right _ _
    · rw [e]; exact Nat.le_add_right _ _
    · rw [e]; exact Nat.le_refl _
    · rw [e]; exact Nat.le_add_right _ _
    · rw [e]; exact Nat.le_add_right _ _
  exact I1.fpOk le (I1.hok.fresh le)
end ZG

set_option maxRecDepth 100000
set_option maxHeartbeats 3200000
/-! the set of a list of whole numbers, put in order -/
namespace ZS
open PySem PySem.Spec PyProof.Rows L2
section
variable {P : Program} {w : World} {A : Around} {E : Value → Shared → Prop} {s : Shared}
/-- the set that is new -/
abbrev eS (w : World) : Obj := { cls := .type "set", dict := none, data := .set #[] 0 (.fresh 0 0 (!w.params.followText "set-order")) }
abbrev hS (w : World) (h : Heap) : Heap := h.push (eS w)
theorem hS_at {h : Heap} : (hS w h).get? h.objs.size = some (eS w) := Heap.get?_push_size _ rfl
theorem hS_size {h : Heap} : (hS w h).objs.size = h.objs.size + 1 := Heap.size_push ..
theorem call_set_lst {l : Addr} {items : Array Value} (ns : List Int) {Q : Value → Shared → Prop} (hh : A.handled = none) (hl : s.heap.IsList l items) (hit : IntsAre items.toList ns) (hb : ns.length + 1 < scanBound)
    (h : ∀ (h' : Heap) (tk c : Nat), SetR w h' s.heap.objs.size (fun j => decide (j ∈ ns)) c → c ≤ ns.length → (∀ b o, s.heap.get? b = some o → h'.get? b = some o) → Q (.ref s.heap.objs.size) { s with heap := h', toks := tk }) :
    wpAny (model P w) A (call (.type "set") [.ref l]) Q E s := by
  have isz : items.size = ns.length := (Array.length_toList (xs := items)).symm.trans (IntsAre.length hit)
  obtain ⟨c, tl, hmro⟩ := F.called_set.mro
  have hm := F.called_set.made
  have hs := F.called_set.sub
  refine wpAny_call (codeAny_of_tree ?_)
  show wpAny _ _ (callAny (.type "set") _) _ _ _
  refine wpAny_pure ⟨Code.quiet_builtin _ (by decide +kernel), codeAny_builtin F.entry_type_call ?_⟩
  rw [Around.under_plain (weight_type_call_type "set" [.ref l] []) rfl]
  have a1 := F.called_set.notType
  have a2 := F.called_set.canCreate
  have a3 := F.typeCall_set_1 (.ref l)
  repeat any_goals first | assumption | wp_step
  refine codeAny_mono (code_set_led1 (.ref l) (E := E) (Q₁ := fun obj s₁ => obj = .ref s.heap.objs.size ∧ s₁ = { s with heap := hS w s.heap }) ⟨rfl, rfl⟩) fun r s₁ hr => ?_
  match r, hr with
  | .error e, hr => exact hr
  | .ok (.ret obj), hr =>
    obtain ⟨rfl, rfl⟩ := hr
    have at0 := hS_at (w := w) (h := s.heap)
    have hT : Shared.TypeIs { s with heap := hS w s.heap } (.ref s.heap.objs.size) "set" := ⟨_, at0, rfl⟩
    have li := F.called_set.init.lookup
    have bi := F.called_set.init.bind (.ref s.heap.objs.size)
    repeat any_goals first | assumption | wp_step
    refine codeAny_mono (codeAny_call_builtin (R := wants (fun r s₂ => r = .none ∧ ∃ h' tk c, s₂ = { s with heap := h', toks := tk } ∧ SetR w h' s.heap.objs.size (fun j => decide (j ∈ ns)) c ∧ c ≤ ns.length ∧ ∀ b o, s.heap.get? b = some o → h'.get? b = some o) E) F.called_set.init.plain F.entry_set_init (check_set_init_1 hT ?_)) fun r₂ s₂ hr₂ => ?_
    · obtain ⟨⟨ocls, odict, odata, oslots⟩, hol, hcl, nl, hdl⟩ := hl
      simp only at hcl hdl
      subst hcl hdl
      have ol' : (hS w s.heap).get? l = some { cls := .type "list", dict := odict, data := .seq items nl, slots := oslots } := Heap.get?_push_of_some _ hol
      have b1 := F.sub_list_set
      have b2 := F.sub_list_frozenset
      have b3 : (Value.type "list" == Value.type "dict") = false := by decide
      have l1 : (hS w s.heap).IsList l items := ⟨_, ol', rfl, nl, rfl⟩
      unfold Builtin.«set.__init__» noKeywords Builtin.Frozenset.updateFrom
      generalize hp : pyIter = PI
      wp_walk
      subst hp
      refine wpAny_pyIter_list l1 (wpAny_bind (wpAny_runValue ?_))
      have lt := Heap.lt_size hol
      have h3 : A.in1.in1.in1.handled = none := by simp [hh]
      have ne1 : l ≠ (hS w s.heap).objs.size := by
        rw [hS_size]
        exact Nat.ne_of_lt (Nat.lt_succ_of_lt lt)
      have nin : s.heap.objs.size ∉ [(hS w s.heap).objs.size, l] := by
        rw [hS_size]
        simp only [List.mem_cons, List.not_mem_nil, or_false, not_or]
        exact ⟨Nat.ne_of_lt (Nat.lt_succ_self _), Nat.ne_of_gt lt⟩
      have val : ∀ (i : Nat) (v : Value), items[i]? = some v → ∃ k t, ns[i]? = some k ∧ v = .int k t := fun i v hv => by
        have hi : i < ns.length := isz ▸ (Array.getElem?_eq_some_iff.mp hv).1
        obtain ⟨t, e⟩ := IntsAre.int_at hit i v (by rw [Array.getElem?_toList]; exact hv)
        refine ⟨ns[i], t, List.getElem?_eq_getElem hi, ?_⟩
        rw [e, List.getD_eq_getElem?_getD, List.getElem?_eq_getElem hi]
        rfl
      refine set_update_ints ((Walks.list h3 _ l ne1 items).toS) s.heap.objs.size nin ns isz hb val (items.size - 0) 0 _ (by omega) (Nat.zero_le _) ⟨⟨_, Heap.get?_push_size _ rfl, rfl, rfl⟩, l1.push _⟩ ?c0 ?cR
      case c0 => exact ⟨0, Nat.le_refl 0, setR_new_at (Heap.get?_push_of_some _ at0)⟩
      case cR =>
        intro s' c' mv hc' R'
        obtain ⟨h', g', d', tk', os'⟩ := s'
        cases (show g' = s.gens from mv.gens)
        cases (show d' = s.drawn from mv.drawn)
        cases (show os' = s.os from mv.os)
        show wpAny _ _ _ _ _ _
        refine wpAny_pure ?_
        show wpAny _ _ (ret Value.none) _ _ _
        rw [isz] at hc'
        refine wpAny_pure ⟨rfl, h', tk', c', rfl, R', hc', fun b o e => ?_⟩
        have lb := Heap.lt_size e
        refine mv.heap b o ?_ (Heap.get?_push_of_some _ (Heap.get?_push_of_some _ e))
        rw [hS_size]
        simp only [List.mem_cons, List.not_mem_nil, or_false, not_or]
        exact ⟨Nat.ne_of_lt lb, Nat.ne_of_lt (Nat.lt_succ_of_lt lb)⟩
    · match r₂, hr₂ with
      | .error e, hr₂ => exact hr₂
      | .ok (.ret r), hr₂ =>
        obtain ⟨rfl, h', tk, c', rfl, R', hc', k'⟩ := hr₂
        repeat any_goals first | assumption | wp_step
        exact h _ _ _ R' hc' k'
      | .ok .next, hr₂ => exact hr₂.elim
      | .ok .brk, hr₂ => exact hr₂.elim
      | .ok .cont, hr₂ => exact hr₂.elim
  | .ok .next, hr => exact hr.elim
  | .ok .brk, hr => exact hr.elim
  | .ok .cont, hr => exact hr.elim
/-- sorted(set), any number of members -/
theorem sorted_setN {a : Addr} {S : Int → Bool} {n : Nat} {Q : Value → Shared → Prop} (R : SetR w s.heap a S n) (hh : A.handled = none)
    (hQ : ∀ s' p (out : Array Value) (c : Nat) (ns : List Int), (∀ b o, s.heap.get? b = some o → s'.heap.get? b = some o) → s'.gens = s.gens → s'.os = s.os → s.heap.objs.size ≤ p →
      s'.heap.get? p = some (seqObj "list" out c) → IntsAre out.toList ns → ns.Pairwise (· < ·) → (∀ k, k ∈ ns ↔ S k = true) → ns.length = n → Q (.ref p) s') :
    wpAny (model P w) A (call (.builtin "sorted") [.ref a]) Q E s := by
  obtain ⟨o, es, ep, t, ho, hex, hd, g, nd, hm, hb, hf, hn, hr, hl⟩ := R
  refine Calls.call_function_entry kind_sorted plain_sorted entry_sorted (args_sorted1 _) ?_
  unfold Builtin.«sorted»
  refine wpAny_bind (m := checkCount "sorted" 1 1 _) (wpAny_pure (wpAny_bind (collect_set (A := A.in1) hh ⟨o, ho, hex.1, hd⟩ hf hb hr hl fun s1 vs k1 hz g1 o1 pm => ?_)))
  have vl : vs.length = n := (pm.length_eq.trans (by rw [List.length_map, Array.length_toList])).trans hn
  have n4 : n < scanBound := hn ▸ hb
  have nl : n ≤ sizeLine := by
    unfold scanBound at n4
    rw [sizeLine_eq]
    omega
  have hI : IntsAre vs (vs.map Builtin.Re.reRawOf) := ints_of vs fun v hv => by
    obtain ⟨e, he, q⟩ := List.mem_map.mp (pm.mem_iff.mp hv)
    obtain ⟨k, tk, h1, _⟩ := g e he
    exact ⟨k, tk, q ▸ h1⟩
  have pk : (vs.map Builtin.Re.reRawOf).Perm (es.toList.map keyOf) := by
    have := pm.map Builtin.Re.reRawOf
    rwa [List.map_map] at this
  refine wpAny_bind (wpAny_newList ?_ (vl ▸ nl))
  have at1 : (s1.heap.push (seqObj "list" vs.toArray 0)).get? s1.heap.objs.size = some (seqObj "list" vs.toArray 0) := Heap.get?_push_size _ rfl
  refine wpAny_bind (wpAny_holding (wpAny_call_entry slot_list_sort ⟨_, at1, rfl⟩ entry_list_sort (SrtO.list_sort_ord SrtO.swo_int at1 (vl ▸ nl) (fun h2 => SrtO.ints_sortable hI h2) fun out h1 h2 => ⟨_, rfl, ?_⟩) (args_list_sort _)))
  obtain ⟨i1, i2, i3⟩ := SrtO.ints_out hI h1 h2
  obtain ⟨c, hc⟩ := sortedHeap_at (vs := vs) (out := out.toArray) at1
  have pn := i2.trans pk
  refine wpAny_pure ⟨_, rfl, hQ _ s1.heap.objs.size out.toArray c (out.map SrtO.iv) (fun b u e => ?_) g1 o1 hz hc i1 (lt_of_le_nodup _ i3 (pn.nodup_iff.mpr nd)) (fun k => by rw [pn.mem_iff, ← hm k]) ?_⟩
  · have lt := Heap.lt_size (k1 b u e)
    exact (sortedHeap_old (Nat.ne_of_lt lt) (by rw [size_push']; exact Nat.lt_succ_of_lt lt)).trans (Heap.get?_push_of_some _ (k1 b u e))
  · rw [pn.length_eq, List.length_map, Array.length_toList]
    exact hn
end
section
variable {X : Cx}
/-- set(xs), xs a list of whole numbers -/
def rSetL (K : PySem.W.Frag) (w : World) : List V → Hp → VK → Prop := fun vs H Q => ∃ (a : Addr) (ns : List Int), vs = [V.ref a] ∧ SqL K H a (ns.map V.int) ∧ ns.length + 1 < scanBound ∧
  ∀ (p : Addr) (c : Nat), H p = none → Q (.ref p) (upd H p (SetO w p (fun j => decide (j ∈ ns)) c))
theorem cr_setL (hc : X.calm = true) : CallR X (.type "set") (rSetL X.K X.w) := by
  intro pins s σ H vs us Q I r h
  obtain ⟨a, ns, rfl, hs, hb, q⟩ := h
  obtain ⟨its, rv, pl, hz⟩ := I.list hs
  rw [Vals.ref1 r]
  refine call_set_lst ns (I.ok.hd hc) pl.isList (by simpa using rv.ints) hb fun h' tk c R hc' k => ?_
  exact ⟨.ref _, upd H s.heap.objs.size (SetO X.w s.heap.objs.size (fun j => decide (j ∈ ns)) c), I.laid (t' := tk) k (Nat.le_refl _) (setO_new R), rfl, q _ c (I.hok.fresh (Nat.le_refl _))⟩
/-- sorted of a set -/
def rSortedN (w : World) : List V → Hp → VK → Prop := fun vs H Q => ∃ (a : Addr) (S : Int → Bool) (n : Nat), vs = [V.ref a] ∧ H a = some (SetO w a S n) ∧
  ∀ (ns : List Int) (p : Addr), ns.Pairwise (· < ·) → (∀ k : Int, k ∈ ns ↔ S k = true) → H p = none → Q (.ref p) (upd H p (.lst (ns.map V.int)))
theorem cr_sortedN (hc : X.calm = true) : CallR X (.builtin "sorted") (rSortedN X.w) := by
  intro pins s σ H vs us Q I r h
  obtain ⟨a, S, n, rfl, ha, q⟩ := h
  have R := setO_get I ha
  have n4 : n < scanBound := by
    obtain ⟨_, _, _, _, _, _, _, _, _, _, hb, _, hn, _⟩ := R
    exact hn ▸ hb
  rw [Vals.ref1 r]
  refine sorted_setN R (I.ok.hd hc) fun s' p out c ns k g o hp hg hi hs hm hl => ?_
  have len : (ns.map V.int).length ≤ sizeLine := by
    unfold scanBound at n4
    rw [List.length_map, hl, sizeLine_eq]
    omega
  have hn : H p = none := I.hok.fresh hp
  have J : Inv X pins σ (upd H p (.lst (ns.map V.int))) { s with heap := s'.heap, gens := s'.gens, drawn := s'.drawn, toks := s'.toks } :=
    I.call (ch := []) (Un.laid k hp hn) (I.hok.laid k hp ⟨len, out.toList, c, vals_of_ints hi, hg⟩) (g ▸ I.bare) (fun _ z => nomatch z)
  have e : s' = { s with heap := s'.heap, gens := s'.gens, drawn := s'.drawn, toks := s'.toks } := by
    obtain ⟨_, _, _, _, _⟩ := s'
    obtain ⟨_, _, _, _, _⟩ := s
    cases o
    rfl
  rw [e]
  exact ⟨.ref p, _, J, rfl, q ns p hs hm hn⟩
end
end ZS

set_option maxRecDepth 100000
set_option maxHeartbeats 2000000
/-! PT: an exception that is caught, kept as a value behind the try -/
namespace PT
open PySem PySem.Spec PyProof.Rows L2
/-- an exception object, raised or not -/
def ExW (cls : Value) (a : Addr) : HO := .ext fun h => ∃ oe : Obj, h.get? a = some oe ∧ Zc cls none oe ∧ ∃ vs, oe.data = .fields vs
theorem exW_ok {P : Program} {w : World} {H : Hp} {h : Heap} {a : Addr} {cls : Value} {oe : Obj} (e : h.get? a = some oe) (z : Zc cls none oe) (d : ∃ vs, oe.data = .fields vs) : ObjOk P w H h a (ExW cls a) := ⟨⟨oe, e, z, d⟩, ⟨oe, e⟩, fun _ _ ⟨o, q, r⟩ k => ⟨o, k o q, r⟩⟩
section
variable {X : Cx} {pins : List (Addr × Obj)} {σ : L2.St} {H : Hp} {s : Shared}
/-- what stands there and was not tracked is tracked -/
theorem track {a : Addr} {oe : Obj} {o : HO} (I : Inv X pins σ H s) (he : s.heap.get? a = some oe) (hn : H a = none) (n0 : X.s_0.heap.get? a = none) (nl : a ≠ X.env.locals) (nc : ∀ v, oe.data ≠ .cell v) (np : ∀ p ∈ X.pn ++ pins, p.1 ≠ a)
    (new : ObjOk X.prog X.w (upd H a o) s.heap a o) : Inv X pins σ (upd H a o) s := by
  have old : ∀ {b : Addr} {u : HO}, H b = some u → upd H a o b = some u := fun {b u} e => by
    rw [upd_ne (ne_of_none e hn)]
    exact e
  refine ⟨I.ok, I.os, I.bare, ⟨I.base.keep, I.base.slot, fun b u e n hq => ?_, I.base.there, fun b xs e => old (I.base.tups b xs e), fun b u xs e => old (I.base.frzs b u xs e), fun b ps e => ?_⟩, I.loc, I.cell, ?_, fun x c e => ?_, fun p hp => ?_, fun b u e => ?_, I.len⟩
  · rw [upd_ne (fun z => by rw [z, n0] at e; cases e)]
    exact I.base.free b u e n hq
  · obtain ⟨m, q⟩ := I.base.tbls b ps e
    exact ⟨m, old q⟩
  · rw [upd_ne (Ne.symm nl)]
    exact I.free
  · have ne : c ≠ a := fun z => by
      obtain ⟨v, o', ho, hd⟩ := I.cell x c e
      rw [z, he] at ho
      cases ho
      exact nc _ hd
    rw [upd_ne ne]
    exact I.freeC x c e
  · obtain ⟨e, n, q⟩ := I.pin p hp
    exact ⟨e, by rw [upd_ne (np p hp)]; exact n, q⟩
  · by_cases hb : b = a
    · subst hb
      rw [upd_same] at e
      cases e
      exact new
    · rw [upd_ne hb] at e
      exact (I.hok b u e).stay (fun c v _ q => q) (fun c q => old q) fun c xs q => old q
/-- X(e), a class without an own __init__: a new exception object -/
theorem pe_exW {C : Addr} {bmB : List Value} {Bn newId initId : String} {x : Str} {e : Expr} {ta : TE} {p pos : Pos} (Fx : ExcBaseFacts Bn newId initId bmB) (q : PySem.W.excIn X.K C bmB newId = true) (g : X.mg x = some (.ref C)) (kp : PySem.W.keepIn X.K (.ref C) = true) (hg : Gl X x)
    (he : PE X e ta) (hs : starEach [e] X.env = (false, eval e X.env) :: starEach [] X.env := by rfl) (hdb : (x == ("__debug__" : Str)) = false := by decide) :
    PE X (.Call (.Name x p) [e] [] pos) (fun σ H Q => ta σ H fun _ H1 => ∀ a, H1 a = none → Q (.ref a) (upd H1 a (ExW (.ref C) a))) := by
  refine ⟨fun pins s σ H Q I h => wpAny_Call_Name_kw (ld_glob I hg g (PySem.W.callWith_K (h₀ := X.base) I.ok.mod.kin kp ?_ hs (by rfl)) hdb)⟩
  rw [hs]
  show wpAny _ _ (spliced ((false, eval e X.env) :: backTo pos (starEach [] X.env))) _ _ s
  refine Calls.spliced_cons (thn (he.run pins s σ H _ I h) fun u s1 ⟨v, H1, I1, r1, q1⟩ => Calls.spliced_nil ⟨I1.kIn, ?_⟩)
  show wpAny _ _ (call (.ref C) [u]) _ _ _
  obtain ⟨bm, N, nm, qn, bs, hdct, sn, sub, ab, col, dd, k0, k1, k2, k3, k5, mN, hC, hN, hni, T⟩ := exc_obj I1.kIn q
  have one : 1 ≤ sizeLine := by rw [sizeLine_eq]; omega
  refine wpAny_call_exc_subT Fx T hC hN hni (fun h' a hm => ?_) one
  have hn : H1 a = none := I1.hok.gone hm.new
  obtain ⟨t, ht, _, _⟩ := hm.there
  exact ⟨.ref a, upd H1 a (ExW (.ref C) a), I1.laidN hm.keeps hm.new hn (exW_ok ht ⟨rfl, rfl⟩ ⟨_, rfl⟩), rfl, q1 a hn⟩
end
/-- what the try wishes of an exception of its body -/
def wTr (K : PySem.W.Frag) (c : Value) (i : Nat) (ts : Addr → Value → Option Addr → TS) (D : Ends) : WX := fun cls d σ H => d = none ∧ PySem.W.exmOne K cls c = some true ∧
  ∀ a, H a = none → ts a cls d { nx := fun σ' H' => H' a = none → D.nx (σ'.set i none) (upd H' a (ExW cls a)), rt := fun _ _ => False, bk := fun _ _ => False, ct := fun _ _ => False } (σ.set i (some (.ref a))) H
section
variable {X : Cx} {x n : Str} {c : Value} {i : Nat} {body suite : List Stmt} {np pos pos' : Pos} {tb : WX → TS} {ts : Addr → Value → Option Addr → TS}
theorem ps_tryT (hs : X.stack = X.env :: X.outer) (hf : X.env.frame = some X.env.locals) (hex : X.ex = []) (hN : X.N.Nodup) (hi : X.N[i]? = some n) (hln : X.env.kindOf n = some .local) (hc : Names X x c) (hne : suite ≠ [])
    (hb : ∀ (W : WX) (pn : List (Addr × Obj)) (xe : Value → Shared → Prop), Takes (X.tr pn xe) W → PassesOwn (model X.prog X.w) X.A X.env xe → PSs (X.tr pn xe) body (tb W))
    (hsu : ∀ (a : Addr) (oe : Obj) (cls : Value) (d : Option Addr) (pn : List (Addr × Obj)), PSs (X.suite a ((a, oe) :: pn)) suite (ts a cls d)) :
    PS X (.Try body [.ExceptHandler (some (.Name x np)) (some n) suite pos'] [] [] pos) (fun D σ H => tb (wTr X.K c i ts D) D σ H) := by
  obtain ⟨b₀, sui, rfl⟩ : ∃ b₀ sui, suite = b₀ :: sui := by
    cases suite with
    | nil => exact absurd rfl hne
    | cons b s => exact ⟨b, s, rfl⟩
  refine ⟨fun pins s σ H D I h => wpAny_Try_except ?_⟩
  have ok := I.ok
  have hfr : X.A.frames = some (X.env :: X.outer) := ok.frames.trans (congrArg some hs)
  refine wpAny_mono ((hb (wTr X.K c i ts D) (X.pn ++ pins) _ (fun u s' xx => ?_) PassesOwn.looking).run [] s σ H D (I.toTry _) h) (fun f s1 hsp => ?_) (fun e s1 he => he)
  · obtain ⟨a, B, sI, pins', σ', H', cls, d, rfl, J0, nb, up, sky, na, os, ag, rfl, hb1, hyes⟩ := xx
    have J : Inv X pins σ' H' sI := J0.ofTry ok
    have sky : Sky B X.stack a (Zc cls none) X.env.locals s'.heap := sky
    rw [hs] at sky
    show wpAny _ X.A (noteFrame (.ref a) X.env) _ _ _
    refine Sky.land Zc.steady hfr hf sky fun h3 fl up3 => ?_
    have J3 : Inv X pins σ' H' { s' with heap := h3 } := J.landed nb fl.1 (up.trans up3) os ag
    obtain ⟨oe, vs, he, hz, hd⟩ := fl.there
    have nfr : a ∉ frs (X.env :: X.outer) := fun hm => by
      obtain ⟨_, o', e', q⟩ := fl.2.2.1.mem hm
      rw [he] at e'
      cases e'
      exact q _ hd
    have nL : a ≠ X.env.locals := fun z => nfr (List.mem_filterMap.mpr ⟨X.env, List.mem_cons_self, by rw [hf, z]⟩)
    have nF : a ∉ X.fs := fun hm => by
      obtain ⟨e, m, q⟩ := List.mem_filterMap.mp hm
      exact nfr (List.mem_filterMap.mpr ⟨e, List.mem_cons_of_mem _ m, q⟩)
    have bn : B.get? a = none := fl.2.1
    have n0 : X.s_0.heap.get? a = none := by
      cases e : X.s_0.heap.get? a with
      | none => rfl
      | some o =>
        obtain ⟨o', e1⟩ := J.base.there a o e (by rw [hex]; exact fun z => nomatch z)
        have := nb a o' e1 (by rw [hs]; exact nfr)
        rw [bn] at this
        cases this
    have np' : ∀ p ∈ X.pn ++ pins, p.1 ≠ a := fun p hp z => by
      obtain ⟨e1, e2, e3, e4, _⟩ := J.pin p hp
      have := nb p.1 p.2 e1 (by rw [hs]; rw [z]; exact nfr)
      rw [z, bn] at this
      cases this
    have S3 := J3.suite he hd na nL nF
    refine wpAny_handleBy_cons (codeAny_handlers_test ?_) (by intro q; cases q)
    have look : PySem.W.Looks (model X.prog X.w) h3 (typeOf (.ref a)) cls := fun A Q E s k q => wpAny_typeOf_ref (k _ _ he) (hz.1.symm ▸ q)
    have exm := PySem.W.exm_one (M := model X.prog X.w) J3.kIn look hb1
    have named : ∀ {Q : Value → Shared → Prop} {E : Value → Shared → Prop}, Q c { s' with heap := h3 } → wpAny (model X.prog X.w) (X.A.mark (some (.ref a))) (eval (.Name x np) X.env) Q E { s' with heap := h3 } := fun {Q E} q => by
      obtain ⟨hg, hdbg, hm | ⟨hm, hv, hnn⟩⟩ := hc
      · exact ld_glob (X := X.suite a ((a, oe) :: (X.pn ++ pins))) S3 hg hm q hdbg
      · exact ld_blt (X := X.suite a ((a, oe) :: (X.pn ++ pins))) S3 hg hm hv q hnn hdbg
    refine named (exm.here (codeAny_handlers_suite_as (HandSPX.lands_againZ fl fun h4 fl4 up4 => ?_)))
    have J4 : Inv X pins σ' H' { s' with heap := h4 } := J.landed nb fl4.1 ((up.trans up3).trans up4) os ag
    obtain ⟨oe4, vs4, he4, hz4, hd4⟩ := fl4.there
    have S4 := J4.suite he4 hd4 na nL nF
    refine store_ok (X := X.suite a ((a, oe4) :: (X.pn ++ pins))) (v := .ref a) S4 hN hi (.inl hln) rfl (fun s5 S5 => ?_) (.inr hln)
    refine wpAny_mono ((hsu a oe4 cls none (X.pn ++ pins)).run [] s5 _ H' _ S5 (hyes a na)) (fun f s6 hsp => ?_) (fun _ _ z => False.elim z)
    cases f with
    | next =>
      obtain ⟨σ6, H6, S6, q6⟩ := hsp
      have S7 : Inv X ((a, oe4) :: pins) σ6 H6 s6 := ⟨ok, S6.os, S6.bare, S6.base, S6.loc, S6.cell, S6.free, S6.freeC, fun p hp => S6.pin p (by
        rw [List.append_nil]
        rcases List.mem_append.mp hp with e | e
        · exact List.mem_cons_of_mem _ (List.mem_append_left _ e)
        · rcases List.mem_cons.mp e with e | e
          · rw [e]; exact List.mem_cons_self
          · exact List.mem_cons_of_mem _ (List.mem_append_right _ e)), S6.hok, S6.len⟩
      refine gone_ok S7 hN hi hln fun s7 J7 => ?_
      obtain ⟨p1, p2, p3, p4, p5⟩ := J7.pin (a, oe4) (List.mem_append_right _ List.mem_cons_self)
      have J8 : Inv X pins (σ6.set i none) H6 s7 := ⟨ok, J7.os, J7.bare, J7.base, J7.loc, J7.cell, J7.free, J7.freeC, fun p hp => J7.pin p (by
        rcases List.mem_append.mp hp with e | e
        · exact List.mem_append_left _ e
        · exact List.mem_append_right _ (List.mem_cons_of_mem _ e)), J7.hok, J7.len⟩
      exact ⟨_, _, track J8 p1 p2 n0 nL p5 np' (exW_ok p1 hz4 ⟨_, hd4⟩), q6 p2⟩
    | brk =>
      obtain ⟨_, _, _, q6⟩ := hsp
      exact False.elim q6
    | cont =>
      obtain ⟨_, _, _, q6⟩ := hsp
      exact False.elim q6
    | ret u =>
      obtain ⟨_, _, _, _, _, q6⟩ := hsp
      exact False.elim q6
  · cases f with
    | next =>
      obtain ⟨σ', H', J', q⟩ := hsp
      exact wpAny_execs_nil ⟨σ', H', J'.ofTry ok, q⟩
    | brk =>
      obtain ⟨σ', H', J', q⟩ := hsp
      exact ⟨_, _, J'.ofTry ok, q⟩
    | cont =>
      obtain ⟨σ', H', J', q⟩ := hsp
      exact ⟨_, _, J'.ofTry ok, q⟩
    | ret u =>
      obtain ⟨v, σ', H', J', r, q⟩ := hsp
      exact ⟨_, _, _, J'.ofTry ok, r, q⟩
end
end PT

set_option maxRecDepth 100000
set_option maxHeartbeats 2000000
/-! PTM: an exception object that was made of one value, with it -/
namespace PT
open PySem PySem.Spec PyProof.Rows L2
/-- the object itself: t is the tuple of its arguments -/
def ExT (cls : Value) (a t : Addr) : HO := .ext fun h => h.get? a = some { cls := cls, data := .fields #[.ref t, .none, .none, .none, .bool false, .none] }
theorem exT_ok {P : Program} {w : World} {H : Hp} {h : Heap} {a t : Addr} {cls : Value} (e : h.get? a = some { cls := cls, data := .fields #[.ref t, .none, .none, .none, .bool false, .none] }) : ObjOk P w H h a (ExT cls a t) := ⟨e, ⟨_, e⟩, fun _ _ q k => k _ q⟩
section
variable {X : Cx} {pins : List (Addr × Obj)} {σ : L2.St} {H : Hp} {s : Shared}
/-- what stands there and was not tracked is tracked -/
theorem track2 {a : Addr} {oe : Obj} {o : HO} (I : Inv X pins σ H s) (he : s.heap.get? a = some oe) (hn : H a = none) (n0 : a ∉ X.ex → X.s_0.heap.get? a = none) (nl : a ≠ X.env.locals) (nc : ∀ v, oe.data ≠ .cell v) (np : ∀ p ∈ X.pn ++ pins, p.1 ≠ a)
    (new : ObjOk X.prog X.w (upd H a o) s.heap a o) : Inv X pins σ (upd H a o) s := by
  have old : ∀ {b : Addr} {u : HO}, H b = some u → upd H a o b = some u := fun {b u} e => by
    rw [upd_ne (ne_of_none e hn)]
    exact e
  refine ⟨I.ok, I.os, I.bare, ⟨I.base.keep, I.base.slot, fun b u e n hq => ?_, I.base.there, fun b xs e => old (I.base.tups b xs e), fun b u xs e => old (I.base.frzs b u xs e), fun b ps e => ?_⟩, I.loc, I.cell, ?_, fun x c e => ?_, fun p hp => ?_, fun b u e => ?_, I.len⟩
  · rw [upd_ne (fun z => by rw [z, n0 (z ▸ hq)] at e; cases e)]
    exact I.base.free b u e n hq
  · obtain ⟨m, q⟩ := I.base.tbls b ps e
    exact ⟨m, old q⟩
  · rw [upd_ne (Ne.symm nl)]
    exact I.free
  · have ne : c ≠ a := fun z => by
      obtain ⟨v, o', ho, hd⟩ := I.cell x c e
      rw [z, he] at ho
      cases ho
      exact nc _ hd
    rw [upd_ne ne]
    exact I.freeC x c e
  · obtain ⟨e, n, q⟩ := I.pin p hp
    exact ⟨e, by rw [upd_ne (np p hp)]; exact n, q⟩
  · by_cases hb : b = a
    · subst hb
      rw [upd_same] at e
      cases e
      exact new
    · rw [upd_ne hb] at e
      exact (I.hok b u e).stay (fun c v _ q => q) (fun c q => old q) fun c xs q => old q
theorem pe_exT {C : Addr} {bmB : List Value} {Bn newId initId : String} {x : Str} {e : Expr} {ta : TE} {p pos : Pos} (Fx : ExcBaseFacts Bn newId initId bmB) (q : PySem.W.excIn X.K C bmB newId = true) (g : X.mg x = some (.ref C)) (kp : PySem.W.keepIn X.K (.ref C) = true) (hg : Gl X x)
    (he : PE X e ta) (hs : starEach [e] X.env = (false, eval e X.env) :: starEach [] X.env := by rfl) (hdb : (x == ("__debug__" : Str)) = false := by decide) :
    PE X (.Call (.Name x p) [e] [] pos) (fun σ H Q => ta σ H fun v H1 => ∀ a t, H1 a = none → H1 t = none → a ≠ t → Q (.ref a) (upd (upd H1 t (.tup [v])) a (ExT (.ref C) a t))) := by
  refine ⟨fun pins s σ H Q I h => wpAny_Call_Name_kw (ld_glob I hg g (PySem.W.callWith_K (h₀ := X.base) I.ok.mod.kin kp ?_ hs (by rfl)) hdb)⟩
  rw [hs]
  show wpAny _ _ (spliced ((false, eval e X.env) :: backTo pos (starEach [] X.env))) _ _ s
  refine Calls.spliced_cons (thn (he.run pins s σ H _ I h) fun u s1 ⟨v, H1, I1, r1, q1⟩ => Calls.spliced_nil ⟨I1.kIn, ?_⟩)
  show wpAny _ _ (call (.ref C) [u]) _ _ _
  obtain ⟨bm, N, nm, qn, bs, hdct, sn, sub, ab, col, dd, k0, k1, k2, k3, k5, mN, hC, hN, hni, T⟩ := exc_obj I1.kIn q
  have one : 1 ≤ sizeLine := by rw [sizeLine_eq]; omega
  refine wpAny_call_exc_subT Fx T hC hN hni (fun h' a hm => ?_) one
  have hn : H1 a = none := I1.hok.gone hm.new
  obtain ⟨t, ht, tn, ht2⟩ := hm.there
  have tn1 : H1 t = none := I1.hok.gone tn
  have nat : a ≠ t := fun z => by
    rw [z] at ht
    rw [ht] at ht2
    cases ht2
  have J1 : Inv X pins σ (upd H1 t (.tup [v])) { s1 with heap := h' } := I1.laidN hm.keeps tn tn1 ⟨by show 1 ≤ sizeLine; exact one, [u], .cons r1 .nil, _, ht2, rfl, _, rfl⟩
  have ha : upd H1 t (.tup [v]) a = none := by rw [upd_ne nat]; exact hn
  have n0 : a ∉ X.ex → X.s_0.heap.get? a = none := fun hx => by
    cases z : X.s_0.heap.get? a with
    | none => rfl
    | some o =>
      obtain ⟨o', e1⟩ := I1.base.there a o z hx
      rw [hm.new] at e1
      cases e1
  have J2 := track2 (o := ExT (.ref C) a t) J1 ht ha n0 (fun z => by
      obtain ⟨m, e1, _⟩ := I1.loc
      obtain ⟨_, _, _, e2, _⟩ := e1
      rw [← z, hm.new] at e2
      cases e2) (fun v z => by cases z) (fun p hp z => by
      obtain ⟨e1, _⟩ := I1.pin p hp
      rw [z, hm.new] at e1
      cases e1) (exT_ok ht)
  exact ⟨.ref a, _, J2, rfl, q1 a t hn tn1 nat⟩
end
end PT

set_option maxRecDepth 100000
set_option maxHeartbeats 2000000
/-! XO: an exception class with an __init__ that hands its one parameter on (super().__init__(x)) and keeps it (self.x = x) -/
namespace XO
open PySem PySem.W PySem.Calls PyProof.Rows PySem.Spec L2
abbrev initPar (f : Str) (q0 q1 : Pos) : Arguments := { posonlyargs := [], args := [{ arg := "self", annotation := none, pos := q0 }, { arg := f, annotation := none, pos := q1 }], vararg := none, kwonlyargs := [], kw_defaults := [], kwarg := none, defaults := [] }
abbrev initBody (f : Str) (p0 p1 p2 p3 p4 p5 p6 p7 p8 p9 : Pos) : List Stmt :=
  [.Expr (.Call (.Attribute (.Call (.Name "super" p0) [] [] p1) "__init__" p2) [.Name f p3] [] p4) p5, .Assign [.Attribute (.Name "self" p6) f p7] (.Name f p8) p9]
abbrev exVE : List Value := [.type "ValueError", .type "Exception", .type "BaseException", .type "object"]
structure InitF (prog : Program) (K : Frag) (C fI : Addr) (f : Str) (fd : FuncData) (body : List Stmt) (scope : Scope) (qual : Str) (cda cc : Addr) : Prop where
  lk : ∃ oc od osl, K.lookup fI = some ⟨oc, od, .func fd, osl⟩
  shape : ∃ name q0 q1 doc pm an ct, fd = ksFn name qual (initPar f q0 q1) body scope .none .none doc pm an (.ref cda) ct cc
  bd : ∃ p0 p1 p2 p3 p4 p5 p6 p7 p8 p9, body = initBody f p0 p1 p2 p3 p4 p5 p6 p7 p8 p9 ∧ (p2.endLine == p4.line) = true
  code : codeIn K (.ref cda) qual = true
  file : ∃ ccl cdd vs ccs file tf, K.lookup cda = some ⟨ccl, cdd, .fields vs, ccs⟩ ∧ vs[2]? = some (.str file tf) ∧ ((prog.main.file : Str) == file) = true
  cell : ∃ cl cld csl, K.lookup cc = some ⟨cl, cld, .cell (some (.ref C)), csl⟩
  self : scope.names.lookup ("self" : Str) = some .local
  par : scope.names.lookup f = some .local
  cls : scope.names.lookup ("__class__" : Str) = some .free
  sup : scope.names.lookup ("super" : Str) = some .globalImplicit
  nocell : ∀ x ∈ scope.names, x.2 ≠ .cell
  kind : scope.kind = .function
  gen : scope.isGenerator = false
  co : scope.isCoroutine = false
  fs : f ≠ "self"
  fd : (f == ("__debug__" : Str)) = false
structure InitC (prog : Program) (K : Frag) (C fI : Addr) (f : Str) : Prop where
  ox : OexC K C
  iC : findIn K (.ref C) "__init__" = some (some (.ref fI))
  tI : typeIn K (.ref fI) = some (.type "function")
  fn : ∃ fd body scope qual cda cc, InitF prog K C fI f fd body scope qual cda cc
  up : ks_superIn K C C "__init__" = some (some (.builtin "ValueError.__init__"))
  sub : mroIn K C (.ref C) = some true
  vE : subIn K (.ref C) (.type "ValueError") = some true
  no : findIn K (.ref C) f = some none
  xi : excInitIn K C exVE "ValueError.__new__" = true
  tp : nsIn K cStatics "thirdparty.any" = some none
  top : (prog.main.scope.names.lookup ("super" : Str)).isSome = false
  cd : ∃ cd, clsIn K C = some cd
theorem eval_sup {env : Env} {f : Str} {p0 p1 p2 p3 p4 : Pos} (e : (p2.endLine == p4.line) = true) : eval (.Call (.Attribute (.Call (.Name "super" p0) [] [] p1) "__init__" p2) [.Name f p3] [] p4) env = (do
      let ov ← attributeBase (.Call (.Name "super" p0) [] [] p1) "__init__" env (eval (.Call (.Name "super" p0) [] [] p1) env)
      standAt p2.atName
      let (ff, first) ← holding [ov] (getMethod ov "__init__" (do return (← importBound (.Call (.Name "super" p0) [] [] p1) env).getD true))
      callWith p4 ff first (backTo p4 (starEach [.Name f p3] env)) []) := by
  have m : ∀ o : Expr, methodCallPos true o env p2 p4 = pure p4 := fun o => by
    unfold methodCallPos
    rw [e]
    rfl
  show (do
    let ov ← attributeBase (.Call (.Name "super" p0) [] [] p1) "__init__" env (eval (.Call (.Name "super" p0) [] [] p1) env)
    standAt p2.atName
    (do
      let (ff, first) ← holding [ov] (getMethod ov "__init__" (do return (← importBound (.Call (.Name "super" p0) [] [] p1) env).getD true))
      let callPos ← methodCallPos true (.Call (.Name "super" p0) [] [] p1) env p2 p4
      callWith callPos ff first (backTo p4 (starEach [.Name f p3] env)) [])) = _
  simp only [m, pure_bind]
section
variable {prog : Program} {w : World} {K : Frag} {mg : Str → Option Value} {base hp : Heap} {A : Around} {R : Result → Shared → Prop} {s : Shared} {C fI a t0 : Addr} {us0 : List Value} {u : Value} {f : Str} {args : Args}
theorem init_run (M : Mod K mg base) (ms : mg "super" = none) (T : InitC prog K C fI f) (kb : ∀ b o, base.get? b = some o → hp.get? b = some o)
    (k0 : ∀ b o, hp.get? b = some o → s.heap.get? b = some o) (sz : hp.objs.size ≤ s.heap.objs.size) (na : hp.get? a = none) (nt : hp.get? t0 = none) (nat : a ≠ t0)
    (ha : s.heap.get? a = some (excObj C t0 none .none)) (ht : s.heap.get? t0 = some (excTup us0)) (hroom : A.depth < recursionLimit)
    (hbind : ∀ fd body scope qual cda cc, InitF prog K C fI f fd body scope qual cda cc → BindsTo s fd args [("self", .ref a), (f, u)])
    (hq : ∀ h' t1 dx tk, (∀ b o, hp.get? b = some o → h'.get? b = some o) → hp.get? dx = none → dx ≠ a → h'.get? a = some (excObj C t1 (some dx) .none) → h'.Ns1 dx (fun y => if y = f then some u else none) →
      R (.ok (.ret .none)) { s with heap := h', toks := tk }) :
    codeAny (model prog w) A (.call (.ref fI) args) R s := by
  obtain ⟨fd, body, scope, qual, cda, cc, I⟩ := T.fn
  obtain ⟨kd, nms, ig, ic, mr⟩ := scope
  have hkd : kd = .function := I.kind
  have hig : ig = false := I.gen
  have hic : ic = false := I.co
  subst hkd hig hic
  obtain ⟨oc, od, osl, lk⟩ := I.lk
  have hb := hbind _ _ _ _ _ _ I
  obtain ⟨name, q0, q1, doc, pm, an, ct, rfl⟩ := I.shape
  obtain ⟨p0, p1, p2, p3, p4, p5, p6, p7, p8, p9, rfl, el⟩ := I.bd
  have kx : K.In s.heap := (M.kin.keeps kb).keeps k0
  have lim : s.heap.NoLimit := (M.nolimit.keeps kb).keeps k0
  refine ks_codeAny_call_defAt (fd := ksFn name qual (initPar f q0 q1) _ _ .none .none doc pm an (.ref cda) ct cc) (body := _) (binds := [("self", .ref a), (f, u)]) hroom (kx _ _ lk) rfl lim (codeRec_of kx I.code) rfl hb I.nocell (fun x hx => ?_) (fun h₀ hns hk => ?_) I.co I.gen I.kind
  · rcases List.mem_cons.mp hx with rfl | hx
    · exact I.self
    · rcases List.mem_cons.mp hx with rfl | hx
      · exact I.par
      · exact nomatch hx
  generalize hL : s.heap.objs.size = L at hns
  have hLs : hp.objs.size ≤ L := by rw [← hL]; exact sz
  have k1 : ∀ b o, hp.get? b = some o → h₀.get? b = some o := fun b o e => hk b o (k0 b o e)
  have ltL : ∀ {b : Addr} {o : Obj}, s.heap.get? b = some o → b ≠ L := fun {b o} e => by rw [← hL]; exact Nat.ne_of_lt (Heap.lt_size e)
  have hm0 : ("self" : Str) ≠ f := fun z => I.fs z.symm
  have F : Fr hp L h₀ (fun x => [(("self" : Str), Value.ref a), (f, u)].reverse.lookup x) := ⟨hns, k1, hLs⟩
  have ms0 : (fun x => [(("self" : Str), Value.ref a), (f, u)].reverse.lookup x) ("self" : Str) = some (.ref a) := by
    show List.lookup ("self" : Str) [(f, u), (("self" : Str), Value.ref a)] = _
    rw [List.lookup_cons]
    rw [show (("self" : Str) == f) = false from by simpa using hm0]
    rfl
  have msf : (fun x => [(("self" : Str), Value.ref a), (f, u)].reverse.lookup x) f = some u := by
    show List.lookup f [(f, u), (("self" : Str), Value.ref a)] = _
    rw [List.lookup_cons]
    simp
  have N : News hp L h₀ [(a, excObj C t0 none .none), (t0, excTup us0)] := fun p hp => by
    rcases List.mem_cons.mp hp with rfl | hp
    · exact ⟨hk _ _ ha, ltL ha, na⟩
    · rcases List.mem_cons.mp hp with rfl | hp
      · exact ⟨hk _ _ ht, ltL ht, nt⟩
      · exact nomatch hp
  have X₀ : K.In hp := M.kin.keeps kb
  obtain ⟨ccl, cdd, vs, ccs, file, tf, hcode, hvs, hfile⟩ := I.file
  obtain ⟨cl, cld, csl, hcell⟩ := I.cell
  obtain ⟨mb, hmb, hbt⟩ := M.blt
  obtain ⟨cd, hcd⟩ := T.cd
  have gh : h₀.Ns mainGlobals mg := M.glob.keeps fun b o e => k1 b o (kb b o e)
  have bh : h₀.Ns builtinsNs mb := hmb.keeps fun b o e => k1 b o (kb b o e)
  refine ks_wpAt_execs_cons (ks_wpAt_Expr_any (ks_wpAt_MethodCall ?_ (eval_sup el)))
  show _root_.PySem.wpAt (model prog w) _ (.func _ (ksEnv qual ⟨.function, nms, false, false, mr⟩ L fI (.ref cda) cc)) (attributeBase (.Call (.Name "super" p0) [] [] p1) "__init__" (ksEnv qual ⟨.function, nms, false, false, mr⟩ L fI (.ref cda) cc) _) _ _ _
  have kx0 : K.In h₀ := X₀.keeps k1
  refine ks_wpAt_super_base (env := ksEnv qual ⟨.function, nms, false, false, mr⟩ L fI (.ref cda) cc) I.sup I.cls rfl rfl (kx0 _ _ lk) rfl rfl rfl (kx0 _ _ hcode) rfl hvs hfile T.top ?_
  refine ks_loadName_global I.kind I.sup (loadGlobal_builtin (env := ksEnv qual ⟨.function, nms, false, false, mr⟩ L fI (.ref cda) cc) gh ms bh ((hbt _ (by decide)).trans Boot.«super») ⟨rfl, ?_⟩)
  refine wpAny_loadName_free I.kind I.cls rfl ⟨_, kx0 _ _ hcell, rfl⟩ ?_
  refine wpAny_loadName_local I.kind I.self F.ns ms0 ?_
  obtain ⟨oD, hD1, hD2⟩ : ∃ oD, h₀.get? C = some oD ∧ oD.data = .cls cd := by
    unfold clsIn at hcd
    split at hcd
    · rename_i c d cd' sl ho
      cases hcd
      exact ⟨_, kx0 _ _ ho, rfl⟩
    · cases hcd
  refine ks_wpAny_isType_cls hD1 hD2 ⟨rfl, ?_⟩
  have hI0 : InstAt h₀ a (excObj C t0 none .none) C none := ⟨hk _ _ ha, rfl, rfl, trivial⟩
  refine ks_wpAny_call_super hD1 hD2 (hk _ _ ha) rfl (fun c e => by cases e) (looks_mroIn kx0 T.sub) (fun h1 e1 k2 => ?_)
  obtain ⟨F1, N1, l1⟩ := ks_newsPush (s := { s with heap := h₀, toks := s.toks + 2 }) F N rfl e1 k2
  refine kxs_method (s := { s with heap := h1, toks := s.toks + 2 }) kxs_ValueError F1 X₀ N1 (so := h₀.objs.size) List.mem_cons_self (InstAt.of_exc0 N1 (List.mem_cons_of_mem _ List.mem_cons_self)) T.tp T.up T.vE rfl (fun q h2 F2 N2 l2 => ?_)
  refine kxs_callWith1 N2 List.mem_cons_self ?_
  refine Calls.spliced_cons (ESX.ldL F2.ns msf (Calls.spliced_nil ⟨(N2 _ List.mem_cons_self).1, ?_⟩) rfl I.par I.fd)
  have lta : a < h₀.objs.size := l1 (a, _) List.mem_cons_self
  have ltq : a < q := l2 (a, _) (List.mem_cons_of_mem _ List.mem_cons_self)
  refine kxs_call F2 X₀ N2 PySem.F.excBase_ValueError T.xi List.mem_cons_self (.tail (Nat.ne_of_gt ltq) (.tail (Nat.ne_of_gt lta) (.head fun p hp => by
    rcases List.mem_cons.mp hp with rfl | hp
    · exact Ne.symm nat
    · exact nomatch hp))) (by show 1 ≤ sizeLine; rw [sizeLine_eq]; omega) (fun t' h3 F3 N3 l3 => ?_)
  refine wpAt_of_wpAny (wpAny_execs_cons (plainObj_wpAny_Assign_Attribute (ESX.ldL F3.ns msf (ESX.ldL F3.ns ms0 ?_ rfl I.self rfl) rfl I.par I.fd)))
  have ea : h3.get? a = some (excObj C t' none .none) := (N3 (a, excObj C t' none .none) (by simp)).1
  obtain ⟨nm, qn, Nn, bs, bm, sn, sub, ab, col, dd, j0, j1, j2, j3, j5, hC, hbm⟩ := T.ox.cls
  have hcl : clsIn K C = some { name := nm, bases := bs, mro := .ref C :: bm, ns := Nn, qualname := qn, hasDict := true, slotNames := sn, subclasses := sub, abstract := ab, collection := col, hasDel := false } := by unfold clsIn; rw [hC] <;> rfl
  have kx3 : K.In h3 := X₀.keeps F3.keep
  refine set_plain kx3 (ox := { cls := .ref C, dict := none, data := .fields #[.ref t', .none, .none, .none, .bool false, .none] }) (od := none) ⟨ea, rfl, rfl, trivial⟩ T.ox.sa ?_
  refine HandSPX.exc_osa kx3 ea hcl (show HandSPX.refsVE (.ref C :: bm) = true from hbm) rfl T.no (fun h' tk' dx k dn dne hx hn => ?_)
  refine wpAny_execs_nil (hq h' t' dx tk' (fun b o e => k b o (fun z => by rw [z, na] at e; cases e) (F3.keep b o e)) ?_ dne hx hn)
  cases z : hp.get? dx with
  | none => rfl
  | some o => exact absurd (Heap.lt_size (F3.keep _ _ z)) (Nat.not_lt.mpr dn)
end
end XO

set_option maxRecDepth 100000
set_option maxHeartbeats 2000000
/-! XP: such an exception object as a value -/
namespace XO
open PySem PySem.W PySem.Calls PyProof.Rows PySem.Spec L2
/-- an exception object of a class, its dict told -/
def ExV (cls : Value) (d : Option Addr) (a : Addr) : HO := .ext fun h => ∃ oe : Obj, h.get? a = some oe ∧ Zc cls d oe ∧ ∃ vs, oe.data = .fields vs
theorem exV_ok {P : Program} {w : World} {H : Hp} {h : Heap} {a : Addr} {cls : Value} {d : Option Addr} {oe : Obj} (e : h.get? a = some oe) (z : Zc cls d oe) (y : ∃ vs, oe.data = .fields vs) : ObjOk P w H h a (ExV cls d a) := ⟨⟨oe, e, z, y⟩, ⟨oe, e⟩, fun _ _ ⟨o, q, r⟩ k => ⟨o, k o q, r⟩⟩
section
variable {X : Cx} {pins : List (Addr × Obj)} {σ : L2.St} {H : Hp} {s : Shared}
theorem laid_own {C a t1 dx : Addr} {f : Str} {v : V} {u : Value} {h' : Heap} {tk : Nat} (I : Inv X pins σ H s) (rv : RelV v u) (na : s.heap.get? a = none) (ndx : s.heap.get? dx = none) (dne : dx ≠ a)
    (k : ∀ b o, s.heap.get? b = some o → h'.get? b = some o) (hx : h'.get? a = some (excObj C t1 (some dx) .none)) (hn : h'.Ns1 dx (fun y => if y = f then some u else none)) :
    H a = none ∧ H dx = none ∧ Inv X pins σ (upd (upd H dx (.xd [(f, v)])) a (ExV (.ref C) (some dx) a)) { s with heap := h', toks := tk } := by
  have ha : H a = none := I.hok.gone na
  have hd : H dx = none := I.hok.gone ndx
  refine ⟨ha, hd, ?_⟩
  have J1 : Inv X pins σ (upd H dx (.xd [(f, v)])) { s with heap := h', toks := tk } := I.laidN k ndx hd ⟨_, hn, relO_put (fs := []) rv fun g => True.intro⟩
  refine PT.track2 (o := ExV (.ref C) (some dx) a) J1 hx (by rw [upd_ne (Ne.symm dne)]; exact ha) (fun h => ?_) (fun z => ?_) (fun v z => by cases z) (fun p hp z => ?_) (exV_ok hx ⟨rfl, rfl⟩ ⟨_, rfl⟩)
  · cases z : X.s_0.heap.get? a with
    | none => rfl
    | some o =>
      obtain ⟨o', e1⟩ := I.base.there a o z h
      rw [na] at e1
      cases e1
  · obtain ⟨m, e1, _⟩ := I.loc
    obtain ⟨_, _, _, e2, _⟩ := e1
    rw [← z, na] at e2
    cases e2
  · obtain ⟨e1, _⟩ := I.pin p hp
    rw [z, na] at e1
    cases e1
theorem pe_own {C fI : Addr} {x f : Str} {e : Expr} {ta : TE} {p pos : Pos} {k : Nat} (T : InitC X.prog X.K C fI f) (ms : X.mg "super" = none) (hr : Room (k + 2) X.A) (g : X.mg x = some (.ref C)) (hg : Gl X x)
    (hbind : ∀ (s : Shared) (a u : Value) fd body scope qual cda cc, InitF X.prog X.K C fI f fd body scope qual cda cc → BindsTo s fd ⟨[a, u], []⟩ [("self", a), (f, u)])
    (he : PE X e ta) (hs : starEach [e] X.env = (false, eval e X.env) :: starEach [] X.env := by rfl) (hdb : (x == ("__debug__" : Str)) = false := by decide) :
    PE X (.Call (.Name x p) [e] [] pos) (fun σ H Q => ta σ H fun v H1 => ∀ a dx, H1 a = none → H1 dx = none → dx ≠ a → Q (.ref a) (upd (upd H1 dx (.xd [(f, v)])) a (ExV (.ref C) (some dx) a))) := by
  refine ⟨fun pins s σ H Q I h => wpAny_Call_Name_kw (ld_glob I hg g (PySem.W.callWith_K (h₀ := X.base) I.ok.mod.kin T.ox.kC ?_ hs (by rfl)) hdb)⟩
  rw [hs]
  show wpAny _ _ (spliced ((false, eval e X.env) :: backTo pos (starEach [] X.env))) _ _ s
  refine Calls.spliced_cons (thn (he.run pins s σ H _ I h) fun u s1 ⟨v, H1, I1, r1, q1⟩ => Calls.spliced_nil ⟨I1.kIn, ?_⟩)
  show wpAny _ _ (call (.ref C) [u]) _ _ _
  obtain ⟨nm, q, N, bs, bm, sn, sub, ab, col, dd, k0, k1, k2, k3, k5, hC, hbm⟩ := T.ox.cls
  obtain ⟨hp, g', dr, tk, os⟩ := s1
  have hget : ((hp.push (PySem.W.kdv_tup [u])).push (PySem.HandSPX.excO C hp.objs.size)).get? (hp.objs.size + 1) = some (PySem.HandSPX.excO C hp.objs.size) := by heap_get
  have hget0 : ((hp.push (PySem.W.kdv_tup [u])).push (PySem.HandSPX.excO C hp.objs.size)).get? hp.objs.size = some (PySem.W.kdv_tup [u]) := by heap_get
  have kk : ∀ b o, hp.get? b = some o → ((hp.push (PySem.W.kdv_tup [u])).push (PySem.HandSPX.excO C hp.objs.size)).get? b = some o := fun b o e => Heap.get?_push_of_some _ (Heap.get?_push_of_some _ e)
  have one : [u].length ≤ sizeLine := by show 1 ≤ sizeLine; rw [sizeLine_eq]; omega
  have new : ∀ b, hp.objs.size ≤ b → hp.get? b = none := fun b hb => by
    cases z : hp.get? b with
    | none => rfl
    | some o => exact absurd (Heap.lt_size z) (Nat.not_lt.mpr hb)
  refine wpAny_call (PySem.HandSPX.call_own PySem.F.excBase_ValueError (fun Y => PySem.HandSPX.refsVE_contains Y bm hbm) (I1.kIn _ _ hC) (PySem.W.looks_findIn I1.kIn T.iC) (fun self => PySem.W.bind_fn I1.kIn self T.tI) one
    (init_run (hp := hp) (us0 := [u]) I1.ok.mod ms T I1.bk kk (by rw [Heap.size_push, Heap.size_push]; omega) (new _ (Nat.le_succ _)) (new _ (Nat.le_refl _)) (Nat.succ_ne_self _) hget hget0 (hr.make C [u] []).depth
      (fun fd body scope qual cda cc F => hbind _ _ _ _ _ _ _ _ _ F) fun h' t1 dx tk' k ndx dne hx hn => ?_))
  obtain ⟨n1, n2, J⟩ := laid_own (s := ⟨hp, g', dr, tk, os⟩) (tk := tk') I1 r1 (new _ (Nat.le_succ _)) ndx dne k hx hn
  exact ⟨rfl, .ref (hp.objs.size + 1), _, J, rfl, q1 _ _ n1 n2 dne⟩
end
end XO

set_option maxRecDepth 100000
set_option maxHeartbeats 4000000
/-! XK: such an exception object made by a call with its parameter's name -/
namespace XO
open PySem PySem.HandSPX
section
variable {M : Model} {A : Around} {E : Value → Shared → Prop} {h : Heap} {g : Array GenState} {d : Drawn} {t : Nat} {os : OsState}
variable {nm q : Str} {C N : Addr} {bs bm bmB : List Value} {hdct : Bool} {sn : List Str} {sub : List Value} {ab : Bool} {col : Option Bool} {dd : Option Addr} {k0 k1 k2 k3 k5 : Option Value} {B newId initId : String}
theorem check_newK (F : ExcBaseFacts B newId initId bmB) (hT : ∀ X : String, bm.contains (.type X) = bmB.contains (.type X)) {kw : List (Str × Value)} {Q : Unit → Shared → Prop}
    (hC : h.get? C = some (excClassObj nm q C N bs bm hdct sn sub ab col dd k0 k1 k2 k3 k5 newId)) (hq : Q () ⟨h, g, d, t, os⟩) : wpAny M A (checkBuiltinCall newId ⟨[.ref C], kw⟩) Q E ⟨h, g, d, t, os⟩ := by
  have hcont : (Value.ref C :: bm).contains (.type B) = true := by rw [List.contains_cons, hT, F.hasB, Bool.or_true]
  have hstar := F.noStar
  simp only [checkBuiltinCall, F.newKind, F.newSplit, F.newRow]
  repeat (first | refine wpAny_loadPart_at hC ?_ | (refine wpAny_isSubtype_exc hC ?_; rw [hcont]) | refine wpAny_staticBase_exc hC ?_ | refine wpAny_madeBy_exc hC ?_ | simp only [bne_self_eq_false, Bool.false_eq_true, if_false] | wp_step)
  exact hq
end
section
variable {prog : Program} {w : World} {A : Around} {E : Value → Shared → Prop} {R : Result → Shared → Prop} {h : Heap} {g : Array GenState} {d : Drawn} {t : Nat} {os : OsState}
variable {nm q : Str} {C N : Addr} {bs bm bmB : List Value} {hdct : Bool} {sn : List Str} {sub : List Value} {ab : Bool} {col : Option Bool} {dd : Option Addr} {k0 k1 k2 k3 k5 : Option Value} {B newId initId : String}
theorem newK (F : ExcBaseFacts B newId initId bmB) (hT : ∀ X : String, bm.contains (.type X) = bmB.contains (.type X)) {kw : List (Str × Value)}
    (hC : h.get? C = some (excClassObj nm q C N bs bm hdct sn sub ab col dd k0 k1 k2 k3 k5 newId))
    (hq : R (.ok (.ret (.ref (h.objs.size + 1)))) ⟨(h.push { cls := .type "tuple", data := .seq ([] : List Value).toArray }).push
      { cls := .ref C, data := .fields #[.ref h.objs.size, .none, .none, .none, .bool false, .none] }, g, d, t, os⟩) :
    codeAny (model prog w) A (.builtin newId ⟨[.ref C], kw⟩) R ⟨h, g, d, t, os⟩ := by
  have hends := F.ends
  have hrest : ([] : List Value).length ≤ sizeLine := Nat.zero_le _
  have hcB : (Value.ref C :: bm).contains (.type B) = true := by rw [List.contains_cons, hT, F.hasB, Bool.or_true]
  have hcA : (Value.ref C :: bm).contains (.type "AttributeError") = false := by rw [List.contains_cons, hT, F.noAttr]; rfl
  have hcN : (Value.ref C :: bm).contains (.type "NameError") = false := by rw [List.contains_cons, hT, F.noName]; rfl
  refine codeAny_builtinAt F.entry ?_
  unfold Builtin.«BaseException.__new__»
  refine wpAt_bind ?_
  show wpAt _ _ _ (stack >>= _) _ _ _
  refine wpAt_bind (wpAt_stack fun p below => wpAt_of_wpAny ?_)
  wp_walk
  refine wpAt_of_wpAny ?_
  rw [F.owner]
  repeat (first | with_reducible refine wpAny_madeHere_exc F.canon hC ?_ | with_reducible refine wpAny_loadPart_at hC ?_ | (with_reducible refine wpAny_isSubtype_exc hC ?_; first | rw [hcB] | rw [hcA] | rw [hcN]) | wp_step)
  show R _ _
  rw [Heap.size_push]
  exact hq
theorem type_callK (F : ExcBaseFacts B newId initId bmB) (hT : ∀ X : String, bm.contains (.type X) = bmB.contains (.type X)) {kw : List (Str × Value)} {fI : Addr} {Q : Fin → Shared → Prop}
    (hC : h.get? C = some (excClassObj nm q C N bs bm hdct sn sub ab col dd k0 k1 k2 k3 k5 newId))
    (hi : W.Looks (model prog w) h (typeLookup (.ref C) "__init__") (some (.ref fI))) (hb : ∀ self, W.Looks (model prog w) h (bindSpecial (.ref fI) self) (.ref fI, [self]))
    (hq : codeAny (model prog w) A (.call (.ref fI) ⟨[.ref (h.objs.size + 1)], kw⟩)
      (fun r s' => match r with | .ok (.ret v) => v = .none ∧ Q (.done (.ret (.ref (h.objs.size + 1)))) s' | .ok _ => False | .error e => E e s')
      ⟨(h.push (W.kdv_tup [])).push (excO C h.objs.size), g, d, t, os⟩) :
    wpAny (model prog w) A (Builtin.«type.__call__» ⟨[.ref C], kw⟩) Q E ⟨h, g, d, t, os⟩ := by
  repeat (first | with_reducible refine wpAny_loadPart_at hC ?_ | with_reducible refine wpAny_madeBy_exc hC ?_ | wp_step)
  refine codeAny_call_builtin_code (Code.quiet_builtin _ F.quiet) (check_newK F hT hC ?_)
  refine newK F hT hC ?_
  show wpAny _ _ _ _ _ _
  have k : ∀ b o, h.get? b = some o → ((h.push (W.kdv_tup [])).push (excO C h.objs.size)).get? b = some o := fun b o e => Heap.get?_push_of_some _ (Heap.get?_push_of_some _ e)
  have hC₁ := k _ _ hC
  have hget : ((h.push (W.kdv_tup [])).push (excO C h.objs.size)).get? (h.objs.size + 1) = some (excO C h.objs.size) := by heap_get
  have hcC : (Value.ref C :: bm).contains (.ref C) = true := by simp
  have i1 := hi.keeps k
  have b1 := (hb (.ref (h.objs.size + 1))).keeps k
  unfold isInstance
  repeat (first | with_reducible refine wpAny_loadPart_at hget ?_ | (with_reducible refine wpAny_isSubtype_exc hC₁ ?_; rw [hcC]) | wp_step)
  show wpAny _ _ (typeLookup (.ref C) _) _ _ _
  refine i1.at ?_
  refine wpAny_holding (wpAny_bind (b1.at ?_))
  refine wpAny_bind (wpAny_call (codeAny_mono hq fun r s' z => ?_))
  rcases r with e | (v | _ | _ | _) <;> first | exact z | exact z.elim | skip
  obtain ⟨rfl, z⟩ := z
  first
    | exact wpAny_pure (wpAny_pure z)
    | (wp_walk; exact z)
theorem call_ownK (F : ExcBaseFacts B newId initId bmB) (hT : ∀ X : String, bm.contains (.type X) = bmB.contains (.type X)) {kw : List (Str × Value)} {fI : Addr}
    (hC : h.get? C = some (excClassObj nm q C N bs bm hdct sn sub ab col dd k0 k1 k2 k3 k5 newId))
    (hi : W.Looks (model prog w) h (typeLookup (.ref C) "__init__") (some (.ref fI))) (hb : ∀ self, W.Looks (model prog w) h (bindSpecial (.ref fI) self) (.ref fI, [self]))
    (hq : codeAny (model prog w) (A.under (.builtin "type.__call__" ⟨[.ref C], kw⟩)) (.call (.ref fI) ⟨[.ref (h.objs.size + 1)], kw⟩) (W.InitBack (h.objs.size + 1) R)
      ⟨(h.push (W.kdv_tup [])).push (excO C h.objs.size), g, d, t, os⟩) :
    codeAny (model prog w) A (.call (.ref C) ⟨[], kw⟩) R ⟨h, g, d, t, os⟩ := by
  have f1 := tc_lookup
  have f2 := tc_bind (.ref C)
  have hTy : (⟨h, g, d, t, os⟩ : Shared).TypeIs (.ref C) "type" := ⟨_, hC, rfl⟩
  refine codeAny_of_tree ?_
  show wpAny _ _ (callAny (.ref C) _) _ _ _
  repeat (any_goals (first | assumption | with_reducible refine wpAny_loadPart_at hC ?_ | wp_step))
  refine ⟨rfl, ?_⟩
  refine codeAny_call_builtin_at (Code.quiet_builtin _ (by decide +kernel)) entry_typeCall (wpAny_check_type_call_sub hC (type_callK F hT hC hi hb ?_))
  refine codeAny_mono hq fun r s' z => ?_
  rcases r with e | (v | _ | _ | _) <;> exact z
end
end XO
namespace XO
open PySem PySem.W PySem.Calls PyProof.Rows PySem.Spec L2
section
variable {X : Cx}
theorem pe_ownK {C fI : Addr} {x f : Str} {kws : List Keyword} {ta : TA} {p pos : Pos} {k : Nat} (T : InitC X.prog X.K C fI f) (ms : X.mg "super" = none) (hr : Room (k + 2) X.A) (g : X.mg x = some (.ref C)) (hg : Gl X x)
    (hbind : ∀ (s : Shared) (a u : Value) fd body scope qual cda cc, InitF X.prog X.K C fI f fd body scope qual cda cc → BindsTo s fd ⟨[a], [(f, u)]⟩ [("self", a), (f, u)])
    (ha : PK X kws ta) (hall : (backToKw pos (keywordEach kws X.env)).all (·.1.isSome) = true) (hks : (backToKw pos (keywordEach kws X.env)).filterMap (·.1) = [f]) (hpl : ((backTo pos (starEach [] X.env)).any (·.1) || (backToKw pos (keywordEach kws X.env)).any (·.1.isNone)) = false)
    (hdb : (x == ("__debug__" : Str)) = false := by decide) :
    PE X (.Call (.Name x p) [] kws pos) (fun σ H Q => ta σ H fun vs H1 => ∃ v, vs = [v] ∧ ∀ a dx, H1 a = none → H1 dx = none → dx ≠ a → Q (.ref a) (upd (upd H1 dx (.xd [(f, v)])) a (ExV (.ref C) (some dx) a))) := by
  refine ⟨fun pins s σ H Q I h => wpAny_Call_Name_kw (ld_glob I hg g ?_ hdb)⟩
  refine PySem.W.callWith_KW0 (h₀ := X.base) I.ok.mod.kin T.ox.kC hall ?_ hpl
  rw [hks]
  refine thn (ha.run pos pins s σ H _ I h) fun ws s1 ⟨vs, H1, I1, r1, v, ev, q1⟩ => ⟨I1.kIn, ?_⟩
  subst ev
  obtain ⟨u, rfl, ru⟩ : ∃ u, ws = [u] ∧ RelV v u := by
    cases r1 with
    | cons ru rn => cases rn with | nil => exact ⟨_, rfl, ru⟩
  · show wpAny _ _ (call (.ref C) [] [(f, u)]) _ _ _
    obtain ⟨nm, q, N, bs, bm, sn, sub, ab, col, dd, k0, k1, k2, k3, k5, hC, hbm⟩ := T.ox.cls
    obtain ⟨hp, g', dr, tk, os⟩ := s1
    have hget : ((hp.push (PySem.W.kdv_tup [])).push (PySem.HandSPX.excO C hp.objs.size)).get? (hp.objs.size + 1) = some (PySem.HandSPX.excO C hp.objs.size) := by heap_get
    have hget0 : ((hp.push (PySem.W.kdv_tup [])).push (PySem.HandSPX.excO C hp.objs.size)).get? hp.objs.size = some (PySem.W.kdv_tup []) := by heap_get
    have kk : ∀ b o, hp.get? b = some o → ((hp.push (PySem.W.kdv_tup [])).push (PySem.HandSPX.excO C hp.objs.size)).get? b = some o := fun b o e => Heap.get?_push_of_some _ (Heap.get?_push_of_some _ e)
    have new : ∀ b, hp.objs.size ≤ b → hp.get? b = none := fun b hb => by
      cases z : hp.get? b with
      | none => rfl
      | some o => exact absurd (Heap.lt_size z) (Nat.not_lt.mpr hb)
    refine wpAny_call (call_ownK PySem.F.excBase_ValueError (fun Y => PySem.HandSPX.refsVE_contains Y bm hbm) (I1.kIn _ _ hC) (PySem.W.looks_findIn I1.kIn T.iC) (fun self => PySem.W.bind_fn I1.kIn self T.tI)
      (init_run (hp := hp) (us0 := []) I1.ok.mod ms T I1.bk kk (by rw [Heap.size_push, Heap.size_push]; omega) (new _ (Nat.le_succ _)) (new _ (Nat.le_refl _)) (Nat.succ_ne_self _) hget hget0 (hr.make C [] [(f, u)]).depth
        (fun fd body scope qual cda cc F => hbind _ _ _ _ _ _ _ _ _ F) fun h' t1 dx tk' k ndx dne hx hn => ?_))
    obtain ⟨n1, n2, J⟩ := laid_own (s := ⟨hp, g', dr, tk, os⟩) (tk := tk') I1 ru (new _ (Nat.le_succ _)) ndx dne k hx hn
    exact ⟨rfl, .ref (hp.objs.size + 1), _, J, rfl, q1 _ _ n1 n2 dne⟩
end
end XO

set_option maxRecDepth 100000
set_option maxHeartbeats 4000000
/-! XT: such an exception raised; a try that keeps what it caught -/
namespace XO
open PySem PySem.W PySem.Calls PyProof.Rows PySem.Spec L2
section
variable {X : Cx}
theorem pmk_init {C fI : Addr} {x f : Str} {e : Expr} {ta : TE} {p pos : Pos} {k : Nat} (T : InitC X.prog X.K C fI f) (ms : X.mg "super" = none) (hr : Room (k + 2) X.A) (g : X.mg x = some (.ref C)) (hg : Gl X x)
    (hbind : ∀ (s : Shared) (a u : Value) fd body scope qual cda cc, InitF X.prog X.K C fI f fd body scope qual cda cc → BindsTo s fd ⟨[a, u], []⟩ [("self", a), (f, u)])
    (he : PE X e ta) (hs : starEach [e] X.env = (false, eval e X.env) :: starEach [] X.env := by rfl) (hdb : (x == ("__debug__" : Str)) = false := by decide) :
    PMk X (.Call (.Name x p) [e] [] pos) (fun σ H Q => ta σ H fun v H1 => ∀ dx, H1 dx = none → Q (.ref C) (some dx) (upd H1 dx (.xd [(f, v)]))) := by
  intro pins s σ H Q I h
  refine wpAny_Call_Name_kw (ld_glob I hg g (PySem.W.callWith_K (h₀ := X.base) I.ok.mod.kin T.ox.kC ?_ hs (by rfl)) hdb)
  rw [hs]
  show wpAny _ _ (spliced ((false, eval e X.env) :: backTo pos (starEach [] X.env))) _ _ s
  refine Calls.spliced_cons (thn (he.run pins s σ H _ I h) fun u s1 ⟨v, H1, I1, r1, q1⟩ => Calls.spliced_nil ⟨I1.kIn, ?_⟩)
  show wpAny _ _ (call (.ref C) [u]) _ _ _
  obtain ⟨nm, q, N, bs, bm, sn, sub, ab, col, dd, k0, k1, k2, k3, k5, hC, hbm⟩ := T.ox.cls
  obtain ⟨hp, g', dr, tk, os⟩ := s1
  have hget : ((hp.push (PySem.W.kdv_tup [u])).push (PySem.HandSPX.excO C hp.objs.size)).get? (hp.objs.size + 1) = some (PySem.HandSPX.excO C hp.objs.size) := by heap_get
  have hget0 : ((hp.push (PySem.W.kdv_tup [u])).push (PySem.HandSPX.excO C hp.objs.size)).get? hp.objs.size = some (PySem.W.kdv_tup [u]) := by heap_get
  have kk : ∀ b o, hp.get? b = some o → ((hp.push (PySem.W.kdv_tup [u])).push (PySem.HandSPX.excO C hp.objs.size)).get? b = some o := fun b o e => Heap.get?_push_of_some _ (Heap.get?_push_of_some _ e)
  have one : [u].length ≤ sizeLine := by show 1 ≤ sizeLine; rw [sizeLine_eq]; omega
  have new : ∀ b, hp.objs.size ≤ b → hp.get? b = none := fun b hb => by
    cases z : hp.get? b with
    | none => rfl
    | some o => exact absurd (Heap.lt_size z) (Nat.not_lt.mpr hb)
  refine wpAny_call (PySem.HandSPX.call_own PySem.F.excBase_ValueError (fun Y => PySem.HandSPX.refsVE_contains Y bm hbm) (I1.kIn _ _ hC) (PySem.W.looks_findIn I1.kIn T.iC) (fun self => PySem.W.bind_fn I1.kIn self T.tI) one
    (init_run (hp := hp) (us0 := [u]) I1.ok.mod ms T I1.bk kk (by rw [Heap.size_push, Heap.size_push]; omega) (new _ (Nat.le_succ _)) (new _ (Nat.le_refl _)) (Nat.succ_ne_self _) hget hget0 (hr.make C [u] []).depth
      (fun fd body scope qual cda cc F => hbind _ _ _ _ _ _ _ _ _ F) fun h' t1 dx tk' k ndx dne hx hn => ?_))
  have na : hp.get? (hp.objs.size + 1) = none := new _ (Nat.le_succ _)
  have ha : H1 (hp.objs.size + 1) = none := I1.hok.gone na
  have hd : H1 dx = none := I1.hok.gone ndx
  obtain ⟨G, g1, g2⟩ := restrict h' fun b => decide (b ≠ hp.objs.size + 1)
  have ga : G.get? (hp.objs.size + 1) = none := g2 _ (decide_eq_false fun z => z rfl)
  have gk : ∀ b, b ≠ hp.objs.size + 1 → G.get? b = h'.get? b := fun b hb => g1 b (decide_eq_true hb)
  have gs : ∀ b o, G.get? b = some o → h'.get? b = some o := fun b o e => by
    by_cases hb : b = hp.objs.size + 1
    · rw [hb, ga] at e
      cases e
    · rw [← gk b hb]
      exact e
  have kG : ∀ b o, hp.get? b = some o → G.get? b = some o := fun b o e => by
    rw [gk b (fun z => by rw [z, na] at e; cases e)]
    exact k b o e
  have J : Inv X pins σ (upd H1 dx (.xd [(f, v)])) { heap := G, gens := g', drawn := dr, toks := tk', os := os } := Inv.laidN (s := ⟨hp, g', dr, tk, os⟩) (t' := tk') I1 kG ndx hd ⟨_, hn.at fun o y => (gk dx dne).trans y, relO_put (fs := []) r1 fun g => True.intro⟩
  exact ⟨rfl, hp.objs.size + 1, _, _, ⟨G, g', dr, tk', os⟩, _, .ref C, some dx, rfl, J, gs, ga, hx, ⟨rfl, rfl⟩, rfl, rfl, by rw [upd_ne (Ne.symm dne)]; exact ha, rfl, I1.bare, raises_own T.ox.exC T.ox.tyC, q1 dx hd⟩
end
end XO
namespace XO
open PySem PySem.Spec PyProof.Rows L2
/-- what the try wishes of an exception of its body -/
def wTrV (K : PySem.W.Frag) (c : Value) (i : Nat) (ts : Addr → Value → Option Addr → TS) (D : Ends) : WX := fun cls d σ H => PySem.W.exmOne K cls c = some true ∧
  ∀ a, H a = none → ts a cls d { nx := fun σ' H' => H' a = none → D.nx (σ'.set i none) (upd H' a (ExV cls d a)), rt := fun _ _ => False, bk := fun _ _ => False, ct := fun _ _ => False } (σ.set i (some (.ref a))) H
section
variable {X : Cx} {x n : Str} {c : Value} {i : Nat} {body suite : List Stmt} {np pos pos' : Pos} {tb : WX → TS} {ts : Addr → Value → Option Addr → TS}
theorem ps_tryV (hs : X.stack = X.env :: X.outer) (hf : X.env.frame = some X.env.locals) (hex : X.ex = []) (hN : X.N.Nodup) (hi : X.N[i]? = some n) (hln : X.env.kindOf n = some .local) (hc : Names X x c) (hne : suite ≠ [])
    (hb : ∀ (W : WX) (pn : List (Addr × Obj)) (xe : Value → Shared → Prop), Takes (X.tr pn xe) W → PassesOwn (model X.prog X.w) X.A X.env xe → PSs (X.tr pn xe) body (tb W))
    (hsu : ∀ (a : Addr) (oe : Obj) (cls : Value) (d : Option Addr) (pn : List (Addr × Obj)), PSs (X.suite a ((a, oe) :: pn)) suite (ts a cls d)) :
    PS X (.Try body [.ExceptHandler (some (.Name x np)) (some n) suite pos'] [] [] pos) (fun D σ H => tb (wTrV X.K c i ts D) D σ H) := by
  obtain ⟨b₀, sui, rfl⟩ : ∃ b₀ sui, suite = b₀ :: sui := by
    cases suite with
    | nil => exact absurd rfl hne
    | cons b s => exact ⟨b, s, rfl⟩
  refine ⟨fun pins s σ H D I h => wpAny_Try_except ?_⟩
  have ok := I.ok
  have hfr : X.A.frames = some (X.env :: X.outer) := ok.frames.trans (congrArg some hs)
  refine wpAny_mono ((hb (wTrV X.K c i ts D) (X.pn ++ pins) _ (fun u s' xx => ?_) PassesOwn.looking).run [] s σ H D (I.toTry _) h) (fun f s1 hsp => ?_) (fun e s1 he => he)
  · obtain ⟨a, B, sI, pins', σ', H', cls, d, rfl, J0, nb, up, sky, na, os, ag, hb1, hyes⟩ := xx
    have J : Inv X pins σ' H' sI := J0.ofTry ok
    have sky : Sky B X.stack a (Zc cls d) X.env.locals s'.heap := sky
    rw [hs] at sky
    show wpAny _ X.A (noteFrame (.ref a) X.env) _ _ _
    refine Sky.land Zc.steady hfr hf sky fun h3 fl up3 => ?_
    have J3 : Inv X pins σ' H' { s' with heap := h3 } := J.landed nb fl.1 (up.trans up3) os ag
    obtain ⟨oe, vs, he, hz, hd⟩ := fl.there
    have nfr : a ∉ frs (X.env :: X.outer) := fun hm => by
      obtain ⟨_, o', e', q⟩ := fl.2.2.1.mem hm
      rw [he] at e'
      cases e'
      exact q _ hd
    have nL : a ≠ X.env.locals := fun z => nfr (List.mem_filterMap.mpr ⟨X.env, List.mem_cons_self, by rw [hf, z]⟩)
    have nF : a ∉ X.fs := fun hm => by
      obtain ⟨e, m, q⟩ := List.mem_filterMap.mp hm
      exact nfr (List.mem_filterMap.mpr ⟨e, List.mem_cons_of_mem _ m, q⟩)
    have bn : B.get? a = none := fl.2.1
    have n0 : X.s_0.heap.get? a = none := by
      cases e : X.s_0.heap.get? a with
      | none => rfl
      | some o =>
        obtain ⟨o', e1⟩ := J.base.there a o e (by rw [hex]; exact fun z => nomatch z)
        have := nb a o' e1 (by rw [hs]; exact nfr)
        rw [bn] at this
        cases this
    have np' : ∀ p ∈ X.pn ++ pins, p.1 ≠ a := fun p hp z => by
      obtain ⟨e1, e2, e3, e4, _⟩ := J.pin p hp
      have := nb p.1 p.2 e1 (by rw [hs]; rw [z]; exact nfr)
      rw [z, bn] at this
      cases this
    have S3 := J3.suite he hd na nL nF
    refine wpAny_handleBy_cons (codeAny_handlers_test ?_) (by intro q; cases q)
    have look : PySem.W.Looks (model X.prog X.w) h3 (typeOf (.ref a)) cls := fun A Q E s k q => wpAny_typeOf_ref (k _ _ he) (hz.1.symm ▸ q)
    have exm := PySem.W.exm_one (M := model X.prog X.w) J3.kIn look hb1
    have named : ∀ {Q : Value → Shared → Prop} {E : Value → Shared → Prop}, Q c { s' with heap := h3 } → wpAny (model X.prog X.w) (X.A.mark (some (.ref a))) (eval (.Name x np) X.env) Q E { s' with heap := h3 } := fun {Q E} q => by
      obtain ⟨hg, hdbg, hm | ⟨hm, hv, hnn⟩⟩ := hc
      · exact ld_glob (X := X.suite a ((a, oe) :: (X.pn ++ pins))) S3 hg hm q hdbg
      · exact ld_blt (X := X.suite a ((a, oe) :: (X.pn ++ pins))) S3 hg hm hv q hnn hdbg
    refine named (exm.here (codeAny_handlers_suite_as (HandSPX.lands_againZ fl fun h4 fl4 up4 => ?_)))
    have J4 : Inv X pins σ' H' { s' with heap := h4 } := J.landed nb fl4.1 ((up.trans up3).trans up4) os ag
    obtain ⟨oe4, vs4, he4, hz4, hd4⟩ := fl4.there
    have S4 := J4.suite he4 hd4 na nL nF
    refine store_ok (X := X.suite a ((a, oe4) :: (X.pn ++ pins))) (v := .ref a) S4 hN hi (.inl hln) rfl (fun s5 S5 => ?_) (.inr hln)
    refine wpAny_mono ((hsu a oe4 cls d (X.pn ++ pins)).run [] s5 _ H' _ S5 (hyes a na)) (fun f s6 hsp => ?_) (fun _ _ z => False.elim z)
    cases f with
    | next =>
      obtain ⟨σ6, H6, S6, q6⟩ := hsp
      have S7 : Inv X ((a, oe4) :: pins) σ6 H6 s6 := ⟨ok, S6.os, S6.bare, S6.base, S6.loc, S6.cell, S6.free, S6.freeC, fun p hp => S6.pin p (by
        rw [List.append_nil]
        rcases List.mem_append.mp hp with e | e
        · exact List.mem_cons_of_mem _ (List.mem_append_left _ e)
        · rcases List.mem_cons.mp e with e | e
          · rw [e]; exact List.mem_cons_self
          · exact List.mem_cons_of_mem _ (List.mem_append_right _ e)), S6.hok, S6.len⟩
      refine gone_ok S7 hN hi hln fun s7 J7 => ?_
      obtain ⟨p1, p2, p3, p4, p5⟩ := J7.pin (a, oe4) (List.mem_append_right _ List.mem_cons_self)
      have J8 : Inv X pins (σ6.set i none) H6 s7 := ⟨ok, J7.os, J7.bare, J7.base, J7.loc, J7.cell, J7.free, J7.freeC, fun p hp => J7.pin p (by
        rcases List.mem_append.mp hp with e | e
        · exact List.mem_append_left _ e
        · exact List.mem_append_right _ (List.mem_cons_of_mem _ e)), J7.hok, J7.len⟩
      exact ⟨_, _, PT.track J8 p1 p2 n0 nL p5 np' (exV_ok p1 hz4 ⟨_, hd4⟩), q6 p2⟩
    | brk =>
      obtain ⟨_, _, _, q6⟩ := hsp
      exact False.elim q6
    | cont =>
      obtain ⟨_, _, _, q6⟩ := hsp
      exact False.elim q6
    | ret u =>
      obtain ⟨_, _, _, _, _, q6⟩ := hsp
      exact False.elim q6
  · cases f with
    | next =>
      obtain ⟨σ', H', J', q⟩ := hsp
      exact wpAny_execs_nil ⟨σ', H', J'.ofTry ok, q⟩
    | brk =>
      obtain ⟨σ', H', J', q⟩ := hsp
      exact ⟨_, _, J'.ofTry ok, q⟩
    | cont =>
      obtain ⟨σ', H', J', q⟩ := hsp
      exact ⟨_, _, J'.ofTry ok, q⟩
    | ret u =>
      obtain ⟨v, σ', H', J', r, q⟩ := hsp
      exact ⟨_, _, _, J'.ofTry ok, r, q⟩
end
end XO

set_option maxRecDepth 100000
set_option maxHeartbeats 4000000
namespace PF
open PySem L2
/-! ### the heap without some addresses; data in it -/
def Wo (H : Hp) (O : List Addr) : Hp := fun a => if a ∈ O then none else H a
theorem wo_out {H : Hp} {O : List Addr} {a : Addr} (h : a ∉ O) : Wo H O a = H a := by unfold Wo; rw [if_neg h]
theorem wo_some {H : Hp} {O : List Addr} {a : Addr} {o : HO} (h : Wo H O a = some o) : a ∉ O ∧ H a = some o := by
  unfold Wo at h
  split at h
  · cases h
  · exact ⟨by assumption, h⟩
theorem sq_t {K : PySem.W.Frag} {H H' : Hp} {a : Addr} {xs : List V} (e : Same H H') (h : SqT K H a xs) : SqT K H' a xs := by
  rcases h with (h | ⟨o, h⟩) | h
  · exact .inl (.inl (e _ _ h))
  · exact .inl (.inr ⟨o, e _ _ h⟩)
  · exact .inr h
def tyName : Ty → String
  | .int => "int" | .bool => "bool" | .str => "str" | .list => "list" | .tuple => "tuple"
/-- a class of exceptions of the module, by its name -/
structure ObjC (K : PySem.W.Frag) (c : Str) : Prop where
  ex : ExcC K (He.ga K c)
  ty : ∀ t : Ty, PySem.W.kitOne K (.ref (He.ga K c)) (.type (tyName t)) = some false
  ve : PySem.W.kitOne K (.ref (He.ga K c)) (.type "ValueError") = some true
/-- a class whose objects show under its name -/
structure NamC (K : PySem.W.Frag) (c : Str) : Prop where
  f : PySem.W.findIn K (.ref (He.ga K c)) "__repr__" = some (some (.builtin "BaseException.__repr__"))
  s : PySem.W.subIn K (.ref (He.ga K c)) (.type "BaseException") = some true
  n : ∃ cd, PySem.W.clsIn K (He.ga K c) = some cd ∧ excReprHead cd.name.toString = c
/-- a class whose objects' field may be read -/
structure AttC (K : PySem.W.Frag) (c f : Str) : Prop where
  x : XfC K (He.ga K c)
  n : PySem.W.findIn K (.ref (He.ga K c)) f = some none
mutual
/-- data in the heap, exception objects among it -/
inductive Dp (K : PySem.W.Frag) (H : Hp) : V → PyData → Prop
  | non : Dp K H .non .none
  | bl (b : Bool) : Dp K H (.bl b) (.bool b)
  | int (i : Int) : Dp K H (.int i) (.int i)
  | str (x : Str) : Dp K H (.str x) (.str x)
  | lst {a : Addr} {xs : List V} {ds : List PyData} : SqL K H a xs → DpAll K H xs ds → Dp K H (.ref a) (.list ds)
  | tup {a : Addr} {xs : List V} {ds : List PyData} : H a = some (.tup xs) → DpAll K H xs ds → Dp K H (.ref a) (.tuple ds)
  | ktup {a : Addr} {ns : List Int} : (∀ H' : Hp, SqT K H' a (ns.map V.int)) → (∃ o, K.lookup a = some o ∧ o.cls = .type "tuple") → Dp K H (.ref a) (kD ns)
  | obj {a : Addr} {c : Str} : ObjC K c → H a = some (_root_.PT.ExW (.ref (He.ga K c)) a) → Dp K H (.ref a) (objD c)
  | objM {a t : Addr} {c s : Str} : ObjC K c → NamC K c → H a = some (_root_.PT.ExT (.ref (He.ga K c)) a t) → H t = some (.tup [.str s]) → Dp K H (.ref a) (objM c s)
  | objA {a dx : Addr} {c f : Str} {w : V} {v : PyData} : ObjC K c → AttC K c f → H a = some (_root_.XO.ExV (.ref (He.ga K c)) (some dx) a) → H dx = some (.xd [(f, w)]) → Dp K H w v → Dp K H (.ref a) (objA c f v)
inductive DpAll (K : PySem.W.Frag) (H : Hp) : List V → List PyData → Prop
  | nil : DpAll K H [] []
  | cons {v : V} {vs : List V} {d : PyData} {ds : List PyData} : Dp K H v d → DpAll K H vs ds → DpAll K H (v :: vs) (d :: ds)
end
mutual
theorem Dp.old {K : PySem.W.Frag} {H : Hp} : ∀ {v : V} {d : PyData}, Dp K H v d → d.hasDict = false → L2.Dp K H v d
  | _, _, .non, _ => .non
  | _, _, .bl b, _ => .bl b
  | _, _, .int i, _ => .int i
  | _, _, .str x, _ => .str x
  | _, _, .lst h t, c => .lst h (DpAll.old t c)
  | _, _, .tup h t, c => .tup (.inl (.inl h)) (DpAll.old t c)
  | _, _, .ktup _ _, c => by cases c
  | _, _, .obj _ _, c => by cases c
  | _, _, .objM _ _ _ _, c => by cases c
  | _, _, .objA _ _ _ _ _, c => by cases c
theorem DpAll.old {K : PySem.W.Frag} {H : Hp} : ∀ {vs : List V} {ds : List PyData}, DpAll K H vs ds → PyData.hasDictAll ds = false → L2.DpAll K H vs ds
  | _, _, .nil, _ => .nil
  | _, _, .cons h t, c => by
    have c : (PyData.hasDict _ || PyData.hasDictAll _) = false := c
    rw [Bool.or_eq_false_iff] at c
    exact .cons (Dp.old h c.1) (DpAll.old t c.2)
end
/-- what is no dict stays -/
def SameD (H H' : Hp) : Prop := ∀ a o, (∀ us, o ≠ HO.dT us) → H a = some o → H' a = some o
mutual
theorem dp_sameD {K : PySem.W.Frag} {H H' : Hp} (e : SameD H H') : ∀ {v : V} {d : PyData}, Dp K H v d → Dp K H' v d
  | _, _, .non => .non
  | _, _, .bl b => .bl b
  | _, _, .int i => .int i
  | _, _, .str x => .str x
  | _, _, .lst h t => .lst (by
      rcases h with (h | ⟨o, h⟩) | h
      · exact .inl (.inl (e _ _ (fun _ z => by cases z) h))
      · exact .inl (.inr ⟨o, e _ _ (fun _ z => by cases z) h⟩)
      · exact .inr h) (dps_sameD e t)
  | _, _, .tup h t => .tup (e _ _ (fun _ z => by cases z) h) (dps_sameD e t)
  | _, _, .ktup h c => .ktup h c
  | _, _, .obj c h => .obj c (e _ _ (fun _ z => by cases z) h)
  | _, _, .objM c n h t => .objM c n (e _ _ (fun _ z => by cases z) h) (e _ _ (fun _ z => by cases z) t)
  | _, _, .objA c n h t d => .objA c n (e _ _ (fun _ z => by cases z) h) (e _ _ (fun _ z => by cases z) t) (dp_sameD e d)
theorem dps_sameD {K : PySem.W.Frag} {H H' : Hp} (e : SameD H H') : ∀ {vs : List V} {ds : List PyData}, DpAll K H vs ds → DpAll K H' vs ds
  | _, _, .nil => .nil
  | _, _, .cons h t => .cons (dp_sameD e h) (dps_sameD e t)
end
theorem ktup_inv {K : PySem.W.Frag} {H : Hp} {v : V} {xs : List PyData} (h : Dp K H v (.dict [(.bool true, .tuple xs)])) : ∃ (a : Addr) (ns : List Int), v = .ref a ∧ xs = ns.map .int ∧ (∀ H' : Hp, SqT K H' a (ns.map V.int)) ∧ ∃ o, K.lookup a = some o ∧ o.cls = .type "tuple" := by
  generalize hx : PyData.dict [(.bool true, .tuple xs)] = x at h
  cases h with
  | ktup h c =>
    unfold kD at hx
    simp only [PyData.dict.injEq, List.cons.injEq, Prod.mk.injEq, PyData.tuple.injEq, and_true, true_and] at hx
    exact ⟨_, _, rfl, hx, h, c⟩
  | obj c h =>
    unfold objD at hx
    simp at hx
  | objM c n h t =>
    unfold objM at hx
    simp at hx
  | objA c n h t d =>
    unfold objA at hx
    simp at hx
  | _ => cases hx
theorem tk_sq {K : PySem.W.Frag} {H : Hp} {a : Addr} {xs : List V} (h : H a = some (.tup xs)) : SqT K H a xs := .inl (.inl h)
mutual
theorem dp_mono {K : PySem.W.Frag} {H H' : Hp} (e : Same H H') : ∀ {v : V} {d : PyData}, Dp K H v d → Dp K H' v d
  | _, _, .non => .non
  | _, _, .bl b => .bl b
  | _, _, .int i => .int i
  | _, _, .str x => .str x
  | _, _, .lst h t => .lst (e.seq h) (dps_mono e t)
  | _, _, .tup h t => .tup (e _ _ h) (dps_mono e t)
  | _, _, .ktup h c => .ktup h c
  | _, _, .obj c h => .obj c (e _ _ h)
  | _, _, .objM c n h t => .objM c n (e _ _ h) (e _ _ t)
  | _, _, .objA c n h t d => .objA c n (e _ _ h) (e _ _ t) (dp_mono e d)
theorem dps_mono {K : PySem.W.Frag} {H H' : Hp} (e : Same H H') : ∀ {vs : List V} {ds : List PyData}, DpAll K H vs ds → DpAll K H' vs ds
  | _, _, .nil => .nil
  | _, _, .cons h t => .cons (dp_mono e h) (dps_mono e t)
end
def Chg (O : List Addr) (H H' : Hp) : Prop := ∀ a o, H a = some o → a ∉ O → H' a = some o
theorem Chg.refl {O : List Addr} {H : Hp} : Chg O H H := fun _ _ h _ => h
theorem Chg.trans {O : List Addr} {H H1 H2 : Hp} (a : Chg O H H1) (b : Chg O H1 H2) : Chg O H H2 := fun c o h n => b c o (a c o h n) n
theorem Chg.wo {O : List Addr} {H H' : Hp} (c : Chg O H H') : Same (Wo H O) (Wo H' O) := fun a o h => by
  obtain ⟨n, e⟩ := wo_some h
  rw [wo_out n]
  exact c a o e n
theorem Chg.wo2 {O O' : List Addr} {H H' : Hp} (c : Chg O H H') (hs : ∀ a, a ∈ O → a ∈ O') : Same (Wo H O') (Wo H' O') := fun a o h => by
  obtain ⟨n, e⟩ := wo_some h
  rw [wo_out n]
  exact c a o e fun z => n (hs a z)
theorem wo_sub {H : Hp} {O O' : List Addr} (hs : ∀ a, a ∈ O → a ∈ O') : Same (Wo H O') (Wo H O) := fun a o h => by
  obtain ⟨n, e⟩ := wo_some h
  rw [wo_out fun z => n (hs a z)]
  exact e
theorem wo_all {H : Hp} {O : List Addr} : Same (Wo H O) H := fun a o h => (wo_some h).2
theorem wo_cons {H : Hp} {O : List Addr} {p : Addr} : Same (Wo H (p :: O)) (Wo H O) := wo_sub fun _ h => List.mem_cons_of_mem _ h
/-- a new object beside -/
theorem chg_new {O : List Addr} {H : Hp} {p : Addr} {o : HO} (h : H p = none) : Chg O H (upd H p o) := fun a u e _ => by rw [upd_ne (ne_of_none e h)]; exact e
theorem wo_new {H : Hp} {O : List Addr} {p : Addr} {o : HO} (h : H p = none) : Same (Wo H O) (Wo (upd H p o) (p :: O)) := fun a u e => by
  obtain ⟨n, e⟩ := wo_some e
  have ne := ne_of_none e h
  rw [wo_out (by simp only [List.mem_cons, not_or]; exact ⟨ne, n⟩), upd_ne ne]
  exact e

theorem dps_len {K : PySem.W.Frag} {H : Hp} : ∀ {vs : List V} {ds : List PyData}, DpAll K H vs ds → vs.length = ds.length
  | _, _, .nil => rfl
  | _, _, .cons _ t => by rw [List.length_cons, List.length_cons, dps_len t]
theorem dps_get {K : PySem.W.Frag} {H : Hp} : ∀ {vs : List V} {ds : List PyData} {i : Nat} {d : PyData}, DpAll K H vs ds → ds[i]? = some d → ∃ v, vs[i]? = some v ∧ Dp K H v d
  | _, _, _, _, .nil, e => by simp at e
  | _, _, 0, _, .cons h _, e => by simp at e; subst e; exact ⟨_, rfl, h⟩
  | _, _, i + 1, d, .cons _ t, e => by
    obtain ⟨v, h1, h2⟩ := dps_get (i := i) (d := d) t (by simpa using e)
    exact ⟨v, by simpa using h1, h2⟩
theorem dps_getV {K : PySem.W.Frag} {H : Hp} : ∀ {vs : List V} {ds : List PyData} {i : Nat} {v : V}, DpAll K H vs ds → vs[i]? = some v → ∃ d, ds[i]? = some d ∧ Dp K H v d
  | _, _, _, _, .nil, e => by simp at e
  | _, _, 0, _, .cons h _, e => by simp at e; subst e; exact ⟨_, rfl, h⟩
  | _, _, i + 1, d, .cons _ t, e => by
    obtain ⟨v, h1, h2⟩ := dps_getV (i := i) (v := d) t (by simpa using e)
    exact ⟨v, by simpa using h1, h2⟩
theorem dps_append {K : PySem.W.Frag} {H : Hp} : ∀ {vs us : List V} {ds es : List PyData}, DpAll K H vs ds → DpAll K H us es → DpAll K H (vs ++ us) (ds ++ es)
  | _, _, _, _, .nil, q => q
  | _, _, _, _, .cons h t, q => .cons h (dps_append t q)
theorem dps_set {K : PySem.W.Frag} {H : Hp} {v : V} {d : PyData} (h : Dp K H v d) : ∀ {vs : List V} {ds : List PyData} (j : Nat), DpAll K H vs ds → DpAll K H (vs.set j v) (ds.set j d)
  | _, _, _, .nil => .nil
  | _, _, 0, .cons _ t => .cons h t
  | _, _, j + 1, .cons q t => .cons q (dps_set h j t)
theorem dps_take {K : PySem.W.Frag} {H : Hp} : ∀ {vs : List V} {ds : List PyData} (n : Nat), DpAll K H vs ds → DpAll K H (vs.take n) (ds.take n)
  | _, _, 0, _ => .nil
  | _, _, _ + 1, .nil => .nil
  | _, _, n + 1, .cons r t => .cons r (dps_take n t)
theorem dps_drop {K : PySem.W.Frag} {H : Hp} : ∀ {vs : List V} {ds : List PyData} (n : Nat), DpAll K H vs ds → DpAll K H (vs.drop n) (ds.drop n)
  | _, _, 0, r => r
  | _, _, _ + 1, .nil => .nil
  | _, _, n + 1, .cons _ t => dps_drop n t
theorem dps_rev {K : PySem.W.Frag} {H : Hp} : ∀ {vs : List V} {ds : List PyData}, DpAll K H vs ds → DpAll K H vs.reverse ds.reverse
  | _, _, .nil => .nil
  | _, _, .cons h t => by rw [List.reverse_cons, List.reverse_cons]; exact dps_append (dps_rev t) (.cons h .nil)
theorem dps_flat {K : PySem.W.Frag} {H : Hp} {vs : List V} {ds : List PyData} (h : DpAll K H vs ds) : ∀ n : Nat, DpAll K H (List.replicate n vs).flatten (List.replicate n ds).flatten
  | 0 => .nil
  | n + 1 => by rw [List.replicate_succ, List.replicate_succ, List.flatten_cons, List.flatten_cons]; exact dps_append h (dps_flat h n)

/-! ### slots -/
theorem getE_len : ∀ {env : AEnv} {i : Nat} {v : AV}, getE env i = some v → i < env.length
  | [], _, _, h => by cases h
  | _ :: _, 0, _, _ => by simp
  | _ :: l, i + 1, v, h => by have := getE_len (env := l) (i := i) h; simp; omega
theorem setE_len : ∀ (env : AEnv) (i : Nat) (v : Option AV), (setE env i v).length = env.length
  | [], _, _ => rfl
  | _ :: _, 0, _ => rfl
  | _ :: l, i + 1, v => by show (setE l i v).length + 1 = l.length + 1; rw [setE_len l i v]
theorem get_set : ∀ (env : AEnv) (i j : Nat) (v : Option AV), getE (setE env i v) j = if j = i then (if i < env.length then v else none) else getE env j
  | [], i, j, v => by simp [setE, getE]
  | x :: l, 0, 0, v => by simp [setE, getE]
  | x :: l, 0, j + 1, v => by simp [setE, getE]
  | x :: l, i + 1, 0, v => by simp [setE, getE]
  | x :: l, i + 1, j + 1, v => by
    show getE (setE l i v) j = _
    rw [get_set l i j v]
    simp [getE]
theorem get_set_same {env : AEnv} {i : Nat} {v : Option AV} (h : i < env.length) : getE (setE env i v) i = v := by rw [get_set, if_pos rfl, if_pos h]
theorem get_set_ne {env : AEnv} {i j : Nat} {v : Option AV} (h : j ≠ i) : getE (setE env i v) j = getE env j := by rw [get_set, if_neg h]

/-! ### what an environment stands for -/
/-- a def's entry: what was owned by others, the heap, the lent parameters -/
structure Fi where
  O0 : List Addr
  H0 : Hp
  par : Nat → Option Addr
  cm : Bool := false
def Fi.lent (F : Fi) (a : Addr) : Prop := ∃ i, F.par i = some a
def flV : PyData → V
  | .bool b => .bl b
  | .int i => .int i
  | .str s => .str s
  | _ => .non
def dcE (kvs : List (Ky × PyData)) : List (List Key × V) := kvs.map fun kv => (kv.1, flV kv.2)
/-- what a slot's dict stands for -/
structure Dc (F : Fi) (O : List Addr) (H : Hp) (σ : L2.St) (env : AEnv) (i : Nat) (kvs : List (Ky × PyData)) (p : Addr) : Prop where
  at_ : σ[i]? = some (some (.ref p))
  out : p ∉ O
  ent : F.cm = true ∨ F.H0 p = none
  has : H p = some (.dT (dcE kvs))
  flat : ∀ kv ∈ kvs, flatD kv.2 = true
  one : ∀ j kvs', getE env j = some (.m kvs') → σ[j]? = some (some (.ref p)) → j = i
def DicOk (F : Fi) (O : List Addr) (H : Hp) (σ : L2.St) (env : AEnv) : Prop := ∀ i kvs, getE env i = some (.m kvs) → ∃ p, Dc F O H σ env i kvs p
theorem DicOk.move {F F' : Fi} {O O' : List Addr} {H H' : Hp} {σ σ' : L2.St} {env env' : AEnv} (d : DicOk F O H σ env) (h1 : ∀ i kvs, getE env' i = some (.m kvs) → getE env i = some (.m kvs) ∧ σ'[i]? = σ[i]?)
    (h2 : ∀ p us, H p = some (.dT us) → p ∉ O → H' p = some (.dT us) ∧ p ∉ O') (h3 : ∀ p, F.cm = true ∨ F.H0 p = none → F'.cm = true ∨ F'.H0 p = none) : DicOk F' O' H' σ' env' := fun i kvs q => by
  obtain ⟨q1, q2⟩ := h1 i kvs q
  obtain ⟨p, c⟩ := d i kvs q1
  obtain ⟨g1, g2⟩ := h2 p _ c.has c.out
  exact ⟨p, by rw [q2]; exact c.at_, g2, h3 p c.ent, g1, c.flat, fun j kvs' q3 r => by
    obtain ⟨q4, q5⟩ := h1 j kvs' q3
    rw [q5] at r
    exact c.one j kvs' q4 r⟩
structure EnvOk (K : PySem.W.Frag) (F : Fi) (O : List Addr) (H : Hp) (σ : L2.St) (env : AEnv) : Prop where
  len : σ.length = env.length
  dat : ∀ i x, getE env i = some (.d x) → ∃ v, σ[i]? = some (some v) ∧ Dp K (Wo H O) v x
  own : ∀ i ds, getE env i = some (.o ds) → ∃ p vs, σ[i]? = some (some (.ref p)) ∧ p ∈ O ∧ H p = some (.lst vs) ∧ DpAll K (Wo H O) vs ds
  nob : ∀ i j, getE env i ≠ some (.b j)
  inj : ∀ i j ds ds' p, getE env i = some (.o ds) → getE env j = some (.o ds') → σ[i]? = some (some (.ref p)) → σ[j]? = some (some (.ref p)) → i = j
  live : ∀ p ∈ O, ∃ vs, H p = some (.lst vs)
  sub : ∀ p ∈ F.O0, p ∈ O
  new : ∀ p ∈ O, p ∈ F.O0 ∨ F.H0 p = none
  keep : ∀ a o, F.H0 a = some o → ¬ F.lent a → H a = some o
  ownF : ∀ i ds p, getE env i = some (.o ds) → σ[i]? = some (some (.ref p)) → F.lent p ∨ F.H0 p = none
  par : ∀ i p, F.par i = some p → σ[i]? = some (some (.ref p)) ∧ ∃ ds, getE env i = some (.o ds)
  dic : DicOk F O H σ env
section
variable {K : PySem.W.Frag} {F : Fi} {O : List Addr} {H H' : Hp} {σ : L2.St} {env : AEnv}
theorem EnvOk.notO (e : EnvOk K F O H σ env) {p : Addr} (h : H p = none) : p ∉ O := fun z => by
  obtain ⟨vs, q⟩ := e.live p z
  rw [h] at q; cases q
theorem EnvOk.liveN (e : EnvOk K F O H σ env) : ∀ p ∈ O, H p ≠ none := fun p hp z => by
  obtain ⟨vs, q⟩ := e.live p hp
  rw [z] at q; cases q
theorem EnvOk.notT (e : EnvOk K F O H σ env) {p : Addr} {xs : List V} (h : H p = some (.tup xs)) : p ∉ O := fun z => by
  obtain ⟨vs, q⟩ := e.live p z
  rw [h] at q; cases q
/-- nothing but new objects: the environment stands as it was -/
theorem EnvOk.grow (e : EnvOk K F O H σ env) (s : Same H H') : EnvOk K F O H' σ env where
  len := e.len
  dat := fun i x h => by
    obtain ⟨v, h1, h2⟩ := e.dat i x h
    exact ⟨v, h1, dp_mono (Chg.wo fun a o z _ => s a o z) h2⟩
  own := fun i ds h => by
    obtain ⟨p, vs, h1, h2, h3, h4⟩ := e.own i ds h
    exact ⟨p, vs, h1, h2, s _ _ h3, dps_mono (Chg.wo fun a o z _ => s a o z) h4⟩
  nob := e.nob
  inj := e.inj
  live := fun p hp => by
    obtain ⟨vs, q⟩ := e.live p hp
    exact ⟨vs, s _ _ q⟩
  sub := e.sub
  new := e.new
  keep := fun a o h n => s _ _ (e.keep a o h n)
  ownF := e.ownF
  par := e.par
  dic := e.dic.move (fun i kvs q => ⟨q, rfl⟩) (fun p us h n => ⟨s _ _ h, n⟩) fun _ z => z
/-- the list that a slot owns is another one -/
theorem EnvOk.put (e : EnvOk K F O H σ env) {j : Nat} {ds ds' : List PyData} {p : Addr} {vs' : List V} (h : getE env j = some (.o ds)) (hp : σ[j]? = some (some (.ref p))) (hk : Chg O H H') (ho : ∀ a o, H a = some o → a ≠ p → H' a = some o) (hq : H' p = some (.lst vs')) (hd : DpAll K (Wo H' O) vs' ds') :
    EnvOk K F O H' σ (setE env j (some (.o ds'))) := by
  have hj := getE_len h
  obtain ⟨p', vs, h1, h2, h3, h4⟩ := e.own j ds h
  rw [hp] at h1; cases h1
  have ge : ∀ i v, getE (setE env j (some (.o ds'))) i = some v → (i = j ∧ v = .o ds') ∨ (i ≠ j ∧ getE env i = some v) := fun i v q => by
    by_cases hi : i = j
    · subst hi; rw [get_set_same hj] at q; cases q; exact .inl ⟨rfl, rfl⟩
    · rw [get_set_ne hi] at q; exact .inr ⟨hi, q⟩
  refine ⟨by rw [setE_len]; exact e.len, fun i x q => ?_, fun i xs q => ?_, fun i k q => ?_, fun i k xs ys a q1 q2 r1 r2 => ?_, fun a ha => ?_, e.sub, e.new, fun a o q n => ?_, fun i xs a q r => ?_, fun i a q => ?_, ?_⟩
  · rcases ge i _ q with ⟨_, z⟩ | ⟨_, q⟩
    · cases z
    · obtain ⟨v, e1, e2⟩ := e.dat i x q
      exact ⟨v, e1, dp_mono hk.wo e2⟩
  · rcases ge i _ q with ⟨rfl, z⟩ | ⟨hi, q⟩
    · cases z; exact ⟨p, vs', hp, h2, hq, hd⟩
    · obtain ⟨a, us, r1, r2, r3, r4⟩ := e.own i xs q
      have ne : a ≠ p := fun z => by subst z; exact hi (e.inj i j _ _ _ q h r1 hp)
      exact ⟨a, us, r1, r2, ho _ _ r3 ne, dps_mono hk.wo r4⟩
  · rcases ge i _ q with ⟨_, z⟩ | ⟨_, q⟩
    · cases z
    · exact e.nob i k q
  · rcases ge i _ q1 with ⟨hi, _⟩ | ⟨_, z1⟩ <;> rcases ge k _ q2 with ⟨hk2, _⟩ | ⟨_, z2⟩
    · rw [hi, hk2]
    · rw [hi] at r1 ⊢; exact e.inj _ _ _ _ _ h z2 r1 r2
    · rw [hk2] at r2 ⊢; exact e.inj _ _ _ _ _ z1 h r1 r2
    · exact e.inj _ _ _ _ _ z1 z2 r1 r2
  · by_cases hap : a = p
    · subst hap; exact ⟨_, hq⟩
    · obtain ⟨us, q⟩ := e.live a ha
      exact ⟨us, ho _ _ q hap⟩
  · have ne : a ≠ p := fun z => by
      subst z
      rcases e.ownF j ds a h hp with r | r
      · exact n r
      · rw [r] at q; cases q
    exact ho _ _ (e.keep a o q n) ne
  · rcases ge i _ q with ⟨rfl, _⟩ | ⟨_, q⟩
    · rw [hp] at r; cases r; exact e.ownF _ _ _ h hp
    · exact e.ownF _ _ _ q r
  · obtain ⟨r1, xs, r2⟩ := e.par i a q
    refine ⟨r1, ?_⟩
    by_cases hi : i = j
    · subst hi; exact ⟨ds', get_set_same hj⟩
    · exact ⟨xs, by rw [get_set_ne hi]; exact r2⟩
  · refine e.dic.move (fun i kvs q => ?_) (fun a us q n => ⟨hk _ _ q n, n⟩) fun _ z => z
    rcases ge i _ q with ⟨_, z⟩ | ⟨_, q⟩
    · cases z
    · exact ⟨q, rfl⟩
end

/-! ### what an answer stands for -/
def Res (K : PySem.W.Frag) (O : List Addr) (H H' : Hp) (σ : L2.St) (v : V) : AV → Prop
  | .d x => Dp K (Wo H' O) v x
  | .o ds => ∃ p vs, v = .ref p ∧ H p = none ∧ p ∉ O ∧ H' p = some (.lst vs) ∧ DpAll K (Wo H' (p :: O)) vs ds
  | .b j => ∃ p, v = .ref p ∧ σ[j]? = some (some (.ref p))
  | .p ds x => ∃ q p vs w, v = .ref q ∧ H q = none ∧ q ∉ O ∧ H' q = some (.tup [.ref p, w]) ∧ H p = none ∧ p ∉ O ∧ H' p = some (.lst vs) ∧ DpAll K (Wo H' (p :: O)) vs ds ∧ Dp K (Wo H' (p :: O)) w x
  | .m _ => False
/-- the environment does not hang on the list at p -/
structure Av (K : PySem.W.Frag) (O : List Addr) (p : Addr) (H : Hp) (σ : L2.St) (env : AEnv) : Prop where
  dat : ∀ j x, getE env j = some (.d x) → ∃ v, σ[j]? = some (some v) ∧ Dp K (Wo H (p :: O)) v x
  own : ∀ j xs, getE env j = some (.o xs) → ∃ a us, σ[j]? = some (some (.ref a)) ∧ a ∈ O ∧ H a = some (.lst us) ∧ DpAll K (Wo H (p :: O)) us xs
def AvR (K : PySem.W.Frag) (O : List Addr) (H : Hp) (σ : L2.St) (env : AEnv) (v : V) : AV → Prop
  | .o _ => ∀ p, v = .ref p → Av K O p H σ env
  | .p _ _ => ∀ q p w, v = .ref q → H q = some (.tup [.ref p, w]) → Av K O p H σ env
  | _ => True
def ResAll (K : PySem.W.Frag) (O : List Addr) (H H' : Hp) (σ : L2.St) : List V → List AV → Prop
  | [], [] => True
  | v :: vs, r :: rs => Res K O H H' σ v r ∧ ResAll K O H H' σ vs rs
  | _, _ => False
/-- what is read: a list or a tuple by its place, its items without the owned ones -/
def RdD (K : PySem.W.Frag) (O : List Addr) (H : Hp) (v : V) : PyData → Prop
  | .list xs => ∃ p vs, v = .ref p ∧ SqL K H p vs ∧ DpAll K (Wo H O) vs xs
  | .tuple xs => ∃ p vs, v = .ref p ∧ Wo H O p = some (.tup vs) ∧ DpAll K (Wo H O) vs xs
  | .dict kvs => Dp K (Wo H O) v (.dict kvs)
  | x => Dp K H v x
section
variable {K : PySem.W.Frag} {F : Fi} {O : List Addr} {H H0 H' : Hp} {σ : L2.St} {env : AEnv} {v : V} {r : AV}
theorem rdD_of {x : PyData} (h : Dp K (Wo H O) v x) : RdD K O H v x := by
  cases h with
  | non => exact .non
  | bl b => exact .bl b
  | int i => exact .int i
  | str s => exact .str s
  | lst h t => exact ⟨_, _, rfl, wo_all.seq h, t⟩
  | tup h t => exact ⟨_, _, rfl, h, t⟩
  | obj c h => exact (show Dp K (Wo H O) _ _ from .obj c h)
  | objM c n h t => exact (show Dp K (Wo H O) _ _ from .objM c n h t)
  | objA c n h t d => exact (show Dp K (Wo H O) _ _ from .objA c n h t d)
  | ktup h c => exact (show Dp K (Wo H O) _ _ from .ktup h c)
theorem RdD.dp {x : PyData} (h : RdD K O H v x) : Dp K H v x := by
  cases x with
  | list xs => obtain ⟨p, vs, rfl, a, b⟩ := h; exact .lst a (dps_mono wo_all b)
  | tuple xs => obtain ⟨p, vs, rfl, a, b⟩ := h; exact .tup (wo_all _ _ a) (dps_mono wo_all b)
  | none => exact h
  | bool b => exact h
  | int i => exact h
  | str s => exact h
  | dict k => exact dp_mono wo_all (show Dp K (Wo H O) v (.dict k) from h)
theorem Res.chg (h : Res K O H0 H σ v r) (c : Chg O H H') : Res K O H0 H' σ v r := by
  cases r with
  | d x => exact dp_mono c.wo h
  | o ds =>
    obtain ⟨p, vs, e, n, no, hp, hd⟩ := h
    exact ⟨p, vs, e, n, no, c _ _ hp no, dps_mono (c.wo2 fun _ z => List.mem_cons_of_mem _ z) hd⟩
  | b j => exact h
  | p ds x =>
    obtain ⟨q, p, vs, w, e, n, no, hq, np, nop, hp, hd, hw⟩ := h
    exact ⟨q, p, vs, w, e, n, no, c _ _ hq no, np, nop, c _ _ hp nop, dps_mono (c.wo2 fun _ z => List.mem_cons_of_mem _ z) hd, dp_mono (c.wo2 fun _ z => List.mem_cons_of_mem _ z) hw⟩
  | m _ => exact h.elim
/-- seen from an earlier heap -/
theorem Res.back {H1 : Hp} (h : Res K O H1 H σ v r) (c : Chg O H0 H1) : Res K O H0 H σ v r := by
  cases r with
  | d x => exact h
  | o ds =>
    obtain ⟨p, vs, e, n, no, hp, hd⟩ := h
    refine ⟨p, vs, e, ?_, no, hp, hd⟩
    cases q : H0 p with
    | none => rfl
    | some o => rw [c _ _ q no] at n; cases n
  | b j => exact h
  | p ds x =>
    obtain ⟨q, p, vs, w, e, n, no, hq, np, nop, hp, hd, hw⟩ := h
    have back : ∀ a, H1 a = none → a ∉ O → H0 a = none := fun a ha hn => by
      cases z : H0 a with
      | none => rfl
      | some o => rw [c _ _ z hn] at ha; cases ha
    exact ⟨q, p, vs, w, e, back q n no, no, hq, back p np nop, nop, hp, hd, hw⟩
  | m _ => exact h.elim
theorem ResAll.chg : ∀ {vs : List V} {rs : List AV}, ResAll K O H0 H σ vs rs → Chg O H H' → ResAll K O H0 H' σ vs rs
  | [], [], _, _ => trivial
  | _ :: _, _ :: _, h, c => ⟨h.1.chg c, ResAll.chg h.2 c⟩
theorem ResAll.back {H1 : Hp} : ∀ {vs : List V} {rs : List AV}, ResAll K O H1 H σ vs rs → Chg O H0 H1 → ResAll K O H0 H σ vs rs
  | [], [], _, _ => trivial
  | _ :: _, _ :: _, h, c => ⟨h.1.back c, ResAll.back h.2 c⟩
theorem res_data {k : PyData → Prop} (h : Res K O H0 H σ v r) (q : dataK r k) : ∃ x, k x ∧ Dp K (Wo H O) v x := by
  cases r with
  | d x => exact ⟨x, q, h⟩
  | o ds =>
    obtain ⟨p, vs, rfl, n, no, hp, hd⟩ := h
    exact ⟨.list ds, q, .lst (.inl (.inl (by rw [wo_out no]; exact hp))) (dps_mono wo_cons hd)⟩
  | b j => exact q.elim
  | p ds x =>
    obtain ⟨a, p, vs, w, rfl, n, no, hq, np, nop, hp, hd, hw⟩ := h
    exact ⟨_, q, .tup (by rw [wo_out no]; exact hq) (.cons (.lst (.inl (.inl (by rw [wo_out nop]; exact hp))) (dps_mono wo_cons hd)) (.cons (dp_mono wo_cons hw) .nil))⟩
  | m _ => exact h.elim
theorem res_datas : ∀ {vs : List V} {rs : List AV} {k : List PyData → Prop}, ResAll K O H0 H σ vs rs → datasK rs k → ∃ xs, k xs ∧ DpAll K (Wo H O) vs xs
  | [], [], k, _, q => ⟨[], q, .nil⟩
  | v :: vs, r :: rs, k, h, q => by
    obtain ⟨x, q, hx⟩ := res_data h.1 q
    obtain ⟨xs, q, hxs⟩ := res_datas h.2 q
    exact ⟨x :: xs, q, .cons hx hxs⟩
theorem res_rd {k : PyData → Prop} (e : EnvOk K F O H σ env) (h : Res K O H0 H σ v r) (q : rdK env r k) : ∃ x, k x ∧ RdD K O H v x := by
  cases r with
  | d x => exact ⟨x, q, rdD_of h⟩
  | o ds =>
    obtain ⟨p, vs, rfl, n, no, hp, hd⟩ := h
    exact ⟨.list ds, q, p, vs, rfl, .inl (.inl hp), dps_mono wo_cons hd⟩
  | b j =>
    unfold rdK at q
    simp only at q
    split at q
    · rename_i ds hg
      obtain ⟨p, rfl, hs⟩ := h
      obtain ⟨p', vs, h1, h2, h3, h4⟩ := e.own j ds hg
      rw [hs] at h1; cases h1
      exact ⟨.list ds, q, p, vs, rfl, .inl (.inl h3), h4⟩
    · exact q.elim
  | p ds x =>
    obtain ⟨y, q, hy⟩ := res_data (k := k) h q
    exact ⟨y, q, rdD_of hy⟩
  | m _ => exact h.elim
theorem res_rds (e : EnvOk K F O H σ env) : ∀ {vs : List V} {rs : List AV} {k : List PyData → Prop}, ResAll K O H0 H σ vs rs → rdsK env rs k → ∃ xs, k xs ∧ vs.length = xs.length ∧ ∀ (i : Nat) (v : V) (x : PyData), vs[i]? = some v → xs[i]? = some x → RdD K O H v x
  | [], [], k, _, q => ⟨[], q, rfl, fun i v x h => by simp at h⟩
  | v :: vs, r :: rs, k, h, q => by
    obtain ⟨x, q, hx⟩ := res_rd e h.1 q
    obtain ⟨xs, q, hl, hxs⟩ := res_rds e h.2 q
    refine ⟨x :: xs, q, by simp [hl], fun i w y h1 h2 => ?_⟩
    cases i with
    | zero => simp at h1 h2; subst h1; subst h2; exact hx
    | succ i => exact hxs i w y (by simpa using h1) (by simpa using h2)
/-- a new list, a new tuple -/
theorem res_new {vs : List V} {ds : List PyData} {p : Addr} (e : EnvOk K F O H σ env) (hp : H p = none) (c : Chg O H0 H) (h : DpAll K (Wo H O) vs ds) : Res K O H0 (upd H p (.lst vs)) σ (.ref p) (.o ds) := by
  have no := e.notO hp
  refine ⟨p, vs, rfl, ?_, no, upd_same, dps_mono (wo_new hp) h⟩
  cases q : H0 p with
  | none => rfl
  | some o => rw [c _ _ q no] at hp; cases hp
theorem av_new {p : Addr} {o : HO} (e : EnvOk K F O H σ env) (hp : H p = none) : Av K O p (upd H p o) σ env := by
  refine ⟨fun j x h => ?_, fun j xs h => ?_⟩
  · obtain ⟨v, h1, h2⟩ := e.dat j x h
    exact ⟨v, h1, dp_mono (wo_new hp) h2⟩
  · obtain ⟨a, us, h1, h2, h3, h4⟩ := e.own j xs h
    exact ⟨a, us, h1, h2, by rw [upd_ne (ne_of_none h3 hp)]; exact h3, dps_mono (wo_new hp) h4⟩
theorem avR_new {p : Addr} {vs : List V} {ds : List PyData} (e : EnvOk K F O H σ env) (hp : H p = none) : AvR K O (upd H p (.lst vs)) σ env (.ref p) (.o ds) := fun q z => by
  cases z
  exact av_new e hp
theorem dp_tup {vs : List V} {ds : List PyData} {p : Addr} (no : p ∉ O) (hp : H p = none) (h : DpAll K (Wo H O) vs ds) : Dp K (Wo (upd H p (.tup vs)) O) (.ref p) (.tuple ds) :=
  .tup (by rw [wo_out no, upd_same]) (dps_mono (chg_new hp).wo h)
theorem same_new {p : Addr} {o : HO} (h : H p = none) : Same H (upd H p o) := fun a u e => by rw [upd_ne (ne_of_none e h)]; exact e
theorem RdD.int {i : Int} (h : RdD K O H v (.int i)) : v = .int i := by
  cases (show Dp K H v (.int i) from h); rfl
theorem RdD.bool {i : Bool} (h : RdD K O H v (.bool i)) : v = .bl i := by
  cases (show Dp K H v (.bool i) from h); rfl
theorem RdD.none (h : RdD K O H v .none) : v = .non := by
  cases (show Dp K H v .none from h); rfl
theorem RdD.str {i : Str} (h : RdD K O H v (.str i)) : v = .str i := by
  cases (show Dp K H v (.str i) from h); rfl
end
end PF

set_option maxRecDepth 100000
set_option maxHeartbeats 4000000
namespace PF
open PySem PySem.Spec PyProof.Rows L2
/-! ### readings by wishes -/
def TEof (K : PySem.W.Frag) (e : E) : TE := fun σ H Q => ∃ (F : Fi) (O : List Addr) (env : AEnv), EnvOk K F O H σ env ∧ wE e env (fun r env' => ∀ v H', EnvOk K F O H' σ env' → Chg O H H' → Res K O H H' σ v r → AvR K O H' σ env' v r → Q v H') X0
def TTof (K : PySem.W.Frag) (e : E) : TT := fun σ H Q => ∃ (F : Fi) (O : List Addr) (env : AEnv), EnvOk K F O H σ env ∧ wE e env (fun r env' => truthK env' r fun b => ∀ H', EnvOk K F O H' σ env' → Chg O H H' → Q b H') X0
def TAof (K : PySem.W.Frag) (es : Es) : TA := fun σ H Q => ∃ (F : Fi) (O : List Addr) (env : AEnv), EnvOk K F O H σ env ∧ wEs es env (fun rs env' => ∀ vs H', EnvOk K F O H' σ env' → Chg O H H' → ResAll K O H H' σ vs rs → Q vs H') X0
section
variable {X : Cx} {e : Expr} {K : PySem.W.Frag} {F : Fi}
theorem pe_weak {t t' : TE} (h : PE X e t) (hw : ∀ σ H Q, t' σ H Q → t σ H Q) : PE X e t' := ⟨fun pins s σ H Q I q => h.run pins s σ H Q I (hw σ H Q q)⟩
theorem pt_weak {t t' : TT} (h : PT X e t) (hw : ∀ σ H Q, t' σ H Q → t σ H Q) : PT X e t' := ⟨fun pins s σ H Q I q => h.run pins s σ H Q I (hw σ H Q q)⟩
theorem pw_weak {t t' : TT} (h : PW X e t) (hw : ∀ σ H Q, t' σ H Q → t σ H Q) : PW X e t' := ⟨fun wh pins s σ H Q I q => h.run wh pins s σ H Q I (hw σ H Q q)⟩
theorem pa_weak {es : List Expr} {t t' : TA} (h : PA X es t) (hw : ∀ σ H Q, t' σ H Q → t σ H Q) : PA X es t' := ⟨fun pos pins s σ H Q I q => h.run pos pins s σ H Q I (hw σ H Q q)⟩
theorem ps_weak {st : Stmt} {t t' : TS} (h : PS X st t) (hw : ∀ D σ H, t' D σ H → t D σ H) : PS X st t' := ⟨fun pins s σ H D I q => h.run pins s σ H D I (hw D σ H q)⟩
theorem pss_weak {st : List Stmt} {t t' : TS} (h : PSs X st t) (hw : ∀ D σ H, t' D σ H → t D σ H) : PSs X st t' := ⟨fun pins s σ H D I q => h.run pins s σ H D I (hw D σ H q)⟩
/-- one part evaluated, then the rest -/
theorem te_then {a : E} {σ : L2.St} {H : Hp} {O : List Addr} {env : AEnv} {q : AV → AEnv → Prop} {Q : VK} (eo : EnvOk K F O H σ env) (hw : wE a env q X0)
    (k : ∀ r env1 v H1, q r env1 → EnvOk K F O H1 σ env1 → Chg O H H1 → Res K O H H1 σ v r → AvR K O H1 σ env1 v r → Q v H1) : TEof K a σ H Q :=
  ⟨F, O, env, eo, wE_mono a (fun r env1 h v H1 e1 c1 r1 a1 => k r env1 v H1 h e1 c1 r1 a1) hw⟩
theorem ta_then {es : Es} {σ : L2.St} {H : Hp} {O : List Addr} {env : AEnv} {q : List AV → AEnv → Prop} {Q : List V → Hp → Prop} (eo : EnvOk K F O H σ env) (hw : wEs es env q X0)
    (k : ∀ rs env1 vs H1, q rs env1 → EnvOk K F O H1 σ env1 → Chg O H H1 → ResAll K O H H1 σ vs rs → Q vs H1) : TAof K es σ H Q :=
  ⟨F, O, env, eo, wEs_mono es (fun r env1 h v H1 e1 c1 r1 => k r env1 v H1 h e1 c1 r1) hw⟩
theorem tt_then {a : E} {σ : L2.St} {H : Hp} {O : List Addr} {env : AEnv} {q : Bool → AEnv → Prop} {Q : Bool → Hp → Prop} (eo : EnvOk K F O H σ env) (hw : wE a env (fun r env' => truthK env' r fun b => q b env') X0)
    (k : ∀ b env1 H1, q b env1 → EnvOk K F O H1 σ env1 → Chg O H H1 → Q b H1) : TTof K a σ H Q :=
  ⟨F, O, env, eo, wE_mono a (fun r env1 h => truthK_mono (fun b h H1 e1 c1 => k b env1 H1 h e1 c1) h) hw⟩
end

section
variable {X : Cx} {F : Fi} {a b c : Expr} {pos : Pos}
/-! ### names, constants -/
theorem te_var {i : Nat} {x : Str} (hN : X.N[i]? = some x) (hv : Vis X.env.scope x) (hd : (x == ("__debug__" : Str)) = false) (hcd : (x == ("__classdict__" : Str)) = false) : PE X (.Name x pos) (TEof X.K (.var i)) :=
  pe_weak (pe_var hN hv hd hcd) fun σ H Q ⟨F, O, env, eo, hw⟩ => by
    unfold wE at hw
    split at hw
    · rename_i y hg
      obtain ⟨v, h1, h2⟩ := eo.dat i y hg
      exact ⟨v, h1, hw v H eo .refl h2 trivial⟩
    · rename_i ds hg
      obtain ⟨p, vs, h1, h2, h3, h4⟩ := eo.own i ds hg
      exact ⟨_, h1, hw _ H eo .refl ⟨p, rfl, h1⟩ trivial⟩
    · exact hw.elim
theorem te_int {i : Int} {j : Nat} : PE X (.Constant (.int i) j pos) (TEof X.K (.int i)) := pe_weak pe_int fun σ H Q ⟨F, O, env, eo, hw⟩ => hw _ H eo .refl (.int i) trivial
theorem te_bool {i : Bool} {j : Nat} : PE X (.Constant (.bool i) j pos) (TEof X.K (.bool i)) := pe_weak pe_bl fun σ H Q ⟨F, O, env, eo, hw⟩ => hw _ H eo .refl (.bl i) trivial
theorem te_none {j : Nat} : PE X (.Constant .none j pos) (TEof X.K .none) := pe_weak pe_non fun σ H Q ⟨F, O, env, eo, hw⟩ => hw _ H eo .refl .non trivial
theorem te_str {i : Str} {j : Nat} : PE X (.Constant (.str i) j pos) (TEof X.K (.str i)) := pe_weak pe_str fun σ H Q ⟨F, O, env, eo, hw⟩ => hw _ H eo .refl (.str i) trivial
/-- a module's constant -/
def GlobOk (K : PySem.W.Frag) (mg : Str → Option Value) (x : Str) (d : PyData) : Prop := ∃ v u, mg x = some u ∧ RelV v u ∧ ∀ H, Dp K H v d
theorem te_glob {x : Str} {d : PyData} (g : GlobOk X.K X.mg x d) (hg : Gl X x) (hd : (x == ("__debug__" : Str)) = false) : PE X (.Name x pos) (TEof X.K (.glob x d)) := by
  obtain ⟨v, u, h1, h2, h3⟩ := g
  exact pe_weak (pe_glob hg h1 h2 hd) fun σ H Q ⟨F, O, env, eo, hw⟩ => hw _ H eo .refl (h3 _) trivial

/-! ### two-place operators -/
theorem op_fdivA : OpR X (binaryOp .FloorDiv) (rI (fun _ j => divOk j) fun i j => .int (i.fdiv j)) := opI fun _ _ _ _ _ _ _ hc q => floordiv_int hc.1 q (.inl (PyProof.noPylong_of_log2 hc.2))
theorem op_powA : OpR X (binaryOp .Pow) (rI powOk fun i j => .int (i ^ j.toNat)) := opI fun _ _ _ _ _ _ _ hc q => pow_int hc.1 hc.2 q
/-- list + list, whatever lists they are -/
def rCatA (K : PySem.W.Frag) : R2 := fun x y H Q => ∃ l b xs zs, x = .ref l ∧ y = .ref b ∧ SqL K H l xs ∧ SqL K H b zs ∧ xs.length + zs.length ≤ sizeLine ∧ ∀ p, H p = none → Q (.ref p) (upd H p (.lst (xs ++ zs)))
theorem op_catA : OpR X (binaryOp .Add) (rCatA X.K) := by
  intro pins s σ H x y v u Q I rx ry h
  obtain ⟨l, b, xs, zs, rfl, rfl, hH, hB, hz, q⟩ := h
  cases rx
  cases ry
  obtain ⟨its, r, ⟨⟨cls, dd, data, sl⟩, n, e, hc, hd, hs⟩, _⟩ := I.list hH
  obtain ⟨its2, r2, ⟨⟨cls2, dd2, data2, sl2⟩, n2, e2, hc2, hd2, hs2⟩, _⟩ := I.list hB
  simp only at hc hd hs hc2 hd2 hs2
  subst hc hd hs hc2 hd2 hs2
  have hl := r.length
  have hl2 := r2.length
  refine concat_meets ⟨_, e, rfl⟩ ⟨_, e2, rfl⟩ noFill_list_add seq_list_add PySem.F.slot_list_add PySem.F.entry_list_add (PySem.F.args_list_add_2 _ _) (list_addW l b its.toArray its2.toArray n n2 none none sl sl2 (by rw [List.size_toArray, List.size_toArray]; omega)) ⟨e, e2, ?_⟩
  have ea : its.toArray ++ its2.toArray = (its ++ its2).toArray := by simp
  rw [ea]
  exact ⟨.ref _, _, I.lnew (t' := s.toks) (r.append r2) (by rw [List.length_append]; omega), rfl, q _ I.fresh⟩
def opOf : BOp → Operator
  | .add => .Add | .sub => .Sub | .mul => .Mult | .fdiv => .FloorDiv | .mod => .Mod | .pow => .Pow | .shl => .LShift | .band => .BitAnd
/-- the wish of an operator by values -/
def rBin (K : PySem.W.Frag) : BOp → R2
  | .add => fun x y H Q => (rI0 (fun i j => .int (i + j)) x y H Q ∨ PF.rCatA K x y H Q) ∨ L2.rCatA K x y H Q
  | .sub => rI0 fun i j => .int (i - j)
  | .mul => rI CMulW (fun i j => .int (i * j))
  | .fdiv => rI (fun _ j => divOk j) fun i j => .int (i.fdiv j)
  | .mod => rI (fun _ j => j ≠ 0) fun i j => .int (i.fmod j)
  | .pow => rI powOk fun i j => .int (i ^ j.toNat)
  | _ => fun _ _ _ _ => False
theorem op_bin (op : BOp) : OpR X (binaryOp (opOf op)) (rBin X.K op) := by
  cases op with
  | add => exact (op_add.or PF.op_catA).or L2.op_catA
  | sub => exact op_sub
  | mul => exact op_mulW
  | fdiv => exact op_fdivA
  | mod => exact op_modN
  | pow => exact op_powA
  | shl => exact fun _ _ _ _ _ _ _ _ _ _ _ _ h => h.elim
  | band => exact fun _ _ _ _ _ _ _ _ _ _ _ _ h => h.elim
variable {ea eb ec : E}
theorem bin_rd {K : PySem.W.Frag} {O : List Addr} {H0 H : Hp} {σ : L2.St} {env : AEnv} {op : BOp} {x y : V} {dx dy : PyData} {Q' : AV → Prop} {Q : VK} (eo : EnvOk K F O H σ env) (hc : Chg O H0 H) (hx : RdD K O H x dx) (hy : RdD K O H y dy) (hq : binK op dx dy Q')
    (k : ∀ r v H', Q' r → EnvOk K F O H' σ env → Chg O H0 H' → Res K O H0 H' σ v r → AvR K O H' σ env v r → Q v H') : rBin K op x y H Q := by
  unfold binK at hq
  split at hq
  · cases hx.int; cases hy.int; exact .inl (.inl ⟨_, _, rfl, rfl, k _ _ _ hq eo hc (.int _) trivial⟩)
  · cases hx.int; cases hy.int; exact ⟨_, _, rfl, rfl, k _ _ _ hq eo hc (.int _) trivial⟩
  · cases hx.int; cases hy.int; exact ⟨_, _, rfl, rfl, hq.1, k _ _ _ hq.2 eo hc (.int _) trivial⟩
  · cases hx.int; cases hy.int; exact ⟨_, _, rfl, rfl, hq.1, k _ _ _ hq.2 eo hc (.int _) trivial⟩
  · cases hx.int; cases hy.int; exact ⟨_, _, rfl, rfl, hq.1, k _ _ _ hq.2 eo hc (.int _) trivial⟩
  · cases hx.int; cases hy.int; exact ⟨_, _, rfl, rfl, hq.1, k _ _ _ hq.2 eo hc (.int _) trivial⟩
  · obtain ⟨p, vs, rfl, s1, d1⟩ := hx
    obtain ⟨p2, vs2, rfl, s2, d2⟩ := hy
    refine .inl (.inr ⟨p, p2, vs, vs2, rfl, rfl, s1, s2, by rw [dps_len d1, dps_len d2]; exact hq.1, fun z hz => ?_⟩)
    exact k _ _ _ hq.2 (eo.grow (same_new hz)) (hc.trans (chg_new hz)) (res_new eo hz hc (dps_append d1 d2)) (avR_new eo hz)
  · obtain ⟨p, vs, rfl, s1, d1⟩ := hx
    obtain ⟨p2, vs2, rfl, s2, d2⟩ := hy
    have l1 := dps_len d1
    have l2 := dps_len d2
    refine .inr ⟨p, p2, vs, vs2, rfl, rfl, sq_t wo_all (tk_sq s1), sq_t wo_all (tk_sq s2), by rw [l1, l2]; exact hq.1, fun e => ?_, fun _ e => ?_, fun _ _ z hz => ?_⟩
    · subst e
      cases d1
      exact k _ _ _ hq.2 eo hc (.tup s2 d2) trivial
    · subst e
      cases d2
      have := k _ _ _ hq.2 eo hc (.tup s1 (by rw [List.append_nil]; exact d1)) trivial
      exact this
    · exact k _ _ _ hq.2 (eo.grow (same_new hz)) (hc.trans (chg_new hz)) (dp_tup (eo.notO hz) hz (dps_append d1 d2)) trivial
  · exact hq.elim
theorem te_bin (op : BOp) (ha : PE X a (TEof X.K ea)) (hb : PE X b (TEof X.K eb)) : PE X (.BinOp a (opOf op) b pos) (TEof X.K (.bin op ea eb)) :=
  pe_weak (pe_op (op_bin op) ha hb) fun σ H Q ⟨F, O, env, eo, hw⟩ => te_then eo hw fun r1 env1 v1 H1 q1 e1 c1 s1 a1 => te_then e1 q1 fun r2 env2 v2 H2 q2 e2 c2 s2 a2 => by
    obtain ⟨dx, q2, hx⟩ := res_rd e2 (s1.chg c2) q2
    obtain ⟨dy, q2, hy⟩ := res_rd e2 s2 q2
    exact bin_rd e2 (c1.trans c2) hx hy q2 fun r v H' q e c s a => q v H' e c s a
theorem te_neg (ha : PE X a (TEof X.K ea)) : PE X (.UnaryOp .USub a pos) (TEof X.K (.neg ea)) :=
  pe_weak (pe_un un_neg ha) fun σ H Q ⟨F, O, env, eo, hw⟩ => te_then eo hw fun r1 env1 v1 H1 q1 e1 c1 s1 a1 => by
    split at q1
    · cases (show Dp X.K _ v1 (.int _) from s1)
      exact ⟨_, rfl, q1 _ _ e1 c1 (.int _) trivial⟩
    · exact q1.elim
theorem te_rep (ha : PE X a (TEof X.K ea)) (hb : PE X b (TEof X.K eb)) : PE X (.BinOp a .Mult b pos) (TEof X.K (.rep ea eb)) :=
  pe_weak (pe_op op_rep ha hb) fun σ H Q ⟨F, O, env, eo, hw⟩ => te_then eo hw fun r1 env1 v1 H1 q1 e1 c1 s1 a1 => te_then e1 q1 fun r2 env2 v2 H2 q2 e2 c2 s2 a2 => by
    split at q2
    · cases (show Dp X.K _ v2 (.int _) from s2)
      have s1' := s1.chg c2
      obtain ⟨p, vs, rfl, n, no, hp, hd⟩ := s1'
      obtain ⟨⟨b1, b2, b3⟩, q2⟩ := q2
      refine ⟨p, _, vs, rfl, rfl, hp, b1, b2, by rw [dps_len hd]; exact b3, fun z hz => ?_⟩
      exact q2 _ _ (e2.grow (same_new hz)) ((c1.trans c2).trans (chg_new hz)) (res_new e2 hz (c1.trans c2) (dps_mono wo_cons (dps_flat hd _))) (avR_new e2 hz)
    · exact q2.elim

/-! ### comparisons -/
def isNoneD : PyData → Bool
  | .none => true
  | _ => false
theorem is_none_of {K : PySem.W.Frag} {H : Hp} {v : V} {x : PyData} (h : Dp K H v x) : decide (v = .non) = isNoneD x := by
  cases h <;> rfl
theorem isNoneD_no {x : PyData} (h : x = .none → False) : isNoneD x = false := by
  cases x <;> first | rfl | exact (h rfl).elim
/-- a list or a tuple against an empty one -/
def rEm (K : PySem.W.Frag) (neg : Bool) : R2 := fun x y H Q => ∃ (a b : Addr) (xs : List V), x = .ref a ∧ y = .ref b ∧ ((SqL K H a xs ∧ SqL K H b []) ∨ (SqT K H a xs ∧ SqT K H b [])) ∧ Q (.bl (neg != xs.isEmpty)) H
theorem emp_list {X : Cx} {pins : List (Addr × Obj)} {σ : L2.St} {H : Hp} {s : Shared} {a : Addr} {xs : List V} (I : Inv X pins σ H s) (h : SqL X.K H a xs) : ∃ its : Array Value, s.heap.IsList a its ∧ its.size = xs.length := by
  obtain ⟨its, rv, ⟨o, n, ho, hc, _, hd⟩, _⟩ := I.list h
  exact ⟨its.toArray, ⟨o, ho, hc, n, hd⟩, by rw [rv.length]; simp⟩
theorem emp_tup {X : Cx} {pins : List (Addr × Obj)} {σ : L2.St} {H : Hp} {s : Shared} {a : Addr} {xs : List V} (I : Inv X pins σ H s) (h : SqT X.K H a xs) : ∃ its : Array Value, s.heap.IsTuple a its ∧ its.size = xs.length := by
  obtain ⟨its, rv, ⟨o, ho, hc, n, hd⟩, _⟩ := I.tuple h
  exact ⟨its.toArray, ⟨o, ho, hc, n, hd⟩, by rw [rv.length]; simp⟩
theorem op_eqE {X : Cx} (hu : X.A.units + 65 < cLine) : OpR X (compareOp .Eq) (rEm X.K false) := by
  intro pins s σ H x y v u Q I rx ry h
  obtain ⟨a, b, xs, rfl, rfl, hs, q⟩ := h
  cases rx
  cases ry
  rcases hs with ⟨h1, h2⟩ | ⟨h1, h2⟩
  · obtain ⟨i1, l1, n1⟩ := emp_list I h1
    obtain ⟨i2, l2, n2⟩ := emp_list I h2
    by_cases hz : xs = []
    · subst hz
      exact SeqAt.RcAt.lists (e := fun _ => true) l1 l2 (by rw [n1, n2]) (by omega) (fun j z _ => absurd z (by rw [n1]; simp)) X.prog X.w _ _ ⟨.bl _, H, I, by rw [n1]; rfl, q⟩
    · have e : xs.isEmpty = false := by simpa using hz
      rw [e] at q
      have : 0 < xs.length := List.length_pos_iff.mpr hz
      exact SeqAt.RcAt.lists_lengths l1 l2 (by rw [n1, n2]; simpa using hz) (by omega) X.prog X.w _ _ ⟨.bl _, H, I, rfl, q⟩
  · obtain ⟨i1, l1, n1⟩ := emp_tup I h1
    obtain ⟨i2, l2, n2⟩ := emp_tup I h2
    refine SeqAt.RcAt.tuples (e := fun _ => true) l1 l2 (by omega) (fun j z z2 => absurd z2 (by rw [n2]; simp)) X.prog X.w _ _ ⟨.bl _, H, I, ?_, q⟩
    rw [n1, n2]
    cases xs <;> rfl
theorem op_neE {X : Cx} (hu : X.A.units + 65 < cLine) : OpR X (compareOp .NotEq) (rEm X.K true) := by
  intro pins s σ H x y v u Q I rx ry h
  obtain ⟨a, b, xs, rfl, rfl, hs, q⟩ := h
  cases rx
  cases ry
  rcases hs with ⟨h1, h2⟩ | ⟨h1, h2⟩
  · obtain ⟨i1, l1, n1⟩ := emp_list I h1
    obtain ⟨i2, l2, n2⟩ := emp_list I h2
    by_cases hz : xs = []
    · subst hz
      exact SeqAt.RcNeAt.lists (e := fun _ => true) l1 l2 (by rw [n1, n2]) (by omega) (fun j z _ => absurd z (by rw [n1]; simp)) X.prog X.w _ _ ⟨.bl _, H, I, by rw [n1]; rfl, q⟩
    · have e : xs.isEmpty = false := by simpa using hz
      rw [e] at q
      exact SeqAt.RcNeAt.lists_lengths l1 l2 (by rw [n1, n2]; simpa using hz) (by omega) X.prog X.w _ _ ⟨.bl _, H, I, rfl, q⟩
  · obtain ⟨i1, l1, n1⟩ := emp_tup I h1
    obtain ⟨i2, l2, n2⟩ := emp_tup I h2
    refine SeqAt.RcNeAt.tuples (e := fun _ => true) l1 l2 (by omega) (fun j z z2 => absurd z2 (by rw [n2]; simp)) X.prog X.w _ _ ⟨.bl _, H, I, ?_, q⟩
    rw [n1, n2]
    cases xs <;> rfl
def copOf : COp → CmpOp
  | .eqE => .Eq | .neE => .NotEq | .eq => .Eq | .ne => .NotEq | .lt => .Lt | .le => .LtE | .gt => .Gt | .ge => .GtE | .isin => .In | .notin => .NotIn | .is => .Is | .isnot => .IsNot
def rCmp (K : PySem.W.Frag) : COp → R2
  | .eq => rEqD K
  | .ne => rNeD K
  | .lt => rI0 fun i j => .bl (decide (i < j))
  | .le => fun x y H Q => rI0 (fun i j => .bl (decide (i ≤ j))) x y H Q ∨ rLeT K x y H Q
  | .gt => rI0 fun i j => .bl (decide (j < i))
  | .ge => rI0 fun i j => .bl (decide (j ≤ i))
  | .isin => rInD K
  | .notin => rNotInD K
  | .eqE => rEm K false
  | .neE => rEm K true
  | .is => fun x y H Q => (y = .non ∧ Q (.bl (decide (x = .non))) H) ∨ rIsB x y H Q
  | .isnot => fun x y H Q => (y = .non ∧ Q (.bl (!decide (x = .non))) H) ∨ rNotB x y H Q
theorem op_cmp (op : COp) (hu : X.A.units + 65 < cLine) : OpR X (compareOp (copOf op)) (rCmp X.K op) := by
  cases op with
  | eq => exact op_eqD (by omega)
  | ne => exact op_neD (by omega)
  | lt => exact op_lt
  | le => exact op_le.or (op_leT (by omega))
  | gt => exact op_gt
  | ge => exact op_ge
  | isin => exact op_inD hu
  | notin => exact op_notInD hu
  | eqE => exact op_eqE hu
  | neE => exact op_neE hu
  | is => exact op_isN.or op_isBl
  | isnot => exact op_notN.or op_notBl
theorem dps_intsOf {K : PySem.W.Frag} {H : Hp} : ∀ {vs : List V} {ds : List PyData} {ns : List Int}, DpAll K H vs ds → intsOf ds = some ns → vs = ns.map V.int
  | _, _, ns, .nil, e => by cases e; rfl
  | _, _, ns, .cons (d := d) (ds := ds) h t, e => by
    cases h with
    | int i =>
      unfold intsOf at e
      cases hr : intsOf ds with
      | none => rw [hr] at e; cases e
      | some ms => rw [hr] at e; cases e; rw [dps_intsOf t hr]; rfl
    | _ => cases e
theorem dps_emp {K : PySem.W.Frag} {H : Hp} {vs : List V} {ds : List PyData} (h : DpAll K H vs ds) : vs.isEmpty = ds.isEmpty := by cases h <;> rfl
theorem cmp_rd {K : PySem.W.Frag} {O : List Addr} {H : Hp} {op : COp} {x y : V} {dx dy : PyData} {Q' : Bool → Prop} {Q : VK} (hx : RdD K O H x dx) (hy : RdD K O H y dy) (hq : cmpK op dx dy Q') (k : ∀ r, Q' r → Q (.bl r) H) : rCmp K op x y H Q := by
  unfold cmpK at hq
  split at hq
  · exact ⟨dx, dy, hx.dp.old (PyData.hasDict_of_canLay _ (SeqAt.canLay_of_shaped hq.1)), hy.dp.old (PyData.hasDict_of_canLay _ (SeqAt.canLay_of_shaped hq.2.1)), hq.1, hq.2.1, k _ hq.2.2⟩
  · exact ⟨dx, dy, hx.dp.old (PyData.hasDict_of_canLay _ (SeqAt.canLay_of_shaped hq.1)), hy.dp.old (PyData.hasDict_of_canLay _ (SeqAt.canLay_of_shaped hq.2.1)), hq.1, hq.2.1, k _ hq.2.2⟩
  · split at hq
    · obtain ⟨p, vs, rfl, h1, h2⟩ := hx
      obtain ⟨p2, vs2, rfl, h3, h4⟩ := hy
      cases h4
      refine ⟨p, p2, vs, rfl, rfl, .inl ⟨h1, h3⟩, ?_⟩
      rw [dps_emp h2]
      simpa using k _ hq
    · obtain ⟨p, vs, rfl, h1, h2⟩ := hx
      obtain ⟨p2, vs2, rfl, h3, h4⟩ := hy
      cases h4
      refine ⟨p, p2, vs, rfl, rfl, .inr ⟨sq_t wo_all (tk_sq h1), sq_t wo_all (tk_sq h3)⟩, ?_⟩
      rw [dps_emp h2]
      simpa using k _ hq
    · exact hq.elim
  · split at hq
    · obtain ⟨p, vs, rfl, h1, h2⟩ := hx
      obtain ⟨p2, vs2, rfl, h3, h4⟩ := hy
      cases h4
      refine ⟨p, p2, vs, rfl, rfl, .inl ⟨h1, h3⟩, ?_⟩
      rw [dps_emp h2]
      simpa using k _ hq
    · obtain ⟨p, vs, rfl, h1, h2⟩ := hx
      obtain ⟨p2, vs2, rfl, h3, h4⟩ := hy
      cases h4
      refine ⟨p, p2, vs, rfl, rfl, .inr ⟨sq_t wo_all (tk_sq h1), sq_t wo_all (tk_sq h3)⟩, ?_⟩
      rw [dps_emp h2]
      simpa using k _ hq
    · exact hq.elim
  · split at hq
    · cases hx.int; cases hy.int; exact ⟨_, _, rfl, rfl, k _ hq⟩
    · exact hq.elim
  · split at hq
    · cases hx.int; cases hy.int; exact .inl ⟨_, _, rfl, rfl, k _ hq⟩
    · split at hq
      · rename_i ns ms e1 e2
        obtain ⟨p, vs, rfl, h1, h2⟩ := hx
        obtain ⟨p2, vs2, rfl, h3, h4⟩ := hy
        have g1 := dps_intsOf h2 e1
        have g2 := dps_intsOf h4 e2
        subst g1
        subst g2
        exact .inr ⟨p, p2, ns, ms, rfl, rfl, sq_t wo_all (tk_sq h1), sq_t wo_all (tk_sq h3), k _ hq⟩
      · exact hq.elim
    · exact hq.elim
  · split at hq
    · cases hx.int; cases hy.int; exact ⟨_, _, rfl, rfl, k _ hq⟩
    · exact hq.elim
  · split at hq
    · cases hx.int; cases hy.int; exact ⟨_, _, rfl, rfl, k _ hq⟩
    · exact hq.elim
  · split at hq
    · exact ⟨dx, _, hx.dp.old (PyData.hasDict_of_canLay _ (SeqAt.canLay_of_shaped hq.1)), hy.dp.old (PyData.hasDict_of_canLay _ (SeqAt.canLay_of_shaped hq.2.1)), hq.1, hq.2.1, k _ hq.2.2⟩
    · exact hq.elim
  · split at hq
    · exact ⟨dx, _, hx.dp.old (PyData.hasDict_of_canLay _ (SeqAt.canLay_of_shaped hq.1)), hy.dp.old (PyData.hasDict_of_canLay _ (SeqAt.canLay_of_shaped hq.2.1)), hq.1, hq.2.1, k _ hq.2.2⟩
    · exact hq.elim
  · have ex := is_none_of hx.dp
    split at hq
    · cases hy.none; exact .inl ⟨rfl, by rw [ex]; exact k _ hq⟩
    · rename_i hne
      cases hy.none
      refine .inl ⟨rfl, ?_⟩
      rw [ex]
      rw [isNoneD_no hne]
      exact k _ hq
    · cases hx.bool; cases hy.bool; exact .inr ⟨_, _, rfl, rfl, k _ hq⟩
    · exact hq.elim
  · have ex := is_none_of hx.dp
    split at hq
    · cases hy.none; exact .inl ⟨rfl, by rw [ex]; exact k _ hq⟩
    · rename_i hne
      cases hy.none
      refine .inl ⟨rfl, ?_⟩
      rw [ex]
      rw [isNoneD_no hne]
      exact k _ hq
    · cases hx.bool; cases hy.bool; exact .inr ⟨_, _, rfl, rfl, k _ hq⟩
    · exact hq.elim
theorem tcmp {op : COp} {σ : L2.St} {H : Hp} {Q : VK} (h : TEof X.K (.cmp op ea eb) σ H Q) : tOp (rCmp X.K op) (TEof X.K ea) (TEof X.K eb) σ H Q := by
  obtain ⟨F, O, env, eo, hw⟩ := h
  refine te_then eo hw fun r1 env1 v1 H1 q1 e1 c1 s1 a1 => te_then e1 q1 fun r2 env2 v2 H2 q2 e2 c2 s2 a2 => ?_
  obtain ⟨dx, q2, hx⟩ := res_rd e2 (s1.chg c2) q2
  obtain ⟨dy, q2, hy⟩ := res_rd e2 s2 q2
  exact cmp_rd hx hy q2 fun r q => q _ _ e2 (c1.trans c2) (.bl _) trivial
theorem te_cmp (op : COp) (hu : X.A.units + 65 < cLine) (ha : PE X a (TEof X.K ea)) (hb : PE X b (TEof X.K eb)) (hm : behindInMarks (copOf op) b = false) : PE X (.Compare a [copOf op] [b] pos) (TEof X.K (.cmp op ea eb)) :=
  pe_weak (pe_cmpR (op_cmp op hu) ha hb hm) fun σ H Q h => tcmp h
theorem tt_te {e : E} {σ : L2.St} {H : Hp} {Q : Bool → Hp → Prop} {op : COp} (h : TTof X.K (.cmp op ea eb) σ H Q) : TEof X.K (.cmp op ea eb) σ H fun x H' => ∃ k, x = .bl k ∧ Q k H' := by
  obtain ⟨F, O, env, eo, hw⟩ := h
  refine ⟨F, O, env, eo, ?_⟩
  unfold wE at hw ⊢
  refine wE_mono ea (fun r1 env1 q => wE_mono eb (fun r2 env2 q => rdK_mono (fun dx q => rdK_mono (fun dy q => cmpK_mono (fun b q v H' e c s _ => ?_) q) q) q) q) hw
  cases (show Dp X.K _ v (.bool _) from s)
  exact ⟨_, rfl, q _ e c⟩
theorem tt_cmp (op : COp) (hu : X.A.units + 65 < cLine) (ha : PE X a (TEof X.K ea)) (hb : PE X b (TEof X.K eb)) (hm : behindInMarks (copOf op) b = false) : PT X (.Compare a [copOf op] [b] pos) (TTof X.K (.cmp op ea eb)) :=
  pt_weak (pt_cmpR (op_cmp op hu) ha hb hm) fun σ H Q h => tcmp (tt_te (e := .none) h)
theorem tchain {o1 o2 : COp} {σ : L2.St} {H : Hp} {Q : VK} (h : TEof X.K (.chain o1 o2 ea eb ec) σ H Q) : tChain (rCmp X.K o1) (rCmp X.K o2) (TEof X.K ea) (TEof X.K eb) (TEof X.K ec) σ H Q := by
  obtain ⟨F, O, env, eo, hw⟩ := h
  refine te_then eo hw fun r1 env1 v1 H1 q1 e1 c1 s1 a1 => te_then e1 q1 fun r2 env2 v2 H2 q2 e2 c2 s2 a2 => ?_
  obtain ⟨dx, q2, hx⟩ := res_rd e2 (s1.chg c2) q2
  obtain ⟨dy, q2, hy⟩ := res_rd e2 s2 q2
  refine cmp_rd hx hy q2 fun r q => ⟨r, rfl, ?_⟩
  cases r with
  | true =>
    rw [if_pos rfl] at q ⊢
    refine te_then e2 q fun r3 env3 v3 H3 q3 e3 c3 s3 a3 => ?_
    obtain ⟨dy, q3, hy⟩ := res_rd e3 (s2.chg c3) q3
    obtain ⟨dz, q3, hz⟩ := res_rd e3 s3 q3
    exact cmp_rd hy hz q3 fun r q => q _ _ e3 ((c1.trans c2).trans c3) (.bl _) trivial
  | false =>
    rw [if_neg Bool.false_ne_true] at q ⊢
    exact q _ _ e2 (c1.trans c2) (.bl _) trivial
theorem te_chain (o1 o2 : COp) (hu : X.A.units + 65 < cLine) (ha : PE X a (TEof X.K ea)) (hb : PE X b (TEof X.K eb)) (hc : PE X c (TEof X.K ec)) (hm : lastMarks [copOf o1, copOf o2] [b, c] = false) : PE X (.Compare a [copOf o1, copOf o2] [b, c] pos) (TEof X.K (.chain o1 o2 ea eb ec)) :=
  pe_weak (pe_chain (op_cmp o1 hu) (op_cmp o2 hu) ha hb hc hm) fun σ H Q h => tchain h
/-! ### truth, and, or, not, if -/
theorem tru_of {K : PySem.W.Frag} {O : List Addr} {H : Hp} {v : V} {x : PyData} {b : Bool} (h : RdD K O H v x) (e : truth x = some b) : TruV K v H b := by
  cases x with
  | none => cases h.none; cases e; rfl
  | bool c => cases h.bool; cases e; rfl
  | int i => cases h.int; cases e; rfl
  | str s => cases e
  | dict k => cases e
  | list xs =>
    obtain ⟨p, vs, rfl, s1, d1⟩ := h
    have e : some (!xs.isEmpty) = some b := e
    cases e
    refine .inl ⟨vs, s1, ?_⟩
    cases d1 <;> rfl
  | tuple xs =>
    obtain ⟨p, vs, rfl, s1, d1⟩ := h
    have e : some (!xs.isEmpty) = some b := e
    cases e
    refine .inr (.inl ⟨vs, sq_t wo_all (tk_sq s1), ?_⟩)
    cases d1 <;> rfl
theorem res_truth {K : PySem.W.Frag} {O : List Addr} {H0 H : Hp} {σ : L2.St} {env : AEnv} {v : V} {r : AV} {k : Bool → Prop} (e : EnvOk K F O H σ env) (h : Res K O H0 H σ v r) (q : truthK env r k) : ∃ b, k b ∧ TruV K v H b := by
  obtain ⟨x, q, hx⟩ := res_rd e h q
  cases ht : truth x with
  | none => rw [ht] at q; exact q.elim
  | some b => rw [ht] at q; exact ⟨b, q, tru_of hx ht⟩
theorem te_not (ha : PE X a (TEof X.K ea)) : PE X (.UnaryOp .Not a pos) (TEof X.K (.not ea)) :=
  pe_weak (pe_notT ha) fun σ H Q ⟨F, O, env, eo, hw⟩ => te_then eo hw fun r1 env1 v1 H1 q1 e1 c1 s1 a1 => by
    obtain ⟨k, q, hk⟩ := res_truth e1 s1 q1
    exact ⟨k, hk, q _ _ e1 c1 (.bl _) trivial⟩
theorem te_and {rest : List Expr} (ha : PE X a (TEof X.K ea)) (hb : PE X (.BoolOp .And (b :: rest) pos) (TEof X.K eb)) : PE X (.BoolOp .And (a :: b :: rest) pos) (TEof X.K (.and ea eb)) :=
  pe_weak (pe_andT ha hb) fun σ H Q ⟨F, O, env, eo, hw⟩ => te_then eo hw fun r1 env1 v1 H1 q1 e1 c1 s1 a1 => by
    obtain ⟨k, q, hk⟩ := res_truth e1 s1 q1
    refine ⟨k, hk, ite_mono (fun q => ?_) (fun q => ?_) q⟩
    · exact te_then e1 q fun r2 env2 v2 H2 q2 e2 c2 s2 a2 => q2 v2 H2 e2 (c1.trans c2) (s2.back c1) a2
    · exact q v1 H1 e1 c1 s1 a1
theorem te_or {rest : List Expr} (ha : PE X a (TEof X.K ea)) (hb : PE X (.BoolOp .Or (b :: rest) pos) (TEof X.K eb)) : PE X (.BoolOp .Or (a :: b :: rest) pos) (TEof X.K (.or ea eb)) :=
  pe_weak (pe_orT ha hb) fun σ H Q ⟨F, O, env, eo, hw⟩ => te_then eo hw fun r1 env1 v1 H1 q1 e1 c1 s1 a1 => by
    obtain ⟨k, q, hk⟩ := res_truth e1 s1 q1
    refine ⟨k, hk, ite_mono (fun q => ?_) (fun q => ?_) q⟩
    · exact q v1 H1 e1 c1 s1 a1
    · exact te_then e1 q fun r2 env2 v2 H2 q2 e2 c2 s2 a2 => q2 v2 H2 e2 (c1.trans c2) (s2.back c1) a2
theorem te_ife (hc : PT X c (TTof X.K ec)) (ha : PE X a (TEof X.K ea)) (hb : PE X b (TEof X.K eb)) : PE X (.IfExp c a b pos) (TEof X.K (.ife ec ea eb)) :=
  pe_weak (pe_ifExp hc ha hb) fun σ H Q ⟨F, O, env, eo, hw⟩ => tt_then (q := fun t env1 => if t = true then wE ea env1 _ X0 else wE eb env1 _ X0) eo hw fun t env1 H1 q1 e1 c1 =>
    ite_mono (fun q => te_then e1 q fun r2 env2 v2 H2 q2 e2 c2 s2 a2 => q2 v2 H2 e2 (c1.trans c2) (s2.back c1) a2) (fun q => te_then e1 q fun r2 env2 v2 H2 q2 e2 c2 s2 a2 => q2 v2 H2 e2 (c1.trans c2) (s2.back c1) a2) q1
/-- any value as a test -/
theorem tt_any {e : E} (ha : PE X a (TEof X.K e)) (he : ∀ whole, isTrue a X.env whole = (do let v ← whole; standAt a.pos; holding [v] (truthy v))) : PT X a (TTof X.K e) :=
  pt_weak (pt_truth ha he) fun σ H Q ⟨F, O, env, eo, hw⟩ => te_then eo hw fun r1 env1 v1 H1 q1 e1 c1 s1 a1 => by
    obtain ⟨k, q, hk⟩ := res_truth e1 s1 q1
    exact ⟨k, hk, q _ e1 c1⟩
theorem tt_not (ha : PT X a (TTof X.K ea)) : PT X (.UnaryOp .Not a pos) (TTof X.K (.not ea)) :=
  pt_weak (pt_not ha) fun σ H Q ⟨F, O, env, eo, hw⟩ => by
    refine ⟨F, O, env, eo, ?_⟩
    unfold wE at hw
    refine wE_mono ea (fun r1 env1 q => truthK_mono (fun b q H' e c => ?_) q) hw
    exact q H' e c
theorem tw_and {rest : List Expr} (ha : PT X a (TTof X.K ea)) (hb : PW X (.BoolOp .And (b :: rest) pos) (TTof X.K eb)) : PW X (.BoolOp .And (a :: b :: rest) pos) (TTof X.K (.and ea eb)) :=
  pw_weak (pw_and ha hb) fun σ H Q ⟨F, O, env, eo, hw⟩ => by
    refine ⟨F, O, env, eo, ?_⟩
    unfold wE at hw
    refine wE_mono ea (fun r1 env1 q => ?_) hw
    rw [truthK_iff] at q ⊢
    obtain ⟨t, et, q⟩ := q
    refine ⟨t, et, fun H' e c => ?_⟩
    cases t with
    | true =>
      simp only [if_true] at q ⊢
      exact ⟨F, O, env1, e, wE_mono eb (fun r2 env2 q => truthK_mono (fun b q H2 e2 c2 => q H2 e2 (c.trans c2)) q) q⟩
    | false =>
      simp only [Bool.false_eq_true, if_false] at q ⊢
      obtain ⟨t', et', q⟩ := truthK_iff.mp q
      rw [et] at et'; cases et'
      exact q H' e c
theorem tw_or {rest : List Expr} (ha : PT X a (TTof X.K ea)) (hb : PW X (.BoolOp .Or (b :: rest) pos) (TTof X.K eb)) : PW X (.BoolOp .Or (a :: b :: rest) pos) (TTof X.K (.or ea eb)) :=
  pw_weak (pw_or ha hb) fun σ H Q ⟨F, O, env, eo, hw⟩ => by
    refine ⟨F, O, env, eo, ?_⟩
    unfold wE at hw
    refine wE_mono ea (fun r1 env1 q => ?_) hw
    rw [truthK_iff] at q ⊢
    obtain ⟨t, et, q⟩ := q
    refine ⟨t, et, fun H' e c => ?_⟩
    cases t with
    | false =>
      simp only [Bool.false_eq_true, if_false] at q ⊢
      exact ⟨F, O, env1, e, wE_mono eb (fun r2 env2 q => truthK_mono (fun b q H2 e2 c2 => q H2 e2 (c.trans c2)) q) q⟩
    | true =>
      simp only [if_true] at q ⊢
      obtain ⟨t', et', q⟩ := truthK_iff.mp q
      rw [et] at et'; cases et'
      exact q H' e c
theorem tt_chain (o1 o2 : COp) (hu : X.A.units + 65 < cLine) (ha : PE X a (TEof X.K ea)) (hb : PE X b (TEof X.K eb)) (hc : PE X c (TEof X.K ec)) (hm : lastMarks [copOf o1, copOf o2] [b, c] = false) : PT X (.Compare a [copOf o1, copOf o2] [b, c] pos) (TTof X.K (.chain o1 o2 ea eb ec)) :=
  pt_weak (pt_chain (op_cmp o1 hu) (op_cmp o2 hu) ha hb hc hm) fun σ H Q ⟨F, O, env, eo, hw⟩ => tchain (Q := fun x H' => ∃ k, x = .bl k ∧ Q k H') (by
    refine ⟨F, O, env, eo, ?_⟩
    unfold wE at hw ⊢
    refine wE_mono ea (fun r1 env1 q => wE_mono eb (fun r2 env2 q => rdK_mono (fun dx q => rdK_mono (fun dy q => cmpK_mono (fun b q => ite_mono (fun q => ?_) (fun q => ?_) q) q) q) q) q) hw
    · refine wE_mono ec (fun r1 env1 q => rdK_mono (fun dx q => rdK_mono (fun dy q => cmpK_mono (fun b q v H' e c s _ => ?_) q) q) q) q
      cases (show Dp X.K _ v (.bool _) from s)
      exact ⟨_, rfl, q _ e c⟩
    · intro v H' e c s _
      cases (show Dp X.K _ v (.bool _) from s)
      exact ⟨_, rfl, q _ e c⟩)
/-! ### displays, arguments -/
theorem ta_nil : PA X [] (TAof X.K .nil) := pa_weak pa_nil fun σ H Q ⟨F, O, env, eo, hw⟩ => hw [] H eo .refl trivial
theorem ta_cons {es : List Expr} {ees : Es} (ha : PE X a (TEof X.K ea)) (hr : PA X es (TAof X.K ees)) (hs : starEach (a :: es) X.env = (false, eval a X.env) :: starEach es X.env) : PA X (a :: es) (TAof X.K (.cons ea ees)) :=
  pa_weak (pa_cons ha hr hs) fun σ H Q ⟨F, O, env, eo, hw⟩ => te_then eo hw fun r1 env1 v1 H1 q1 e1 c1 s1 a1 => ta_then e1 q1 fun rs env2 vs H2 q2 e2 c2 s2 =>
    q2 (v1 :: vs) H2 e2 (c1.trans c2) ⟨s1.chg c2, s2.back c1⟩
theorem te_tup {es : List Expr} {ees : Es} {k : Nat} (h : PA X es (TAof X.K ees)) (hn : ∀ (σ : L2.St) (H : Hp) (Q : List V → Hp → Prop), TAof X.K ees σ H Q → TAof X.K ees σ H fun vs H' => vs.length ≤ sizeLine ∧ Q vs H') : PE X (.Tuple es k pos) (TEof X.K (.tup ees)) :=
  pe_weak (pe_tup h) fun σ H Q ⟨F, O, env, eo, hw⟩ => hn _ _ _ (ta_then eo hw fun rs env1 vs H1 q1 e1 c1 s1 => by
    obtain ⟨xs, q, hx⟩ := res_datas s1 q1
    intro p hp
    have no := e1.notO hp
    exact q _ _ (e1.grow (same_new hp)) (c1.trans (chg_new hp)) (dp_tup no hp hx) trivial)
theorem te_lst {es : List Expr} {ees : Es} (h : PA X es (TAof X.K ees)) (hn : ∀ (σ : L2.St) (H : Hp) (Q : List V → Hp → Prop), TAof X.K ees σ H Q → TAof X.K ees σ H fun vs H' => vs.length ≤ sizeLine ∧ Q vs H') : PE X (.List es pos) (TEof X.K (.lst ees)) :=
  pe_weak (pe_lst h) fun σ H Q ⟨F, O, env, eo, hw⟩ => hn _ _ _ (ta_then eo hw fun rs env1 vs H1 q1 e1 c1 s1 => by
    obtain ⟨xs, q, hx⟩ := res_datas s1 q1
    intro p hp
    exact q _ _ (e1.grow (same_new hp)) (c1.trans (chg_new hp)) (res_new e1 hp c1 hx) (avR_new e1 hp))
def lenEs : Es → Nat
  | .nil => 0
  | .cons _ es => lenEs es + 1
theorem wEs_len : ∀ {es : Es} {env : AEnv} {Q : List AV → AEnv → Prop} {X : XQ}, wEs es env Q X → wEs es env (fun rs e => rs.length = lenEs es ∧ Q rs e) X
  | .nil, _, _, _, h => ⟨rfl, h⟩
  | .cons e es, _, _, _, h => wE_mono e (fun v e1 q => wEs_mono es (fun vs e2 q => ⟨by rw [List.length_cons, q.1]; rfl, q.2⟩) (wEs_len q)) h
theorem resAll_len {K : PySem.W.Frag} {O : List Addr} {H H' : Hp} {σ : L2.St} : ∀ {vs : List V} {rs : List AV}, ResAll K O H H' σ vs rs → vs.length = rs.length
  | [], [], _ => rfl
  | _ :: _, _ :: _, h => by rw [List.length_cons, List.length_cons, resAll_len h.2]
theorem ta_len {ees : Es} (hl : lenEs ees ≤ sizeLine) (σ : L2.St) (H : Hp) (Q : List V → Hp → Prop) (h : TAof X.K ees σ H Q) : TAof X.K ees σ H fun vs H' => vs.length ≤ sizeLine ∧ Q vs H' := by
  obtain ⟨F, O, env, eo, hw⟩ := h
  refine ⟨F, O, env, eo, wEs_mono ees (fun rs e1 q vs H' e c s => ⟨?_, q.2 vs H' e c s⟩) (wEs_len hw)⟩
  rw [resAll_len s, q.1]
  exact hl
/-! ### subscripts, slices -/
theorem dps_at {K : PySem.W.Frag} {H : Hp} {vs : List V} {ds : List PyData} {i : Int} {d : PyData} (h : DpAll K H vs ds) (e : atI ds i = some d) : ∃ v, atI vs i = some v ∧ Dp K H v d := by
  unfold atI at e ⊢
  rw [dps_len h]
  cases hj : ixN ds.length i with
  | none => rw [hj] at e; cases e
  | some j => rw [hj] at e; exact dps_get h e
theorem dps_intsK {K : PySem.W.Frag} {H : Hp} : ∀ ns : List Int, DpAll K H (ns.map V.int) (ns.map PyData.int)
  | [] => .nil
  | n :: ns => .cons (.int n) (dps_intsK ns)
theorem te_ix (ha : PE X a (TEof X.K ea)) (hb : PE X b (TEof X.K eb)) (hs : PlainIx b) : PE X (.Subscript a b pos) (TEof X.K (.ix ea eb)) :=
  pe_weak (pe_ix ix_seq ha hb hs) fun σ H Q ⟨F, O, env, eo, hw⟩ => te_then eo hw fun r1 env1 v1 H1 q1 e1 c1 s1 a1 => te_then e1 q1 fun r2 env2 v2 H2 q2 e2 c2 s2 a2 => by
    obtain ⟨dx, q2, hx⟩ := res_rd e2 (s1.chg c2) q2
    obtain ⟨dy, q2, hy⟩ := res_rd e2 s2 q2
    unfold ixK at q2
    split at q2
    · split at q2
      · rename_i hz
        cases hy.int
        obtain ⟨p, vs, rfl, sq, d1⟩ := hx
        obtain ⟨v, hv, hd⟩ := dps_at d1 hz
        exact .inl ⟨p, vs, _, v, rfl, rfl, sq, hv, q2 _ _ e2 (c1.trans c2) hd trivial⟩
      · exact q2.elim
    · split at q2
      · rename_i hz
        cases hy.int
        obtain ⟨p, vs, rfl, sq, d1⟩ := hx
        obtain ⟨v, hv, hd⟩ := dps_at d1 hz
        exact .inr (.inl ⟨p, vs, _, v, rfl, rfl, sq_t wo_all (tk_sq sq), hv, q2 _ _ e2 (c1.trans c2) hd trivial⟩)
      · exact q2.elim
    · split at q2
      · rename_i hz
        cases hy.int
        have q9 := q2
        obtain ⟨p, ns, rfl, rfl, hs, _⟩ := ktup_inv hx.dp
        obtain ⟨v, hv, hd⟩ := dps_at (K := X.K) (H := Wo H2 O) (dps_intsK _) hz
        exact .inr (.inl ⟨_, _, _, v, rfl, rfl, hs H2, hv, q9 _ _ e2 (c1.trans c2) hd trivial⟩)
      · exact q2.elim
    · exact q2.elim
theorem sl_rd {K : PySem.W.Frag} {O : List Addr} {H0 H : Hp} {σ : L2.St} {env : AEnv} {x : V} {dx : PyData} {lo hi : Option Int} {Q' : AV → Prop} {Q : VK} (eo : EnvOk K F O H σ env) (hc : Chg O H0 H) (hx : RdD K O H x dx) (hq : slK dx lo hi Q')
    (k : ∀ r v H', Q' r → EnvOk K F O H' σ env → Chg O H0 H' → Res K O H0 H' σ v r → AvR K O H' σ env v r → Q v H') : rSlL K x lo hi H Q ∨ rSlA K x lo hi H Q := by
  unfold slK at hq
  split at hq
  · obtain ⟨p, vs, rfl, sq, d1⟩ := hx
    refine .inl ⟨p, vs, rfl, sq, fun z hz => ?_⟩
    refine k _ _ _ hq (eo.grow (same_new hz)) (hc.trans (chg_new hz)) (res_new eo hz hc ?_) (avR_new eo hz)
    unfold cutV cutD
    rw [dps_len d1]
    exact dps_take _ (dps_drop _ d1)
  · obtain ⟨p, vs, rfl, sq, d1⟩ := hx
    have l1 := dps_len d1
    refine .inr ⟨p, vs, rfl, sq_t wo_all (tk_sq sq), fun e => ?_, fun _ z hz => ?_⟩
    · refine k _ _ _ hq eo hc (.tup sq ?_) trivial
      unfold cutD
      rw [← l1, e.1, e.2, List.drop_zero, l1, Nat.sub_zero, List.take_length]
      exact d1
    · refine k _ _ _ hq (eo.grow (same_new hz)) (hc.trans (chg_new hz)) (dp_tup (eo.notO hz) hz ?_) trivial
      unfold cutV cutD
      rw [l1]
      exact dps_take _ (dps_drop _ d1)
  · exact hq.elim
theorem te_slL {p2 : Pos} (ha : PE X a (TEof X.K ea)) (hb : PE X b (TEof X.K eb)) : PE X (.Subscript a (.Slice (some b) none none p2) pos) (TEof X.K (.slL ea eb)) :=
  pe_weak (pe_slice (sl_list.or sl_tupA) ha (po_some hb) po_none) fun σ H Q ⟨F, O, env, eo, hw⟩ => te_then eo hw fun r1 env1 v1 H1 q1 e1 c1 s1 a1 => te_then e1 q1 fun r2 env2 v2 H2 q2 e2 c2 s2 a2 => by
    split at q2
    · cases (show Dp X.K _ v2 (.int _) from s2)
      obtain ⟨dx, q2, hx⟩ := res_rd e2 (s1.chg c2) q2
      exact ⟨_, rfl, sl_rd e2 (c1.trans c2) hx q2 fun r v H' q e c s a => q v H' e c s a⟩
    · exact q2.elim
theorem te_slU {p2 : Pos} (ha : PE X a (TEof X.K ea)) (hb : PE X b (TEof X.K eb)) : PE X (.Subscript a (.Slice none (some b) none p2) pos) (TEof X.K (.slU ea eb)) :=
  pe_weak (pe_slice (sl_list.or sl_tupA) ha po_none (po_some hb)) fun σ H Q ⟨F, O, env, eo, hw⟩ => te_then eo hw fun r1 env1 v1 H1 q1 e1 c1 s1 a1 => te_then e1 q1 fun r2 env2 v2 H2 q2 e2 c2 s2 a2 => by
    split at q2
    · cases (show Dp X.K _ v2 (.int _) from s2)
      obtain ⟨dx, q2, hx⟩ := res_rd e2 (s1.chg c2) q2
      exact ⟨_, rfl, sl_rd e2 (c1.trans c2) hx q2 fun r v H' q e c s a => q v H' e c s a⟩
    · exact q2.elim
theorem te_slLU {p2 : Pos} (ha : PE X a (TEof X.K ea)) (hb : PE X b (TEof X.K eb)) (hc : PE X c (TEof X.K ec)) : PE X (.Subscript a (.Slice (some b) (some c) none p2) pos) (TEof X.K (.slLU ea eb ec)) :=
  pe_weak (pe_slice (sl_list.or sl_tupA) ha (po_some hb) (po_some hc)) fun σ H Q ⟨F, O, env, eo, hw⟩ => te_then eo hw fun r1 env1 v1 H1 q1 e1 c1 s1 a1 => te_then e1 q1 fun r2 env2 v2 H2 q2 e2 c2 s2 a2 => by
    split at q2
    · cases (show Dp X.K _ v2 (.int _) from s2)
      refine ⟨_, rfl, te_then e2 q2 fun r3 env3 v3 H3 q3 e3 c3 s3 a3 => ?_⟩
      split at q3
      · cases (show Dp X.K _ v3 (.int _) from s3)
        obtain ⟨dx, q3, hx⟩ := res_rd e3 ((s1.chg c2).chg c3) q3
        exact ⟨_, rfl, sl_rd e3 ((c1.trans c2).trans c3) hx q3 fun r v H' q e c s a => q v H' e c s a⟩
      · exact q3.elim
    · exact q2.elim
theorem findIdx_at {p : PyData → Bool} : ∀ {ds : List PyData} {j : Nat}, ds.findIdx? p = some j → ∃ z, ds[j]? = some z ∧ p z = true ∧ ∀ (m : Nat) z', m < j → ds[m]? = some z' → p z' = false
  | [], j, h => by simp at h
  | d :: ds, j, h => by
    rw [List.findIdx?_cons] at h
    cases hp : p d with
    | true =>
      rw [hp, if_pos rfl] at h
      cases h
      exact ⟨d, rfl, hp, fun m z' hm => absurd hm (Nat.not_lt_zero _)⟩
    | false =>
      rw [hp, if_neg Bool.false_ne_true] at h
      cases hq : ds.findIdx? p with
      | none => rw [hq] at h; cases h
      | some i =>
        rw [hq] at h
        have h : some (i + 1) = some j := h
        cases h
        obtain ⟨z, h1, h2, h3⟩ := findIdx_at hq
        refine ⟨z, h1, h2, fun m z' hm e => ?_⟩
        cases m with
        | zero => cases e; exact hp
        | succ m => exact h3 m z' (by omega) e
theorem te_slRev {k : Nat} {p1 p2 p3 : Pos} (ha : PE X a (TEof X.K ea)) : PE X (.Subscript a (.Slice none none (some (.UnaryOp .USub (.Constant (.int 1) k p1) p2)) p3) pos) (TEof X.K (.slRev ea)) :=
  pe_weak (pe_revL ha) fun σ H Q ⟨F, O, env, eo, hw⟩ => te_then eo hw fun r1 env1 v1 H1 q1 e1 c1 s1 a1 => by
    obtain ⟨dx, q, hx⟩ := res_rd e1 s1 q1
    split at q
    · obtain ⟨p, vs, rfl, sq, d1⟩ := hx
      refine ⟨p, vs, rfl, sq, fun z hz => ?_⟩
      exact q _ _ (e1.grow (same_new hz)) (c1.trans (chg_new hz)) (res_new e1 hz c1 (dps_rev d1)) (avR_new e1 hz)
    · exact q.elim
end
end PF

set_option maxRecDepth 100000
set_option maxHeartbeats 2000000
/-! RX: repr of an exception object of an own class -/
namespace PT
open PySem PySem.Spec PyProof.Rows L2
open Sem (wp)
section
variable {prog : Program} {w : World} {A : Around} {E : Value → Shared → Prop} {s : Shared} {K : PySem.W.Frag} {e C t : Addr} {oe : Obj}
theorem look_special {M : Model} {name : Str} {r : Option Value} {Q : Option Value → Shared → Prop} (he : s.heap.get? e = some oe) (hc : oe.cls = .ref C) (X : K.In s.heap) (hf : PySem.W.findIn K (.ref C) name = some r) (q : Q r s) : wpAny M A (specialOf (.ref e) name) Q E s := by
  unfold specialOf
  exact wpAny_bind (wpAny_typeOf_ref he (hc ▸ PySem.W.looks_findIn X hf A Q E s (fun _ _ z => z) q))
theorem callBy_own {M : Model} {last : Value → List Value → Sem Value} {name : Str} {id : String} {T : String} {Q : Option Value → Shared → Prop} (he : s.heap.get? e = some oe) (hc : oe.cls = .ref C) (X : K.In s.heap) (hf : PySem.W.findIn K (.ref C) name = some (some (.builtin id))) (S : Slot T name id)
    (hcall : wpAny M A (last (.builtin id) [.ref e]) (fun v => Q (some v)) E s) : wpAny M A (callSpecialIfBoundBy? last (.ref e) name) Q E s := by
  simp only [callSpecialIfBoundBy?, bindSpecialIfBound?]
  refine wpAny_holding (wpAny_bind (wpAny_bind (look_special he hc X hf ?_)))
  simp only [S.bind]
  refine wpAny_bind (wpAny_askSetting (wpAny_ite ?_))
  have fin : wpAny M A (last (.builtin id) [.ref e] >>= fun v => pure (some v)) Q E s :=
    wpAny_bind (wpAny_mono hcall (fun v s' h' => wpAny_pure h') fun _ _ h' => h')
  split
  · exact wpAny_bind (wpAny_pure (wpAny_pure fin))
  · exact wpAny_tryCatch (wpAny_bind (wpAny_pure (wpAny_pure fin)))
theorem check_own {M : Model} {id owner n : String} {rest : List Value} {Q : Unit → Shared → Prop} (hk : builtinKind id = some .slot) (hs : splitId id = some (owner, n)) (ha : argsOk id ⟨.ref e :: rest, []⟩) (he : s.heap.get? e = some oe) (hc : oe.cls = .ref C) (X : K.In s.heap)
    (hsub : PySem.W.subIn K (.ref C) (.type owner) = some true) (hq : Q () s) : wpAny M A (checkBuiltinCall id ⟨.ref e :: rest, []⟩) Q E s := by
  simp only [checkBuiltinCall, hk, hs]
  refine wpAny_bind ?_
  unfold isInstance
  refine wpAny_bind (wpAny_typeOf_ref he (hc ▸ PySem.W.looks_subIn X hsub A _ E s (fun _ _ z => z) ?_))
  first
    | (simp only [Bool.not_true, Bool.false_eq_true, if_false]; skip)
    | skip
  cases hsig : Manifest.signature? id with
  | none => exact wpAny_pure hq
  | some sig =>
    simp only [argsOk, hsig] at ha
    have h2 : Bind.checkArgs id sig ⟨.ref e :: rest, []⟩ = pure () := ha
    show wpAny M A (Bind.checkArgs id sig ⟨.ref e :: rest, []⟩) Q E _
    rw [h2]; exact wpAny_pure hq
theorem typeName_own {M : Model} {cd : ClassData} {Q : String → Shared → Prop} (he : s.heap.get? e = some oe) (hc : oe.cls = .ref C) (X : K.In s.heap) (hcd : PySem.W.clsIn K C = some cd) (hq : Q cd.name.toString s) : wpAny M A (typeNameOfWhole (.ref e)) Q E s := by
  unfold typeNameOfWhole shownTypeOf
  refine wpAny_bind (wpAny_bind (wpAny_typeOf_ref he ?_))
  rw [hc]
  rw [if_neg (show ¬ ((Value.ref C == Value.type "builtin_function_or_method") = true) from by simp)]
  exact wpAny_pure (wpAny_bind (PySem.W.looks_clsIn X hcd A _ E s (fun _ _ z => z) (wpAny_pure hq)))
theorem bexcArgs_own {M : Model} {vs : Array Value} {items : List Value} {Q : Value × List Value → Shared → Prop} (he : s.heap.get? e = some oe) (hd : oe.data = .fields vs) (h0 : vs[0]? = some (.ref t)) (ht : s.heap.TupAt t items) (hq : Q (.ref t, items) s) :
    wpAny M A (Builtin.BaseException.bexcArgs (.ref e)) Q E s := by
  obtain ⟨ot, k, hto, _, htd⟩ := ht
  unfold Builtin.BaseException.bexcArgs
  refine wpAny_bind (wpAny_field he hd h0 (wpAny_bind (wpAny_seqItems hto htd ?_)))
  have : items.toArray.toList = items := by simp
  show wpAny M A (pure (Value.ref t, items.toArray.toList)) Q E s
  rw [this]; exact wpAny_pure hq
theorem reprAt_own (b : Nat) {cd : ClassData} {vs : Array Value} {m : Str} {tk : Tok} {Q : Fin → Shared → Prop} (he : s.heap.get? e = some oe) (hc : oe.cls = .ref C) (X : K.In s.heap) (hcd : PySem.W.clsIn K C = some cd) (hd : oe.data = .fields vs) (h0 : vs[0]? = some (.ref t)) (ht : s.heap.TupAt t [.str m tk])
    (hq : Q (.done (.ret (.str (excReprHead cd.name.toString ++ "(" ++ reprText m ++ ")") (s.toks + 1)))) { s with toks := s.toks + 1 + 1 }) (hsz : b + (excReprHead cd.name.toString ++ "(" ++ reprText m ++ ")").length ≤ sizeLine) :
    wpAny (model prog w) A (Builtin.bexcReprAt b ⟨[.ref e], []⟩) Q E s := by
  have e1 : b + (Str.ofString ((cd.name.toString.cutAt '.').getLastD "") ++ Str.ofString "(" ++ reprText m ++ Str.ofString ")").length ≤ sizeLine := hsz
  have hsz2 : (Str.ofString ((cd.name.toString.cutAt '.').getLastD "") ++ Str.ofString "(" ++ reprText m ++ Str.ofString ")").length ≤ sizeLine := Nat.le_trans (Nat.le_add_left _ b) e1
  have eP : (Str.ofString "(").length = 1 := by rw [PySem.ofString_length]; rfl
  rw [strLen_append, strLen_append, strLen_append, eP] at e1
  have hsz1 : (reprText m).length ≤ sizeLine := by omega
  have hpile : b + ((Str.ofString ((cd.name.toString.cutAt '.').getLastD "")).length + 1) ≤ sizeLine := by omega
  unfold Builtin.bexcReprAt
  repeat (first | with_reducible refine typeName_own he hc X hcd ?_ | with_reducible refine bexcArgs_own he hd h0 ht ?_ | rw [pyReprUnder_leaf (v := .str m tk) hpile (by intro a; nofun)] | with_reducible refine wpAny_pyRepr_str ?_ | wp_step)
  exact hq
theorem call_under_own (b : Nat) {cd : ClassData} {vs : Array Value} {m : Str} {tk : Tok} {Q : Value → Shared → Prop} (he : s.heap.get? e = some oe) (hc : oe.cls = .ref C) (X : K.In s.heap) (hsub : PySem.W.subIn K (.ref C) (.type "BaseException") = some true) (hcd : PySem.W.clsIn K C = some cd) (hd : oe.data = .fields vs) (h0 : vs[0]? = some (.ref t)) (ht : s.heap.TupAt t [.str m tk])
    (hq : Q (.str (excReprHead cd.name.toString ++ "(" ++ reprText m ++ ")") (s.toks + 1)) { s with toks := s.toks + 1 + 1 }) (hsz : b + (excReprHead cd.name.toString ++ "(" ++ reprText m ++ ")").length ≤ sizeLine) :
    wpAny (model prog w) A (call (.builtin "BaseException.__repr__.under") [.ref e, rawInt b]) Q E s := by
  refine wpAny_call (codeAny_call_builtin F.plain_bexc_repr_under F.entry_bexc_repr_under ?_)
  rw [F.check_bexc_repr_under]
  refine wpAny_pure ?_
  show wpAny _ _ (reprTwin "BaseException.__repr__" Builtin.bexcReprAt ⟨[.ref e, rawInt b], []⟩) _ _ _
  rw [reprTwin_eq]
  exact wpAny_bind (check_own (id := "BaseException.__repr__") (owner := "BaseException") (n := "__repr__") (by decide +kernel) (by decide +kernel) (F.args_bexc_repr _) he hc X hsub (reprAt_own b he hc X hcd hd h0 ht hq hsz))
/-- the leaf: an exception object of an own class, shown inside a list or a tuple -/
theorem reprK_own {as : List Addr} {h₀ : Heap} {d : Nat} {T : String} {cd : ClassData} {vs : Array Value} {m : Str} {tk : Tok} (he : h₀.get? e = some oe) (hc : oe.cls = .ref C) (X : K.In h₀) (hf : PySem.W.findIn K (.ref C) "__repr__" = some (some (.builtin "BaseException.__repr__"))) (S : Slot T "__repr__" "BaseException.__repr__")
    (hsub : PySem.W.subIn K (.ref C) (.type "BaseException") = some true) (hcd : PySem.W.clsIn K C = some cd) (hd : oe.data = .fields vs) (h0 : vs[0]? = some (.ref t)) (ht : h₀.TupAt t [.str m tk]) : ReprK prog w as h₀ d (.ref e) (excReprHead cd.name.toString ++ "(" ++ reprText m ++ ")") := by
  intro base hb A g E s Q hg hcl hu hk hQ
  have X' : K.In s.heap := X.keeps hk
  have ht' : s.heap.TupAt t [.str m tk] := by
    obtain ⟨o, k, a1, a2, a3⟩ := ht
    exact ⟨o, k, hk _ _ a1, a2, a3⟩
  refine wpAny_pyReprUnder_ref (by omega) ?_
  unfold pyReprObjUnder pyReprObjBy
  refine wpAny_bind (wpAny_cRoomFor (by omega) ?_)
  refine wpAny_bind (look_special (hk _ _ he) hc X' hf ?_)
  refine wpAny_bind (callBy_own (name := Str.ofString "__repr__") (hk _ _ he) hc X' hf S ?_)
  simp only [show reprUnder? (.builtin "BaseException.__repr__") = some (.builtin "BaseException.__repr__.under") from rfl]
  refine wpAny_mono (call_under_own (Q := fun v s' => (∃ x u, v = .str x u) ∧ ∃ u tk', v = .str (excReprHead cd.name.toString ++ "(" ++ reprText m ++ ")") u ∧ s' = { s with toks := tk' }) base (hk _ _ he) hc X' hsub hcd hd h0 ht' ⟨⟨_, _, rfl⟩, _, _, rfl, rfl⟩ hb) (fun v s' hv => ?_) fun _ _ z => z
  obtain ⟨⟨x, u, rfl⟩, u2, tk', e2, rfl⟩ := hv
  refine wpAny_bind (wpAny_isInstance (T := "str") (b := true) rfl isSubtype_str_str (wpAny_pure ⟨_, _, e2, ?_⟩))
  exact hQ s.heap tk' fun _ _ z => z
end
end PT

set_option maxRecDepth 100000
set_option maxHeartbeats 2000000
/-! RY: repr of data, made exception objects among it -/
namespace PF
open PySem PySem.Spec PyProof.Rows L2
mutual
theorem shX_old : ∀ {x : PyData}, x.hasDict = false → shX x = x.shown
  | .none, _ => by simp only [shX, PyData.shown]
  | .bool b, _ => by simp only [shX, PyData.shown]
  | .int i, _ => by simp only [shX, PyData.shown]
  | .str s, _ => by simp only [shX, PyData.shown]
  | .list xs, h => by simp only [shX, PyData.shown, shXs_old (xs := xs) (by simpa only [PyData.hasDict] using h)]
  | .tuple xs, h => by simp only [shX, PyData.shown, shXs_old (xs := xs) (by simpa only [PyData.hasDict] using h)]
  | .dict _, h => by simp only [PyData.hasDict] at h; cases h
theorem shXs_old : ∀ {xs : List PyData}, PyData.hasDictAll xs = false → shXs xs = PyData.shownAll xs
  | [], _ => by simp only [shXs, PyData.shownAll]
  | x :: xs, h => by
    simp only [PyData.hasDictAll, Bool.or_eq_false_iff] at h
    simp only [shXs, PyData.shownAll, shX_old h.1, shXs_old h.2]
end
mutual
theorem okX_old : ∀ {x : PyData}, x.hasDict = false → okX x = x.showable
  | .none, _ => by simp only [okX, PyData.showable]
  | .bool b, _ => by simp only [okX, PyData.showable]
  | .int i, _ => by simp only [okX, PyData.showable]
  | .str s, _ => by simp only [okX, PyData.showable]
  | .list xs, h => by simp only [okX, PyData.showable, okXs_old (xs := xs) (by simpa only [PyData.hasDict] using h)]
  | .tuple xs, h => by simp only [okX, PyData.showable, okXs_old (xs := xs) (by simpa only [PyData.hasDict] using h)]
  | .dict _, h => by simp only [PyData.hasDict] at h; cases h
theorem okXs_old : ∀ {xs : List PyData}, PyData.hasDictAll xs = false → okXs xs = PyData.showableAll xs
  | [], _ => by simp only [okXs, PyData.showableAll]
  | x :: xs, h => by
    simp only [PyData.hasDictAll, Bool.or_eq_false_iff] at h
    simp only [okXs, PyData.showableAll, okX_old h.1, okXs_old h.2]
end
theorem shX_objM (c s : Str) : shX (objM c s) = c ++ "(" ++ reprText s ++ ")" := by simp only [objM, shX, excX, Option.getD_some]
theorem okX_objM (c s : Str) : okX (objM c s) = true := by simp only [objM, okX, excX, Option.isSome_some]
theorem depth_objM (c s : Str) : (objM c s).depth = 2 := by simp only [objM, PyData.depth, PyData.depthKv, PyData.depthAll]; rfl
mutual
inductive RdX (K : PySem.W.Frag) (h : Heap) : Value → PyData → Prop
  | none : RdX K h .none .none
  | bool (b : Bool) : RdX K h (.bool b) (.bool b)
  | int (i : Int) (t : Tok) : RdX K h (.int i t) (.int i)
  | str (x : Str) (t : Tok) : RdX K h (.str x t) (.str x)
  | list {a : Addr} {o : Obj} {vs : Array Value} {n : Nat} {xs : List PyData} : h.get? a = some o → o.cls = .type "list" → o.data = .seq vs n → RdXs K h vs.toList xs → RdX K h (.ref a) (.list xs)
  | tuple {a : Addr} {o : Obj} {vs : Array Value} {n : Nat} {xs : List PyData} : h.get? a = some o → o.cls = .type "tuple" → o.data = .seq vs n → RdXs K h vs.toList xs → RdX K h (.ref a) (.tuple xs)
  | exc {a t : Addr} {c m : Str} {tk : Tok} : NamC K c → h.get? a = some { cls := .ref (He.ga K c), data := .fields #[.ref t, .none, .none, .none, .bool false, .none] } → h.TupAt t [.str m tk] → RdX K h (.ref a) (objM c m)
inductive RdXs (K : PySem.W.Frag) (h : Heap) : List Value → List PyData → Prop
  | nil : RdXs K h [] []
  | cons {v : Value} {vs : List Value} {d : PyData} {ds : List PyData} : RdX K h v d → RdXs K h vs ds → RdXs K h (v :: vs) (d :: ds)
end
section
variable {K : PySem.W.Frag} {h : Heap}
mutual
theorem rdX_depth : ∀ {v : Value} {d d' : PyData}, RdX K h v d → RdX K h v d' → d'.depth = d.depth
  | _, _, _, .none, r => by cases r; rfl
  | _, _, _, .bool b, r => by cases r; rfl
  | _, _, _, .int i t, r => by cases r; rfl
  | _, _, _, .str x t, r => by cases r; rfl
  | _, _, _, .list h1 h2 h3 h4, r => by
    cases r with
    | list g1 g2 g3 g4 =>
      rw [h1] at g1
      cases g1
      rw [h3] at g3
      cases g3
      have := rdXs_depth h4 g4
      simp only [PyData.depth, this]
    | tuple g1 g2 g3 g4 =>
      rw [h1] at g1
      cases g1
      rw [h2] at g2
      exact absurd g2 (by simp)
    | exc n g1 g2 =>
      rw [h1] at g1
      cases g1
      cases h2
  | _, _, _, .tuple h1 h2 h3 h4, r => by
    cases r with
    | list g1 g2 g3 g4 =>
      rw [h1] at g1
      cases g1
      rw [h2] at g2
      exact absurd g2 (by simp)
    | tuple g1 g2 g3 g4 =>
      rw [h1] at g1
      cases g1
      rw [h3] at g3
      cases g3
      have := rdXs_depth h4 g4
      simp only [PyData.depth, this]
    | exc n g1 g2 =>
      rw [h1] at g1
      cases g1
      cases h2
  | _, _, _, .exc n h1 h2, r => by
    cases r with
    | list g1 g2 g3 g4 =>
      rw [h1] at g1
      cases g1
      cases g2
    | tuple g1 g2 g3 g4 =>
      rw [h1] at g1
      cases g1
      cases g2
    | exc n' g1 g2 => rw [depth_objM, depth_objM]
theorem rdXs_depth : ∀ {vs : List Value} {ds ds' : List PyData}, RdXs K h vs ds → RdXs K h vs ds' → PyData.depthAll ds' = PyData.depthAll ds
  | _, _, _, .nil, r => by cases r; rfl
  | _, _, _, .cons a b, r => by
    cases r with
    | cons a' b' => simp only [PyData.depthAll, rdX_depth a a', rdXs_depth b b']
end
def AtMostX (K : PySem.W.Frag) (h : Heap) (n : Nat) (bs : List Addr) : Prop := ∀ b ∈ bs, ∃ d, RdX K h (.ref b) d ∧ d.depth ≤ n
theorem AtMostX.not {a : Addr} {d : PyData} {n : Nat} {bs : List Addr} (hb : AtMostX K h n bs) (r : RdX K h (.ref a) d) (hd : n < d.depth) : a ∉ bs := fun hm => by
  obtain ⟨d', r', hd'⟩ := hb a hm
  have := rdX_depth r r'
  omega
theorem AtMostX.mono {n m : Nat} {bs : List Addr} (hb : AtMostX K h n bs) (l : n ≤ m) : AtMostX K h m bs := fun b hm => by
  obtain ⟨d, r, hd⟩ := hb b hm
  exact ⟨d, r, by omega⟩
theorem AtMostX.cons {a : Addr} {d : PyData} {n : Nat} {bs : List Addr} (r : RdX K h (.ref a) d) (hd : d.depth ≤ n) (hb : AtMostX K h n bs) : AtMostX K h n (a :: bs) := fun b hm => by
  rcases List.mem_cons.mp hm with e | e
  · exact ⟨d, e ▸ r, hd⟩
  · exact hb b e
variable {prog : Program} {w : World}
mutual
theorem reprX (X : K.In h) : ∀ {v : Value} {d : PyData}, RdX K h v d → okX d = true → (shX d).length ≤ sizeLine → ∃ bs, AtMostX K h d.depth bs ∧ ReprK prog w bs h d.depth v (shX d)
  | _, _, .none, _, _ => ⟨[], (fun _ h => nomatch h), by simp only [shX]; exact .of_is ReprIs.none _ _ _⟩
  | _, _, .bool b, _, _ => ⟨[], (fun _ h => nomatch h), by simp only [shX]; exact .of_is (ReprIs.bool b) _ _ _⟩
  | _, _, .int i t, hs, _ => ⟨[], (fun _ h => nomatch h), by simp only [shX]; exact .of_is (ReprIs.int t (by simpa [okX] using hs)) _ _ _⟩
  | _, _, .str x t, _, hz => ⟨[], (fun _ h => nomatch h), by simp only [shX]; exact .of_is (ReprIs.str x t (by simpa only [shX] using hz)) _ _ _⟩
  | _, _, .list (a := a) (vs := vs) (xs := xs) h1 h2 h3 h4, hs, hz => by
    have hz' : (listText (shXs xs)).length ≤ sizeLine := by simpa only [shX] using hz
    obtain ⟨bs, hb, hk⟩ := reprXs X h4 (by simpa [okX] using hs) (fun t ht => Nat.le_trans (listText_mem_le ht) hz')
    have r : RdX K h (.ref a) (.list xs) := .list h1 h2 h3 h4
    have hna : a ∉ bs := hb.not r (by simp only [PyData.depth]; omega)
    refine ⟨a :: bs, (hb.mono (by simp only [PyData.depth]; omega)).cons r (Nat.le_refl _), ?_⟩
    simp only [PyData.depth, shX]
    obtain ⟨l⟩ := vs
    cases l with
    | nil =>
      have h4' : RdXs K h [] xs := h4
      cases h4'
      simp only [shXs, listText_nil]
      exact ReprK.listEmpty h1 h2 h3
    | cons x l => exact ReprK.list h1 h2 h3 hna (by simpa using hk.length_eq) (fun i y e => hk.item i y (by simpa using e))
  | _, _, .tuple (a := a) (xs := xs) h1 h2 h3 h4, hs, hz => by
    have hz' : (tupleText (shXs xs)).length ≤ sizeLine := by simpa only [shX] using hz
    obtain ⟨bs, hb, hk⟩ := reprXs X h4 (by simpa [okX] using hs) (fun t ht => Nat.le_trans (tupleText_mem_le ht) hz')
    have r : RdX K h (.ref a) (.tuple xs) := .tuple h1 h2 h3 h4
    have hna : a ∉ bs := hb.not r (by simp only [PyData.depth]; omega)
    refine ⟨a :: bs, (hb.mono (by simp only [PyData.depth]; omega)).cons r (Nat.le_refl _), ?_⟩
    simp only [PyData.depth, shX]
    exact ReprK.tuple h1 h2 h3 hna hk
  | _, _, .exc (c := c) (m := m) n h1 h2, _, _ => by
    obtain ⟨cd, hcd, hn⟩ := n.n
    refine ⟨[], (fun _ h => nomatch h), ?_⟩
    rw [shX_objM]
    have := _root_.PT.reprK_own (prog := prog) (w := w) (as := []) (d := (objM c m).depth) h1 rfl X n.f PySem.F.excStr_ValueError.repr n.s hcd rfl (by rfl) h2
    rw [hn] at this
    exact this
theorem reprXs (X : K.In h) : ∀ {vs : List Value} {ds : List PyData}, RdXs K h vs ds → okXs ds = true → (∀ t ∈ shXs ds, t.length ≤ sizeLine) → ∃ bs, AtMostX K h (PyData.depthAll ds) bs ∧ ReprAllK prog w bs h (PyData.depthAll ds) vs (shXs ds)
  | _, _, .nil, _, _ => ⟨[], (fun _ h => nomatch h), by simp only [shXs]; exact .nil⟩
  | _, _, .cons (d := d) (ds := ds) r rs, hs, hz => by
    have hs' : okX d = true ∧ okXs ds = true := by simpa [okXs] using hs
    obtain ⟨b1, hb1, k1⟩ := reprX X r hs'.1 (hz _ (by simp only [shXs]; exact List.mem_cons_self ..))
    obtain ⟨b2, hb2, k2⟩ := reprXs X rs hs'.2 (fun t ht => hz t (by simp only [shXs]; exact List.mem_cons_of_mem _ ht))
    refine ⟨b1 ++ b2, ?_, ?_⟩
    · intro b hm
      simp only [PyData.depthAll]
      rcases List.mem_append.mp hm with hm | hm
      · obtain ⟨d', r', hd'⟩ := hb1 b hm
        exact ⟨d', r', Nat.le_trans hd' (Nat.le_max_left _ _)⟩
      · obtain ⟨d', r', hd'⟩ := hb2 b hm
        exact ⟨d', r', Nat.le_trans hd' (Nat.le_max_right _ _)⟩
    · simp only [PyData.depthAll, shXs]
      exact .cons ((k1.more fun b hb => List.mem_append_left _ hb).level_le (Nat.le_max_left _ _)) (k2.more_le (fun b hb => List.mem_append_right _ hb) (Nat.le_max_right _ _))
end
end
section
variable {X : Cx} {pins : List (Addr × Obj)} {σ : L2.St} {H : Hp} {s : Shared}
mutual
theorem rdX_of (I : Inv X pins σ H s) : ∀ {v : V} {d : PyData} {u : Value}, Dp X.K H v d → RelV v u → okX d = true → RdX X.K s.heap u d
  | _, _, _, .non, r, _ => by cases r; exact .none
  | _, _, _, .bl b, r, _ => by cases r; exact .bool b
  | _, _, _, .int i, r, _ => by obtain ⟨t, rfl⟩ := r; exact .int i t
  | _, _, _, .str x, r, _ => by obtain ⟨t, rfl⟩ := r; exact .str x t
  | _, _, _, .lst hs ha, r, k => by
    cases r
    obtain ⟨its, rv, ⟨o, n, ho, hc, _, hd⟩, _⟩ := I.list hs
    exact .list ho hc hd (rdXs_of I ha rv (by simpa only [okX] using k))
  | _, _, _, .tup hs ha, r, k => by
    cases r
    obtain ⟨its, rv, ⟨o, ho, hc, n, hd⟩, _⟩ := I.tuple (tk_sq hs)
    exact .tuple ho hc hd (rdXs_of I ha rv (by simpa only [okX] using k))
  | _, _, _, .ktup _ _, r, k => by
    unfold kD at k
    simp [okX, excX] at k
  | _, _, _, .obj _ _, r, k => by
    unfold objD at k
    simp [okX, excX] at k
  | _, _, _, .objM c n ha ht, r, k => by
    cases r
    obtain ⟨z, _, _⟩ := I.hok _ _ ha
    obtain ⟨its, rv, ⟨o, ho, hc, m, hd⟩, _⟩ := I.tuple (tk_sq ht)
    obtain ⟨u, e, ru⟩ := rv.one
    obtain ⟨tk, rfl⟩ := ru
    exact .exc (tk := tk) n z ⟨o, m, ho, hc, by rw [hd, ← e]⟩
theorem rdXs_of (I : Inv X pins σ H s) : ∀ {vs : List V} {ds : List PyData} {us : List Value}, DpAll X.K H vs ds → Vals vs us → okXs ds = true → RdXs X.K s.heap us ds
  | _, _, _, .nil, r, _ => by cases r; exact .nil
  | _, _, _, .cons (ds := ds) h1 h2, r, k => by
    simp only [okXs, Bool.and_eq_true] at k
    cases r with
    | cons r1 r2 => exact .cons (rdX_of I h1 r1 k.1) (rdXs_of I h2 r2 k.2)
end
theorem repr_X {x : PyData} {v : V} {u : Value} {E : Value → Shared → Prop} {Q : Value → Shared → Prop} (I : Inv X pins σ H s) (hd : Dp X.K H v x) (ru : RelV v u) (h0 : okR x = true) (h3 : (shX x).length ≤ sizeLine) (hgd : X.A.guards = some []) (hu : X.A.units + (x.depth + 1) < cLine)
    (q : ∀ h' u' tk, (∀ b o, s.heap.get? b = some o → h'.get? b = some o) → Q (.str (shX x) u') { s with heap := h', toks := tk }) : wpAny (model X.prog X.w) X.A (call (.builtin "repr") [u]) Q E s := by
  have h1 : okX x = true := by cases x <;> first | exact h0 | cases h0
  have r := rdX_of I hd ru h1
  have q0 : ∀ u' tk, Q (.str (shX x) u') { s with toks := tk } := fun u' tk => q s.heap u' tk fun _ _ e => e
  cases r with
  | none =>
    simp only [shX] at q0
    exact PySem.P.repr_of_none (q0 _ _)
  | bool b =>
    simp only [shX] at q0
    exact PySem.P.repr_of_bool (q0 _ _)
  | int i t =>
    simp only [shX] at q0
    exact PySem.P.repr_of_int (by simpa [okX] using h1) (q0 _ _)
  | str z t =>
    simp only [shX] at q0 h3
    exact PySem.P.repr_of_str (q0 _ _) h3
  | list g1 g2 g3 g4 =>
    rename_i a o vs n xs
    have hz' : (listText (shXs xs)).length ≤ sizeLine := by simpa only [shX] using h3
    obtain ⟨bs, hb, hk⟩ := reprXs (prog := X.prog) (w := X.w) I.kIn g4 (by simpa [okX] using h1) (fun t ht => Nat.le_trans (listText_mem_le ht) hz')
    have r : RdX X.K s.heap (.ref a) (.list xs) := .list g1 g2 g3 g4
    have hna : a ∉ bs := hb.not r (by simp only [PyData.depth]; omega)
    simp only [PyData.depth] at hu
    simp only [shX] at q
    refine call_repr_slot (T := "list") (idr := "list.__repr__") (by omega) ⟨o, g1, g2⟩ F.slot_list_repr.toG ?_
    obtain ⟨l⟩ := vs
    cases l with
    | nil =>
      have h4' : RdXs X.K s.heap [] xs := g4
      cases h4'
      simp only [shXs, listText_nil] at q
      exact call_list_repr_empty ⟨o, g1, g2⟩ g1 g3 ⟨_, _, rfl, q s.heap _ _ fun _ _ e => e⟩
    | cons x l =>
      exact call_list_reprK g1 g2 g3 hna (by simpa using hk.length_eq) (fun i y e => hk.item i y (by simpa using e)) hgd (fun b _ => Clear.nil b) (by show X.A.units + 1 + _ < cLine; omega) (fun _ _ e => e) (fun h' u tk hk => ⟨_, _, rfl, q h' u tk hk⟩) hz'
  | tuple g1 g2 g3 g4 =>
    rename_i a o vs n xs
    have hz' : (tupleText (shXs xs)).length ≤ sizeLine := by simpa only [shX] using h3
    obtain ⟨bs, hb, hk⟩ := reprXs (prog := X.prog) (w := X.w) I.kIn g4 (by simpa [okX] using h1) (fun t ht => Nat.le_trans (tupleText_mem_le ht) hz')
    have r : RdX X.K s.heap (.ref a) (.tuple xs) := .tuple g1 g2 g3 g4
    have hna : a ∉ bs := hb.not r (by simp only [PyData.depth]; omega)
    simp only [PyData.depth] at hu
    simp only [shX] at q
    refine call_repr_slot (T := "tuple") (idr := "tuple.__repr__") (by omega) ⟨o, g1, g2⟩ F.slot_tuple_repr ?_
    exact call_tuple_reprK g1 g2 g3 hna hk hgd (fun b _ => Clear.nil b) (by show X.A.units + 1 + _ < cLine; omega) (fun _ _ e => e) (fun h' u tk hk => ⟨_, _, rfl, q h' u tk hk⟩) hz'
  | exc n g1 g2 => cases h0
end
end PF

set_option maxRecDepth 100000
set_option maxHeartbeats 4000000
namespace PF
open PySem PySem.Spec PyProof.Rows L2
theorem wo_nil0 {H : Hp} : Wo H [] = H := by
  funext a
  exact wo_out (by simp)
/-! ### a def by its promise, where nothing is being shown -/
structure FnG (P : Program) (w : World) (K : PySem.W.Frag) (mg : Str → Option Value) (base : Heap) (k : Nat) (f : Addr) (fd : FuncData) (ps : List Str) (sp : Sp) : Prop where
  len : ∀ vs H Q E, sp vs H Q E → vs.length = ps.length
  run : ∀ (A : Around) (outer : List Env) (s : Shared) (H : Hp) (args : Args) (us : List Value) (vs : List V) (Q : VK), Room k A → A.guards = some [] → Env0 P w K mg base A outer s H → BindsTo s fd args (ps.zip us) →
    Vals vs us → sp vs H Q E0 → codeAny (model P w) A (.call (.ref f) args) (CR CX0 outer P w H s Q E0) s
theorem FnG.mono {P : Program} {w : World} {K : PySem.W.Frag} {mg : Str → Option Value} {base : Heap} {j k : Nat} {f : Addr} {fd : FuncData} {ps : List Str} {sp : Sp} (F : FnG P w K mg base j f fd ps sp) (h : j ≤ k) : FnG P w K mg base k f fd ps sp :=
  ⟨F.len, fun A outer s H args us vs Q hr => F.run A outer s H args us vs Q (hr.mono h)⟩
section
variable {X : Cx} {pins : List (Addr × Obj)} {σ : L2.St} {H : Hp} {s : Shared} {k : Nat} {f : Addr} {fd : FuncData} {ps : List Str} {sp : Sp}
theorem run_g {args : Args} {us : List Value} {vs : List V} {Q : VK} (G : FnG X.prog X.w X.K X.mg X.base k f fd ps sp) (hr : Room k X.A) (hg : X.A.guards = some []) (I : Inv X pins σ H s) (hb : BindsTo s fd args (ps.zip us)) (hv : Vals vs us) (h : sp vs H Q E0) :
    codeAny (model X.prog X.w) X.A (.call (.ref f) args) (wants (EP X pins σ Q) X.xe) s := by
  refine codeAny_mono (G.run X.A X.stack s H args us vs Q hr hg I.env0 hb hv h) ?_
  intro r s' hq
  match r, hq with
  | .ok (.ret u), hq => exact I.after hq
end

/-! ### arguments as a def gets them -/
def lentA : List V → List AV → List Addr
  | .ref p :: vs, .o _ :: as => p :: lentA vs as
  | _ :: vs, _ :: as => lentA vs as
  | _, _ => []
structure ArgsOk (K : PySem.W.Frag) (O : List Addr) (H : Hp) (vs : List V) (as : List AV) : Prop where
  len : vs.length = as.length
  dat : ∀ (i : Nat) x, as[i]? = some (.d x) → ∃ v, vs[i]? = some v ∧ Dp K (Wo H O) v x
  own : ∀ (i : Nat) ds, as[i]? = some (.o ds) → ∃ p us, vs[i]? = some (.ref p) ∧ p ∈ O ∧ H p = some (.lst us) ∧ DpAll K (Wo H O) us ds
  nob : ∀ (i : Nat) j, as[i]? ≠ some (.b j)
  nom : ∀ (i : Nat) kvs, as[i]? ≠ some (.m kvs)
  one : ∀ (i j : Nat) ds ds', as[i]? = some (.o ds) → as[j]? = some (.o ds') → i = j
  live : ∀ p ∈ O, ∃ vs, H p = some (.lst vs)
/-- lists stay lists -/
def Shape (as as' : List AV) : Prop := as'.length = as.length ∧ ∀ (i : Nat) ds, as[i]? = some (.o ds) → ∃ ds', as'[i]? = some (.o ds')
def RetOk (K : PySem.W.Frag) (O : List Addr) (H H' : Hp) (v : V) : AV → Prop
  | .d x => Dp K (Wo H' O) v x
  | .o ds => ∃ p vs, v = .ref p ∧ H p = none ∧ p ∉ O ∧ H' p = some (.lst vs) ∧ DpAll K (Wo H' (p :: O)) vs ds
  | .b _ => False
  | .p ds x => ∃ q p vs w, v = .ref q ∧ H q = none ∧ q ∉ O ∧ H' q = some (.tup [.ref p, w]) ∧ H p = none ∧ p ∉ O ∧ H' p = some (.lst vs) ∧ DpAll K (Wo H' (p :: O)) vs ds ∧ Dp K (Wo H' (p :: O)) w x
  | .m _ => False
/-- what was lent does not hang on the new list -/
def AvA (K : PySem.W.Frag) (O : List Addr) (H : Hp) (vs : List V) (as : List AV) (v : V) : AV → Prop
  | .o _ => ∀ p, v = .ref p → ∀ (i : Nat) ds, as[i]? = some (.o ds) → ∃ a us, vs[i]? = some (.ref a) ∧ H a = some (.lst us) ∧ DpAll K (Wo H (p :: O)) us ds
  | .p _ _ => ∀ q p w, v = .ref q → H q = some (.tup [.ref p, w]) → ∀ (i : Nat) ds, as[i]? = some (.o ds) → ∃ a us, vs[i]? = some (.ref a) ∧ H a = some (.lst us) ∧ DpAll K (Wo H (p :: O)) us ds
  | _ => True
def liftSp (K : PySem.W.Frag) (sp : ASp) : Sp := fun vs H Q _ => ∃ (as : List AV) (O : List Addr), ArgsOk K O H vs as ∧ sp.run as (fun r as' => ∀ v H', Shape as as' → ArgsOk K O H' vs as' → (∀ a o, H a = some o → (∀ (i : Nat) ds, as[i]? = some (.o ds) → vs[i]? ≠ some (.ref a)) → H' a = some o) → RetOk K O H H' v r → AvA K O H' vs as' v r → Q v H') (fun _ => False)
/-- a def of the module under its name -/
def CallOk (P : Program) (w : World) (K : PySem.W.Frag) (mg : Str → Option Value) (base : Heap) (k : Nat) (x : Str) (sp : ASp) : Prop :=
  ∃ f fd ps, FnG P w K mg base k f fd ps (liftSp K sp) ∧ mg x = some (.ref f) ∧ PySem.W.keepIn K (.ref f) = true ∧ Binds K fd ps []
/-- .. called by keywords -/
def CallKOk (P : Program) (w : World) (K : PySem.W.Frag) (mg : Str → Option Value) (base : Heap) (k : Nat) (x : Str) (sp : ASp) (ps ks : List Str) : Prop :=
  ∃ f fd, FnG P w K mg base k f fd ps (liftSp K sp) ∧ mg x = some (.ref f) ∧ PySem.W.keepIn K (.ref f) = true ∧
    ∀ (s : Shared) (ws : List Value), K.In s.heap → ws.length = ks.length → ∃ us, ps.mapM (fun p => (ks.zip ws).lookup p) = some us ∧ BindsTo s fd ⟨[], ks.zip ws⟩ (ps.zip us)

section
variable {K : PySem.W.Frag} {F : Fi} {O : List Addr} {H0 H H' : Hp} {σ : L2.St} {env : AEnv}
theorem lend_ok (e : EnvOk K F O H σ env) : ∀ {vs : List V} {rs : List AV} {k : List AV → Prop}, ResAll K O H0 H σ vs rs → lendK env rs k → ∃ as, k as ∧ as.length = rs.length ∧ vs.length = rs.length ∧
    (∀ (i : Nat) x, as[i]? = some (.d x) → ∃ v, vs[i]? = some v ∧ Dp K (Wo H O) v x) ∧
    (∀ (i : Nat) ds, as[i]? = some (.o ds) → ∃ p us j, vs[i]? = some (.ref p) ∧ rs[i]? = some (.b j) ∧ getE env j = some (.o ds) ∧ σ[j]? = some (some (.ref p)) ∧ p ∈ O ∧ H p = some (.lst us) ∧ DpAll K (Wo H O) us ds) ∧ (∀ (i : Nat) j, as[i]? ≠ some (.b j)) ∧ (∀ (i : Nat) j, rs[i]? = some (.b j) → ∃ ds, as[i]? = some (.o ds))
  | [], [], k, _, q => ⟨[], q, rfl, rfl, fun i x z => by simp at z, fun i x z => by simp at z, fun i x z => by simp at z, fun i x z => by simp at z⟩
  | v :: vs, r :: rs, k, h, q => by
    have next : ∀ {a : AV} {as : List AV}, (as.length = rs.length ∧ vs.length = rs.length ∧
        (∀ (i : Nat) x, as[i]? = some (.d x) → ∃ v, vs[i]? = some v ∧ Dp K (Wo H O) v x) ∧
        (∀ (i : Nat) ds, as[i]? = some (.o ds) → ∃ p us j, vs[i]? = some (.ref p) ∧ rs[i]? = some (.b j) ∧ getE env j = some (.o ds) ∧ σ[j]? = some (some (.ref p)) ∧ p ∈ O ∧ H p = some (.lst us) ∧ DpAll K (Wo H O) us ds) ∧ (∀ (i : Nat) j, as[i]? ≠ some (.b j)) ∧ (∀ (i : Nat) j, rs[i]? = some (.b j) → ∃ ds, as[i]? = some (.o ds))) →
        (∀ x, a = .d x → Dp K (Wo H O) v x) → (∀ ds, a = .o ds → ∃ p us j, v = .ref p ∧ r = .b j ∧ getE env j = some (.o ds) ∧ σ[j]? = some (some (.ref p)) ∧ p ∈ O ∧ H p = some (.lst us) ∧ DpAll K (Wo H O) us ds) → (∀ j, a ≠ .b j) → (∀ j, r = .b j → ∃ ds, a = .o ds) →
        ((a :: as).length = (r :: rs).length ∧ (v :: vs).length = (r :: rs).length ∧
        (∀ (i : Nat) x, (a :: as)[i]? = some (.d x) → ∃ w, (v :: vs)[i]? = some w ∧ Dp K (Wo H O) w x) ∧
        (∀ (i : Nat) ds, (a :: as)[i]? = some (.o ds) → ∃ p us j, (v :: vs)[i]? = some (.ref p) ∧ (r :: rs)[i]? = some (.b j) ∧ getE env j = some (.o ds) ∧ σ[j]? = some (some (.ref p)) ∧ p ∈ O ∧ H p = some (.lst us) ∧ DpAll K (Wo H O) us ds) ∧ (∀ (i : Nat) j, (a :: as)[i]? ≠ some (.b j)) ∧ (∀ (i : Nat) j, (r :: rs)[i]? = some (.b j) → ∃ ds, (a :: as)[i]? = some (.o ds))) := by
      rintro a as ⟨h1, h2, h3, h4, h5, h6⟩ g1 g2 g3 g4
      refine ⟨by simp [h1], by simp [h2], ?_, ?_, ?_, ?_⟩
      · intro i x z
        cases i with
        | zero => simp at z; exact ⟨v, rfl, g1 x z⟩
        | succ i => simpa using h3 i x (by simpa using z)
      · intro i x z
        cases i with
        | zero =>
          simp at z
          obtain ⟨p, us, j, e1, e2, e3⟩ := g2 x z
          exact ⟨p, us, j, by simp [e1], by simp [e2], e3⟩
        | succ i => simpa using h4 i x (by simpa using z)
      · intro i j z
        cases i with
        | zero => simp at z; exact g3 j z
        | succ i => exact h5 i j (by simpa using z)
      · intro i j z
        cases i with
        | zero =>
          simp at z
          obtain ⟨ds, e⟩ := g4 j z
          exact ⟨ds, by simp [e]⟩
        | succ i => simpa using h6 i j (by simpa using z)
    cases r with
    | d x =>
      obtain ⟨as, q, hh⟩ := lend_ok e h.2 q
      exact ⟨.d x :: as, q, next hh (fun y z => by cases z; exact h.1) (fun y z => by cases z) (fun j z => by cases z) (fun j z => by cases z)⟩
    | o ds =>
      obtain ⟨as, q, hh⟩ := lend_ok e h.2 q
      obtain ⟨y, hy, dd⟩ := res_data (k := fun y => y = .list ds) h.1 rfl
      subst hy
      exact ⟨.d (.list ds) :: as, q, next hh (fun y z => by cases z; exact dd) (fun y z => by cases z) (fun j z => by cases z) (fun j z => by cases z)⟩
    | p ds x =>
      obtain ⟨as, q, hh⟩ := lend_ok e h.2 q
      obtain ⟨y, hy, dd⟩ := res_data (k := fun y => y = .tuple [.list ds, x]) h.1 rfl
      subst hy
      exact ⟨.d (.tuple [.list ds, x]) :: as, q, next hh (fun y z => by cases z; exact dd) (fun y z => by cases z) (fun j z => by cases z) (fun j z => by cases z)⟩
    | m _ => exact h.1.elim
    | b j =>
      unfold lendK at q
      split at q
      · rename_i ds hg
        obtain ⟨as, q, hh⟩ := lend_ok e h.2 q
        obtain ⟨p, rfl, hs⟩ := h.1
        obtain ⟨p', us, e1, e2, e3, e4⟩ := e.own j ds hg
        rw [hs] at e1; cases e1
        exact ⟨.o ds :: as, q, next hh (fun y z => by cases z) (fun y z => by cases z; exact ⟨p, us, j, rfl, rfl, hg, hs, e2, e3, e4⟩) (fun j z => by cases z) (fun j z => ⟨ds, rfl⟩)⟩
      · exact q.elim
def noM (as : List AV) : Prop := ∀ (i : Nat) kvs, as[i]? ≠ some (.m kvs)
theorem noM_cons {a : AV} {as : List AV} (h : ∀ kvs, a ≠ .m kvs) (t : noM as) : noM (a :: as) := fun i kvs z => by
  cases i with
  | zero => simp at z; exact h kvs z
  | succ i => exact t i kvs (by simpa using z)
theorem lend_noM {env : AEnv} : ∀ {rs : List AV} {k : List AV → Prop}, lendK env rs k → lendK env rs fun as => noM as ∧ k as
  | [], _, q => ⟨fun i kvs z => by simp at z, q⟩
  | .d x :: r, _, q => lendK_mono (vs := r) (fun as q => ⟨noM_cons (fun _ z => by cases z) q.1, q.2⟩) (lend_noM (rs := r) q)
  | .o ds :: r, _, q => lendK_mono (vs := r) (fun as q => ⟨noM_cons (fun _ z => by cases z) q.1, q.2⟩) (lend_noM (rs := r) q)
  | .p ds x :: r, _, q => lendK_mono (vs := r) (fun as q => ⟨noM_cons (fun _ z => by cases z) q.1, q.2⟩) (lend_noM (rs := r) q)
  | .b j :: r, _, q => by
    unfold lendK at q ⊢
    split at q
    · exact lendK_mono (fun as q => ⟨noM_cons (fun _ z => by cases z) q.1, q.2⟩) (lend_noM q)
    · exact q
  | .m _ :: _, _, q => q
theorem lent_one : ∀ {rs : List AV}, (lent rs).length ≤ 1 → ∀ (i j : Nat) a b, rs[i]? = some (.b a) → rs[j]? = some (.b b) → i = j
  | [], _, i, j, a, b, h1, _ => by simp at h1
  | r :: rs, h, i, j, a, b, h1, h2 => by
    have nob : ∀ {l : List AV} {m x : Nat}, (lent l).length = 0 → l[m]? = some (.b x) → False := by
      intro l
      induction l with
      | nil => intro m x _ z; simp at z
      | cons y l ih =>
        intro m x hl z
        cases m with
        | zero => simp at z; subst z; simp [lent] at hl
        | succ m =>
          refine ih (m := m) (x := x) ?_ (by simpa using z)
          cases y <;> simp [lent] at hl ⊢ <;> exact hl
    cases i with
    | zero =>
      cases j with
      | zero => rfl
      | succ j =>
        simp at h1
        subst h1
        simp [lent] at h
        exact (nob (l := rs) (m := j) (x := b) (by simp [h]) (by simpa using h2)).elim
    | succ i =>
      cases j with
      | zero =>
        simp at h2
        subst h2
        simp [lent] at h
        exact (nob (l := rs) (m := i) (x := a) (by simp [h]) (by simpa using h1)).elim
      | succ j =>
        have : i = j := lent_one (rs := rs) (by cases r <;> simp [lent] at h ⊢ <;> first | exact h | simp [h]) i j a b (by simpa using h1) (by simpa using h2)
        rw [this]
theorem backL_no : ∀ {rs as : List AV} {env : AEnv}, (∀ (i : Nat) j, rs[i]? ≠ some (.b j)) → backL env rs as = env
  | [], as, env, _ => by cases as <;> rfl
  | r :: rs, [], env, _ => by cases r <;> rfl
  | r :: rs, a :: as, env, h => by
    have ih : backL env rs as = env := backL_no fun i j z => h (i + 1) j (by simpa using z)
    cases r with
    | b j => exact (h 0 j rfl).elim
    | d x => exact ih
    | o x => exact ih
    | p x y => exact ih
    | m x => exact ih
theorem backL_one : ∀ {rs as : List AV} {env : AEnv} {i j : Nat} {ds : List PyData}, rs[i]? = some (.b j) → (∀ (m : Nat) n, rs[m]? = some (.b n) → m = i) → as[i]? = some (.o ds) → backL env rs as = setE env j (some (.o ds))
  | [], _, _, i, _, _, h, _, _ => by simp at h
  | _ :: _, [], _, i, _, _, _, _, h => by simp at h
  | r :: rs, a :: as, env, 0, j, ds, h1, h2, h3 => by
    simp at h1 h3
    subst h1; subst h3
    show backL (setE env j (some (.o ds))) rs as = _
    exact backL_no fun m n z => by have := h2 (m + 1) n (by simpa using z); omega
  | r :: rs, a :: as, env, i + 1, j, ds, h1, h2, h3 => by
    have hr : ∀ n, r ≠ .b n := fun n z => by have := h2 0 n (by simp [z]); omega
    have ih := backL_one (rs := rs) (as := as) (env := env) (i := i) (j := j) (ds := ds) (by simpa using h1) (fun m n z => by have := h2 (m + 1) n (by simpa using z); omega) (by simpa using h3)
    cases r with
    | b n => exact (hr n rfl).elim
    | d x => exact ih
    | o x => exact ih
    | p x y => exact ih
    | m x => exact ih
theorem retOk_res {v : V} {r : AV} (h : RetOk K O H H' v r) : Res K O H H' σ v r := by
  cases r with
  | d x => exact h
  | o ds => exact h
  | b j => exact h.elim
  | p ds x => exact h
  | m x => exact h
/-- a call seen from the caller -/
theorem lent_nil : ∀ {rs : List AV}, lent rs = [] → ∀ (i j : Nat), rs[i]? = some (.b j) → False
  | [], _, i, j, z => by simp at z
  | r :: rs, h, 0, j, z => by
    simp at z
    subst z
    simp [lent] at h
  | r :: rs, h, i + 1, j, z => lent_nil (rs := rs) (by cases r <;> simp [lent] at h ⊢ <;> exact h) i j (by simpa using z)
theorem call_liftC {Xx : XQ} {XX : Str → Prop} {sp : ASp} {vs : List V} {rs : List AV} {Q : AV → AEnv → Prop} {Qv : VK} (e : EnvOk K F O H σ env) (c : Chg O H0 H) (hr : ResAll K O H0 H σ vs rs) (hq : callK sp rs env Q Xx) (hX : ∀ c, Xx c env → XX c)
    (k : ∀ r env' v H', Q r env' → EnvOk K F O H' σ env' → Chg O H0 H' → Res K O H0 H' σ v r → AvR K O H' σ env' v r → Qv v H') : ∃ (as : List AV) (O1 : List Addr), ArgsOk K O1 H vs as ∧ (lent rs = [] → ∀ (i : Nat) ds, as[i]? ≠ some (.o ds)) ∧ sp.run as (fun r as' => ∀ v H', Shape as as' → ArgsOk K O1 H' vs as' → (∀ a o, H a = some o → (∀ (i : Nat) ds, as[i]? = some (.o ds) → vs[i]? ≠ some (.ref a)) → H' a = some o) → RetOk K O1 H H' v r → AvA K O1 H' vs as' v r → Qv v H') XX := by
  obtain ⟨h1, hq⟩ := hq
  obtain ⟨as, ⟨hnm, hq⟩, l1, l2, hd, ho, hb, hbo⟩ := lend_ok e hr (lend_noM hq)
  have one := lent_one h1
  refine ⟨as, O, ⟨by omega, hd, fun i ds z => ?_, hb, hnm, fun i j ds ds' z1 z2 => ?_, e.live⟩, fun hl i ds z => ?_, sp.mono _ _ _ _ _ (fun r as' hq v H' sh ao fr ro aa => ?_) (fun c z => hX c z) hq⟩
  · obtain ⟨p, us, j, a1, a2, a3, a4, a5, a6, a7⟩ := ho i ds z
    exact ⟨p, us, a1, a5, a6, a7⟩
  · obtain ⟨_, _, m, _, b1, _⟩ := ho i ds z1
    obtain ⟨_, _, n, _, b2, _⟩ := ho j ds' z2
    exact one i j m n b1 b2
  · obtain ⟨_, _, j, _, b1, _⟩ := ho i ds z
    exact lent_nil hl i j b1
  · have cH : Chg O H H' := fun a o z no => fr a o z fun i ds z1 z2 => by
      obtain ⟨p, us, j, a1, a2, a3, a4, a5, _⟩ := ho i ds z1
      rw [a1] at z2; cases z2
      exact no a5
    have nop : ∀ p, r ≠ .d .none → (∃ ds, r = .o ds) → v = .ref p → H p = none ∧ p ∉ O := fun p _ ⟨ds, hr⟩ hv => by
      subst hr; subst hv
      obtain ⟨p', us, e1, e2, e3, _⟩ := ro
      cases e1
      exact ⟨e2, e3⟩
    have nopP : ∀ q p w, (∃ ds x, r = .p ds x) → v = .ref q → H' q = some (.tup [.ref p, w]) → H p = none := fun q p w ⟨ds, x, hr⟩ hv hz => by
      subst hr; subst hv
      obtain ⟨q', p', us, w', e1, e2, e3, e4, e5, _⟩ := ro
      cases e1
      rw [hz] at e4
      cases e4
      exact e5
    have sm : ∀ p, H p = none → Same (Wo H O) (Wo H' (p :: O)) := fun p hp a o z => by
      obtain ⟨n, z⟩ := wo_some z
      have ne := ne_of_none z hp
      rw [wo_out (by simp only [List.mem_cons, not_or]; exact ⟨ne, n⟩)]
      exact cH a o z n
    have avD : ∀ p, H p = none → ∀ j x, getE env j = some (.d x) → ∃ v, σ[j]? = some (some v) ∧ Dp K (Wo H' (p :: O)) v x := fun p hp j x h => by
      obtain ⟨w, h1, h2⟩ := e.dat j x h
      exact ⟨w, h1, dp_mono (sm p hp) h2⟩
    by_cases hn : ∃ (i : Nat) (j : Nat), rs[i]? = some (.b j)
    · obtain ⟨i, j, hij⟩ := hn
      obtain ⟨ds, hds⟩ := hbo i j hij
      obtain ⟨p, us, j', a1, a2, a3, a4, a5, a6, a7⟩ := ho i ds hds
      rw [hij] at a2; cases a2
      obtain ⟨ds', hds'⟩ := sh.2 i ds hds
      rw [backL_one hij (fun m n z => one m i n j z hij) hds'] at hq
      obtain ⟨p', us', b1, b2, b3, b4⟩ := ao.own i ds' hds'
      rw [a1] at b1; cases b1
      have frp : ∀ a o, H a = some o → a ≠ p → H' a = some o := fun a o z ne => fr a o z fun i' ds'' z1 z2 => by
        obtain ⟨q, _, n, c1, c2, _⟩ := ho i' ds'' z1
        have : i' = i := one i' i n j c2 hij
        subst this
        rw [a1] at z2; cases z2
        exact ne rfl
      refine k r _ v H' hq (e.put a3 a4 cH frp b3 b4) (c.trans cH) (retOk_res (σ := σ) ro |>.back c) ?_
      cases r with
      | d x => trivial
      | b j => trivial
      | m _ => trivial
      | o xs =>
        intro q hv
        obtain ⟨hqn, _⟩ := nop q (by intro z; cases z) ⟨xs, rfl⟩ hv
        have hj := getE_len a3
        refine ⟨fun m x h => ?_, fun m ys h => ?_⟩
        · by_cases hm : m = j
          · subst hm; rw [get_set_same hj] at h; cases h
          · rw [get_set_ne hm] at h; exact avD q hqn m x h
        · by_cases hm : m = j
          · subst hm
            rw [get_set_same hj] at h; cases h
            obtain ⟨a, us2, d1, d2, d3⟩ := aa q hv i ds' hds'
            rw [a1] at d1; cases d1
            exact ⟨p, us2, a4, a5, d2, d3⟩
          · rw [get_set_ne hm] at h
            obtain ⟨a, us2, d1, d2, d3, d4⟩ := e.own m ys h
            have ne : a ≠ p := fun z => by subst z; exact hm (e.inj m j _ _ _ h a3 d1 a4)
            exact ⟨a, us2, d1, d2, frp _ _ d3 ne, dps_mono (sm q hqn) d4⟩
      | p xs x0 =>
        intro q0 q w hv hq0
        have hqn := nopP q0 q w ⟨xs, x0, rfl⟩ hv hq0
        have hj := getE_len a3
        refine ⟨fun m x h => ?_, fun m ys h => ?_⟩
        · by_cases hm : m = j
          · subst hm; rw [get_set_same hj] at h; cases h
          · rw [get_set_ne hm] at h; exact avD q hqn m x h
        · by_cases hm : m = j
          · subst hm
            rw [get_set_same hj] at h; cases h
            obtain ⟨a, us2, d1, d2, d3⟩ := aa q0 q w hv hq0 i ds' hds'
            rw [a1] at d1; cases d1
            exact ⟨p, us2, a4, a5, d2, d3⟩
          · rw [get_set_ne hm] at h
            obtain ⟨a, us2, d1, d2, d3, d4⟩ := e.own m ys h
            have ne : a ≠ p := fun z => by subst z; exact hm (e.inj m j _ _ _ h a3 d1 a4)
            exact ⟨a, us2, d1, d2, frp _ _ d3 ne, dps_mono (sm q hqn) d4⟩
    · have hno : ∀ (i : Nat) j, rs[i]? ≠ some (.b j) := fun i j z => hn ⟨i, j, z⟩
      rw [backL_no hno] at hq
      have sa : Same H H' := fun a o z => fr a o z fun i ds z1 => by
        obtain ⟨_, _, j, _, b1, _⟩ := ho i ds z1
        exact (hno i j b1).elim
      refine k r _ v H' hq (e.grow sa) (c.trans cH) (retOk_res (σ := σ) ro |>.back c) ?_
      cases r with
      | d x => trivial
      | b j => trivial
      | m _ => trivial
      | o xs =>
        intro q hv
        obtain ⟨hqn, _⟩ := nop q (by intro z; cases z) ⟨xs, rfl⟩ hv
        refine ⟨avD q hqn, fun m ys h => ?_⟩
        obtain ⟨a, us2, d1, d2, d3, d4⟩ := e.own m ys h
        exact ⟨a, us2, d1, d2, sa _ _ d3, dps_mono (sm q hqn) d4⟩
      | p xs x0 =>
        intro q0 q w hv hq0
        have hqn := nopP q0 q w ⟨xs, x0, rfl⟩ hv hq0
        refine ⟨avD q hqn, fun m ys h => ?_⟩
        obtain ⟨a, us2, d1, d2, d3, d4⟩ := e.own m ys h
        exact ⟨a, us2, d1, d2, sa _ _ d3, dps_mono (sm q hqn) d4⟩
theorem call_lift {sp : ASp} {vs : List V} {rs : List AV} {Q : AV → AEnv → Prop} {Qv : VK} (e : EnvOk K F O H σ env) (c : Chg O H0 H) (hr : ResAll K O H0 H σ vs rs) (hq : callK sp rs env Q X0)
    (k : ∀ r env' v H', Q r env' → EnvOk K F O H' σ env' → Chg O H0 H' → Res K O H0 H' σ v r → AvR K O H' σ env' v r → Qv v H') : liftSp K sp vs H Qv E0 := by
  obtain ⟨as, O1, a, _, q⟩ := call_liftC (XX := fun _ => False) e c hr hq (fun _ z => z) k
  exact ⟨as, O1, a, q⟩
end

section
variable {X : Cx} {F : Fi} {x : Str} {sp : ASp} {k : Nat} {p pos : Pos} {es : List Expr} {ees : Es}
theorem te_call (C : CallOk X.prog X.w X.K X.mg X.base k x sp) (hr : Room k X.A) (hgd : X.A.guards = some []) (hg : Gl X x) (hdb : (x == ("__debug__" : Str)) = false) {e : Expr} (ha : PA X (e :: es) (TAof X.K ees))
    (he : starEach (e :: es) X.env = (false, eval e X.env) :: starEach es X.env) (hpl : (backTo pos (starEach es X.env)).any (·.1) = false) : PE X (.Call (.Name x p) (e :: es) [] pos) (TEof X.K (.call x sp ees)) := by
  obtain ⟨f, fd, ps, G, hm, hk, hb⟩ := C
  refine ⟨fun pins s σ H Q I h => ?_⟩
  obtain ⟨F, O, env, eo, hw⟩ := h
  refine wpAny_Call_Name_kw (ld_glob I hg hm ?_ hdb)
  refine PySem.W.callWith_K (h₀ := X.base) I.ok.mod.kin hk ?_ he hpl
  refine thn (ha.run pos pins s σ H (fun vs H1 => liftSp X.K sp vs H1 Q E0) I (ta_then eo hw fun rs env1 vs H1 q1 e1 c1 s1 => call_lift e1 c1 s1 q1 fun r env' v H' q e c s a => q v H' e c s a)) ?_
  rintro us s1 ⟨vs, H1, I1, rv, q⟩
  have hl : (us ++ []).length = ps.length := by rw [List.append_nil, ← rv.length]; exact G.len _ _ _ _ q
  have hb' := hb s1 us I1.kIn hl
  rw [List.append_nil] at hb'
  exact ⟨I1.kIn, wpAny_call (run_g G hr hgd I1 hb' rv q)⟩
theorem te_call0 (C : CallOk X.prog X.w X.K X.mg X.base k x sp) (hr : Room k X.A) (hgd : X.A.guards = some []) (hg : Gl X x) (hdb : (x == ("__debug__" : Str)) = false) : PE X (.Call (.Name x p) [] [] pos) (TEof X.K (.call x sp .nil)) := by
  obtain ⟨f, fd, ps, G, hm, hk, hb⟩ := C
  refine ⟨fun pins s σ H Q I h => ?_⟩
  obtain ⟨F, O, env, eo, hw⟩ := h
  refine wpAny_Call_Name_kw (ld_glob I hg hm ?_ hdb)
  simp only [wE, wEs] at hw
  have q : liftSp X.K sp [] H Q E0 := call_lift (vs := []) (rs := []) eo .refl trivial hw fun r env' v H' q e c s a => q v H' e c s a
  have hl : (([] : List Value) ++ []).length = ps.length := G.len _ _ _ _ q
  have hb' := hb s [] I.kIn hl
  exact PySem.W.callWith_K0 I.kIn hk (wpAny_call (run_g G hr hgd I hb' .nil q))
theorem EnvOk.fresh0 {K : PySem.W.Frag} {F : Fi} {O : List Addr} {H : Hp} {σ : L2.St} {env : AEnv} (e : EnvOk K F O H σ env) {p : Addr} (h : H p = none) : F.H0 p = none := by
  cases q : F.H0 p with
  | none => rfl
  | some o =>
    by_cases hl : F.lent p
    · obtain ⟨i, hi⟩ := hl
      obtain ⟨h1, ds, h2⟩ := e.par i p hi
      obtain ⟨p', vs, g1, g2, g3, _⟩ := e.own i ds h2
      rw [h1] at g1; cases g1
      rw [h] at g3; cases g3
    · rw [e.keep p o q hl] at h; cases h

/-- a new list is handed over -/
theorem callO_lift {K : PySem.W.Frag} {F : Fi} {O : List Addr} {H0 H : Hp} {σ : L2.St} {env env0 : AEnv} {sp : ASp} {v : V} {ds : List PyData} {Q : AV → AEnv → Prop} {Qv : VK} (e0 : EnvOk K F O H0 σ env0) (e : EnvOk K F O H σ env) (c : Chg O H0 H) (hr : Res K O H0 H σ v (.o ds)) (ha : AvR K O H σ env v (.o ds))
    (hq : sp.run [.o ds] (fun r _ => match r with | .d x => Q (.d x) env | _ => False) (fun _ => False)) (k : ∀ x v' H', Q (.d x) env → EnvOk K F O H' σ env → Chg O H0 H' → Dp K (Wo H' O) v' x → Qv v' H') : liftSp K sp [v] H Qv E0 := by
  obtain ⟨p, us, rfl, n, no, hp, hd⟩ := hr
  have av := ha p rfl
  have nF := e0.fresh0 n
  refine ⟨[.o ds], p :: O, ⟨rfl, fun i x z => ?_, fun i x z => ?_, fun i x z => ?_, noM_cons (fun _ z => by cases z) (fun i kvs z => by simp at z), fun i j x y z1 z2 => ?_, fun q hq => ?_⟩, sp.mono _ _ _ _ _ (fun r as' q v' H' sh ao fr ro aa => ?_) (fun _ z => z) hq⟩
  · match i, z with
    | 0, z => cases z
    | i + 1, z => simp at z
  · match i, z with
    | 0, z =>
      cases z
      exact ⟨p, us, rfl, List.mem_cons_self, hp, hd⟩
    | i + 1, z => simp at z
  · match i, z with
    | 0, z => cases z
    | i + 1, z => simp at z
  · match i, j, z1, z2 with
    | 0, 0, _, _ => rfl
    | i + 1, _, z1, _ => simp at z1
    | 0, j + 1, _, z2 => simp at z2
  · rcases List.mem_cons.mp hq with h | h
    · rw [h]; exact ⟨_, hp⟩
    · exact e.live q h
  · have frp : ∀ a o, H a = some o → a ≠ p → H' a = some o := fun a o z ne => fr a o z fun i x z1 z2 => by
      match i, z1, z2 with
      | 0, _, z2 => cases z2; exact ne rfl
      | i + 1, z1, _ => simp at z1
    have sm : Same (Wo H (p :: O)) (Wo H' O) := fun a o z => by
      obtain ⟨m, z⟩ := wo_some z
      simp only [List.mem_cons, not_or] at m
      rw [wo_out m.2]
      exact frp a o z m.1
    match r, q, ro with
    | .d x, q, ro =>
      refine k x v' H' q ⟨e.len, fun j y h => ?_, fun j ys h => ?_, e.nob, e.inj, fun q hq => ?_, e.sub, e.new, fun a o h l => ?_, e.ownF, e.par, ?_⟩ (fun a o z m => ?_) (dp_mono (wo_sub fun z hz => List.mem_cons_of_mem _ hz) ro)
      · obtain ⟨w, h1, h2⟩ := av.dat j y h
        exact ⟨w, h1, dp_mono sm h2⟩
      · obtain ⟨a, vs, h1, h2, h3, h4⟩ := av.own j ys h
        exact ⟨a, vs, h1, h2, frp a _ h3 (fun z => no (z ▸ h2)), dps_mono sm h4⟩
      · obtain ⟨us, z⟩ := e.live q hq
        exact ⟨us, frp q _ z (fun y => no (y ▸ hq))⟩
      · exact frp a o (e.keep a o h l) (ne_of_none h nF)
      · exact e.dic.move (fun i kvs q => ⟨q, rfl⟩) (fun a us q m => ⟨frp a _ q (fun z => by rw [z, hp] at q; cases q), m⟩) fun _ z => z
      · exact frp a o (c a o z m) (ne_of_none z n)
    | .o _, q, _ => exact q.elim
    | .b _, q, _ => exact q.elim
    | .m _, q, _ => exact q.elim
theorem te_callO (C : CallOk X.prog X.w X.K X.mg X.base k x sp) (hr : Room k X.A) (hgd : X.A.guards = some []) (hg : Gl X x) (hdb : (x == ("__debug__" : Str)) = false) {e : Expr} {ea : E} (ha : PE X e (TEof X.K ea))
    (he : starEach [e] X.env = (false, eval e X.env) :: starEach [] X.env) : PE X (.Call (.Name x p) [e] [] pos) (TEof X.K (.callO x sp ea)) := by
  obtain ⟨f, fd, ps, G, hm, hk, hb⟩ := C
  refine ⟨fun pins s σ H Q I h => ?_⟩
  obtain ⟨F, O, env, eo, hw⟩ := h
  refine wpAny_Call_Name_kw (ld_glob I hg hm ?_ hdb)
  refine PySem.W.callWith_K (h₀ := X.base) I.ok.mod.kin hk ?_ he rfl
  have pa : PA X [e] (tCons (TEof X.K ea) tNil) := pa_cons ha pa_nil he
  refine thn (pa.run pos pins s σ H (fun vs H1 => liftSp X.K sp vs H1 Q E0) I (te_then eo hw fun r env1 v H1 q1 e1 c1 s1 a1 => ?_)) ?_
  · match r, q1, s1, a1 with
    | .o ds, q1, s1, a1 => exact callO_lift (Q := fun r env' => ∀ v' H', EnvOk X.K F O H' σ env' → Chg O H H' → Res X.K O H H' σ v' r → AvR X.K O H' σ env' v' r → Q v' H') eo e1 c1 s1 a1 q1 fun x v' H' q e c s => q v' H' e c s trivial
  rintro us s1 ⟨vs, H1, I1, rv, q⟩
  have hl : (us ++ []).length = ps.length := by rw [List.append_nil, ← rv.length]; exact G.len _ _ _ _ q
  have hb' := hb s1 us I1.kIn hl
  rw [List.append_nil] at hb'
  exact ⟨I1.kIn, wpAny_call (run_g G hr hgd I1 hb' rv q)⟩
/-- a call that only reads, seen from the caller -/
theorem flat_dp {K : PySem.W.Frag} {H H' : Hp} {v : V} {x : PyData} (hx : flatD x = true) (h : Dp K H v x) : Dp K H' v x := by
  cases h with
  | non => exact .non
  | bl b => exact .bl b
  | int i => exact .int i
  | str s => exact .str s
  | lst h t => cases hx
  | tup h t => cases hx
  | obj h t => cases hx
  | objM _ _ _ _ => cases hx
  | objA _ _ _ _ _ => cases hx
  | ktup h t => cases hx
theorem tups_vals {K : PySem.W.Frag} {H : Hp} : ∀ {vs : List V} {xs : List PyData} {nss : List (List Int)}, DpAll K H vs xs → tupsOf xs = some nss → vs.length = nss.length ∧ ∀ (i : Nat) v ns, vs[i]? = some v → nss[i]? = some ns → ∃ t, v = .ref t ∧ H t = some (.tup (ns.map V.int))
  | _, _, nss, .nil, e => by cases e; exact ⟨rfl, fun i v ns h => by simp at h⟩
  | _, _, nss, .cons (d := .tuple d) (ds := ds) h t, e => by
    unfold tupsOf at e
    split at e
    · rename_i ns nss' e1 e2
      cases e
      cases h with
      | tup h1 h2 =>
        have g := dps_intsOf h2 e1
        obtain ⟨l, a⟩ := tups_vals t e2
        refine ⟨by rw [List.length_cons, List.length_cons, l], fun i v ms hv hm => ?_⟩
        cases i with
        | zero => cases hv; cases hm; exact ⟨_, rfl, by rw [h1, g]⟩
        | succ i => exact a i v ms (by simpa using hv) (by simpa using hm)
    · cases e
  | _, _, nss, .cons (d := .int i) h t, e => by cases e
  | _, _, nss, .cons (d := .none) h t, e => by cases e
  | _, _, nss, .cons (d := .bool _) h t, e => by cases e
  | _, _, nss, .cons (d := .str _) h t, e => by cases e
  | _, _, nss, .cons (d := .list _) h t, e => by cases e
  | _, _, nss, .cons (d := .dict _) h t, e => by cases e
theorem dps_tups {K : PySem.W.Frag} {H : Hp} : ∀ {ys : List V} {nss : List (List Int)}, ys.length = nss.length → (∀ (i : Nat) y ns, ys[i]? = some y → nss[i]? = some ns → ∃ t, y = .ref t ∧ H t = some (.tup (ns.map V.int))) → DpAll K H ys (nss.map tupD)
  | [], [], _, _ => .nil
  | [], _ :: _, h, _ => by simp at h
  | _ :: _, [], h, _ => by simp at h
  | y :: ys, ns :: nss, h, a => by
    obtain ⟨t, rfl, ht⟩ := a 0 y ns rfl rfl
    exact .cons (.tup ht (dps_intsK ns)) (dps_tups (by simpa using h) fun i z ms h1 h2 => a (i + 1) z ms (by simpa using h1) (by simpa using h2))
theorem intsOf_eq : ∀ {xs : List PyData} {ns : List Int}, intsOf xs = some ns → xs = ns.map .int
  | [], ns, e => by cases e; rfl
  | .int i :: xs, ns, e => by
    have e : (intsOf xs).map (i :: ·) = some ns := e
    cases h : intsOf xs with
    | none => rw [h] at e; cases e
    | some ms => rw [h] at e; cases e; rw [intsOf_eq h]; rfl
  | .none :: _, _, e => by cases e
  | .bool _ :: _, _, e => by cases e
  | .str _ :: _, _, e => by cases e
  | .list _ :: _, _, e => by cases e
  | .tuple _ :: _, _, e => by cases e
  | .dict _ :: _, _, e => by cases e
theorem tupsOf_eq : ∀ {xs : List PyData} {nss : List (List Int)}, tupsOf xs = some nss → xs = nss.map tupD
  | [], nss, e => by cases e; rfl
  | .tuple ys :: xs, nss, e => by
    have e : (match intsOf ys, tupsOf xs with | some ns, some nss => some (ns :: nss) | _, _ => Option.none) = some nss := e
    cases h1 : intsOf ys with
    | none => rw [h1] at e; cases e
    | some ns =>
      cases h2 : tupsOf xs with
      | none => rw [h1, h2] at e; cases e
      | some ms =>
        rw [h1, h2] at e
        cases e
        rw [tupsOf_eq h2, intsOf_eq h1]
        rfl
  | .none :: _, _, e => by cases e
  | .bool _ :: _, _, e => by cases e
  | .str _ :: _, _, e => by cases e
  | .list _ :: _, _, e => by cases e
  | .int _ :: _, _, e => by cases e
  | .dict _ :: _, _, e => by cases e
theorem callR_lift {K : PySem.W.Frag} {F : Fi} {O : List Addr} {H0 H : Hp} {σ : L2.St} {env : AEnv} {sp : ASp} {vs : List V} {ds : List PyData} {Q : AV → AEnv → Prop} {Qv : VK} (e : EnvOk K F O H σ env) (c : Chg O H0 H) (hl : vs.length = ds.length)
    (hd : ∀ (i : Nat) (v : V) (x : PyData), vs[i]? = some v → ds[i]? = some x → RdD K O H v x) (hq : callRK sp ds env Q X0)
    (k : ∀ r env' v H', Q r env' → EnvOk K F O H' σ env' → Chg O H0 H' → Res K O H0 H' σ v r → AvR K O H' σ env' v r → Qv v H') : liftSp K sp vs H Qv E0 := by
  have ga : ∀ (i : Nat) (a : AV), (ds.map AV.d)[i]? = some a → ∃ x, ds[i]? = some x ∧ a = .d x := fun i a z => by
    rw [List.getElem?_map] at z
    cases hi : ds[i]? with
    | none => rw [hi] at z; cases z
    | some x => rw [hi] at z; cases z; exact ⟨x, rfl, rfl⟩
  refine ⟨ds.map .d, [], ⟨by rw [List.length_map]; exact hl, fun i x z => ?_, fun i xs z => ?_, fun i j z => ?_, fun i kvs z => by (obtain ⟨y, h1, h2⟩ := ga i _ z; cases h2), fun i j xs ys z => ?_, fun p hp => (List.not_mem_nil hp).elim⟩, sp.mono _ _ _ _ _ (fun r as' hq v H' sh ao fr ro aa => ?_) (fun _ z => z) hq⟩
  · obtain ⟨y, h1, h2⟩ := ga i _ z
    cases h2
    have hi : i < vs.length := by
      rw [hl]
      exact (List.getElem?_eq_some_iff.mp h1).1
    refine ⟨vs[i], List.getElem?_eq_getElem hi, ?_⟩
    have := (hd i _ _ (List.getElem?_eq_getElem hi) h1).dp
    rw [wo_nil0]
    exact this
  · obtain ⟨y, h1, h2⟩ := ga i _ z; cases h2
  · obtain ⟨y, h1, h2⟩ := ga i _ z; cases h2
  · obtain ⟨y, h1, h2⟩ := ga i _ z; cases h2
  · have sa : Same H H' := fun a o z => fr a o z fun i xs z1 => by
      obtain ⟨y, h1, h2⟩ := ga i _ z1; cases h2
    match r, hq, ro with
    | .d x, ⟨hf, q⟩, ro => exact k (.d x) env v H' q (e.grow sa) (c.trans fun a o z _ => sa a o z) (flat_dp hf ro) trivial
    | .o ys, ⟨hs, q⟩, ro =>
      obtain ⟨nss, hs⟩ := Option.isSome_iff_exists.mp hs
      obtain ⟨p, us, rfl, hn, _, hp, hd'⟩ := ro
      have eg := e.grow sa
      have no : p ∉ O := fun z => by
        obtain ⟨ws, h⟩ := e.live p z
        rw [hn] at h
        cases h
      have sm : Same (Wo H O) (Wo H' (p :: O)) := fun a o z => by
        obtain ⟨n, z⟩ := wo_some z
        have ne := ne_of_none z hn
        rw [wo_out (by simp only [List.mem_cons, not_or]; exact ⟨ne, n⟩)]
        exact sa a o z
      obtain ⟨l1, tv⟩ := tups_vals hd' hs
      have dd : DpAll K (Wo H' (p :: O)) us ys := by
        have ey : ys = nss.map tupD := tupsOf_eq hs
        rw [ey]
        refine dps_tups l1 fun i y ns a b => ?_
        obtain ⟨t, e1, ht⟩ := tv i y ns a b
        obtain ⟨_, ht⟩ := wo_some ht
        refine ⟨t, e1, ?_⟩
        rw [wo_out]
        · exact ht
        · simp only [List.mem_cons, not_or]
          refine ⟨fun z => ?_, eg.notT ht⟩
          rw [z, hp] at ht
          cases ht
      refine k (.o ys) env _ H' q eg (c.trans fun a o z _ => sa a o z) (Res.back (σ := σ) (H1 := H) ⟨p, us, rfl, hn, no, hp, dd⟩ c) ?_
      intro p' hv
      cases hv
      refine ⟨fun j x h => ?_, fun j xs h => ?_⟩
      · obtain ⟨w, h1, h2⟩ := e.dat j x h
        exact ⟨w, h1, dp_mono sm h2⟩
      · obtain ⟨a, ws, h1, h2, h3, h4⟩ := e.own j xs h
        exact ⟨a, ws, h1, h2, sa a _ h3, dps_mono sm h4⟩
    | .b _, q, _ => exact q.elim
    | .p _ _, q, _ => exact q.elim
    | .m _, q, _ => exact q.elim
theorem te_callR (C : CallOk X.prog X.w X.K X.mg X.base k x sp) (hr : Room k X.A) (hgd : X.A.guards = some []) (hg : Gl X x) (hdb : (x == ("__debug__" : Str)) = false) {e : Expr} (ha : PA X (e :: es) (TAof X.K ees))
    (he : starEach (e :: es) X.env = (false, eval e X.env) :: starEach es X.env) (hpl : (backTo pos (starEach es X.env)).any (·.1) = false) : PE X (.Call (.Name x p) (e :: es) [] pos) (TEof X.K (.callR x sp ees)) := by
  obtain ⟨f, fd, ps, G, hm, hk, hb⟩ := C
  refine ⟨fun pins s σ H Q I h => ?_⟩
  obtain ⟨F, O, env, eo, hw⟩ := h
  refine wpAny_Call_Name_kw (ld_glob I hg hm ?_ hdb)
  refine PySem.W.callWith_K (h₀ := X.base) I.ok.mod.kin hk ?_ he hpl
  refine thn (ha.run pos pins s σ H (fun vs H1 => liftSp X.K sp vs H1 Q E0) I (ta_then eo hw fun rs env1 vs H1 q1 e1 c1 s1 => ?_)) ?_
  · obtain ⟨xs, q2, l2, d2⟩ := res_rds e1 s1 q1
    exact callR_lift e1 c1 l2 d2 q2 fun r env' v H' q e c s a => q v H' e c s a
  rintro us s1 ⟨vs, H1, I1, rv, q⟩
  have hl : (us ++ []).length = ps.length := by rw [List.append_nil, ← rv.length]; exact G.len _ _ _ _ q
  have hb' := hb s1 us I1.kIn hl
  rw [List.append_nil] at hb'
  exact ⟨I1.kIn, wpAny_call (run_g G hr hgd I1 hb' rv q)⟩
/-! ### a call that is lent one list and reads others -/
section
variable {K : PySem.W.Frag} {H : Hp} {O O1 : List Addr}
theorem hide_at {a : Addr} {o : HO} (h : Wo H O1 a = some o) (hO : ∀ p ∈ O, p ∈ O1 ∨ ∃ us, H p = some (.lst us)) (no : ∀ us, o ≠ .lst us) : Wo H O a = some o := by
  obtain ⟨n1, h⟩ := wo_some h
  rw [wo_out]
  · exact h
  · intro ha
    rcases hO a ha with z | ⟨us, e⟩
    · exact n1 z
    · rw [h] at e
      cases e
      exact no _ rfl
mutual
theorem dp_hide : ∀ {v : V} {x : PyData}, Dp K (Wo H O1) v x → (∀ p ∈ O, p ∈ O1 ∨ ∃ us, H p = some (.lst us) ∧ noLen us.length x = true) → Dp K (Wo H O) v x
  | _, _, .non, _ => .non
  | _, _, .bl b, _ => .bl b
  | _, _, .int i, _ => .int i
  | _, _, .str x, _ => .str x
  | _, _, .lst (a := a) (xs := xs) (ds := ds) h t, hO => by
    refine .lst ?_ (dps_hide t fun p hp => (hO p hp).imp id fun ⟨us, e, n⟩ => ⟨us, e, by
      simp only [noLen, Bool.and_eq_true] at n
      exact n.2⟩)
    rcases h with (h | ⟨o, h⟩) | h
    · obtain ⟨n1, h⟩ := wo_some h
      refine .inl (.inl ?_)
      rw [wo_out]
      · exact h
      · intro ha
        rcases hO a ha with z | ⟨us, e, n⟩
        · exact n1 z
        · rw [h] at e
          cases e
          simp only [noLen, Bool.and_eq_true, decide_eq_true_eq] at n
          exact n.1 (dps_len t).symm
    · obtain ⟨n1, h⟩ := wo_some h
      refine .inl (.inr ⟨o, ?_⟩)
      rw [wo_out]
      · exact h
      · intro ha
        rcases hO a ha with z | ⟨us, e, _⟩
        · exact n1 z
        · rw [h] at e; cases e
    · exact .inr h
  | _, _, .tup (a := a) h t, hO => by
    refine .tup ?_ (dps_hide t fun p hp => (hO p hp).imp id fun ⟨us, e, n⟩ => ⟨us, e, by simpa only [noLen] using n⟩)
    exact hide_at h (fun p hp => (hO p hp).imp id fun ⟨us, e, _⟩ => ⟨us, e⟩) fun us z => by cases z
  | _, _, .ktup h c, _ => .ktup h c
  | _, _, .obj c h, hO => .obj c (hide_at h (fun p hp => (hO p hp).imp id fun ⟨us, e, _⟩ => ⟨us, e⟩) fun us z => by cases z)
  | _, _, .objM c n h t, hO => .objM c n (hide_at h (fun p hp => (hO p hp).imp id fun ⟨us, e, _⟩ => ⟨us, e⟩) fun us z => by cases z) (hide_at t (fun p hp => (hO p hp).imp id fun ⟨us, e, _⟩ => ⟨us, e⟩) fun us z => by cases z)
  | _, _, .objA c n h t d, hO => dp_mono (wo_sub fun p hp => (hO p hp).elim id fun ⟨us, e, n⟩ => by
      unfold objA at n
      simp only [noLen] at n
      cases n) (.objA c n h t d)
theorem dps_hide : ∀ {vs : List V} {xs : List PyData}, DpAll K (Wo H O1) vs xs → (∀ p ∈ O, p ∈ O1 ∨ ∃ us, H p = some (.lst us) ∧ noLens us.length xs = true) → DpAll K (Wo H O) vs xs
  | _, _, .nil, _ => .nil
  | _, _, .cons h t, hO => .cons (dp_hide h fun p hp => (hO p hp).imp id fun ⟨us, e, n⟩ => ⟨us, e, by
      simp only [noLens, Bool.and_eq_true] at n
      exact n.1⟩) (dps_hide t fun p hp => (hO p hp).imp id fun ⟨us, e, n⟩ => ⟨us, e, by
      simp only [noLens, Bool.and_eq_true] at n
      exact n.2⟩)
end
end
section
variable {K : PySem.W.Frag} {F : Fi} {O O1 : List Addr} {H0 H : Hp} {σ : L2.St} {env : AEnv}
theorem rdm_ok (e : EnvOk K F O H σ env) {j : Nat} (hs : ∀ a, a ∈ O1 → a ∈ O) (hb : ∀ m ys p, m ≠ j → getE env m = some (.o ys) → σ[m]? = some (some (.ref p)) → p ∉ O1) : ∀ {vs : List V} {rs : List AV} {k : List PyData → Prop}, ResAll K O H0 H σ vs rs → rdmK env j rs k →
    ∃ ds, k ds ∧ vs.length = ds.length ∧ ∀ (i : Nat) x, ds[i]? = some x → ∃ v, vs[i]? = some v ∧ Dp K (Wo H O1) v x
  | [], [], k, _, q => ⟨[], q, rfl, fun i x z => by simp at z⟩
  | v :: vs, .d x :: r, k, hr, q => by
    obtain ⟨ds, q, l, d⟩ := rdm_ok e hs hb (vs := vs) (rs := r) hr.2 q
    refine ⟨x :: ds, q, by simp [l], fun i y z => ?_⟩
    cases i with
    | zero =>
      simp at z
      subst z
      exact ⟨v, rfl, dp_mono (wo_sub hs) hr.1⟩
    | succ i => exact d i y (by simpa using z)
  | v :: vs, .b m :: r, k, hr, q => by
    unfold rdmK at q
    obtain ⟨mj, q⟩ := q
    split at q
    · rename_i ys hg
      obtain ⟨ds, q, l, d⟩ := rdm_ok e hs hb (vs := vs) (rs := r) hr.2 q
      obtain ⟨p, rfl, hsm⟩ := hr.1
      obtain ⟨p', us, e1, e2, e3, e4⟩ := e.own m ys hg
      rw [hsm] at e1
      cases e1
      refine ⟨.list ys :: ds, q, by simp [l], fun i y z => ?_⟩
      cases i with
      | zero =>
        simp at z
        subst z
        exact ⟨_, rfl, .lst (.inl (.inl (by rw [wo_out (hb m ys p mj hg hsm)]; exact e3))) (dps_mono (wo_sub hs) e4)⟩
      | succ i => exact d i y (by simpa using z)
    · exact q.elim
  | v :: vs, .o _ :: r, k, hr, q => q.elim
  | v :: vs, .p _ _ :: r, k, hr, q => q.elim
  | v :: vs, .m _ :: r, k, hr, q => q.elim
theorem callM_lift {sp : ASp} {vs : List V} {rs : List AV} {Q : AV → AEnv → Prop} {Qv : VK} (e : EnvOk K F O H σ env) (c : Chg O H0 H) (hr : ResAll K O H0 H σ vs rs) (hq : callMK sp rs env Q X0)
    (k : ∀ r env' v H', Q r env' → EnvOk K F O H' σ env' → Chg O H0 H' → Res K O H0 H' σ v r → AvR K O H' σ env' v r → Qv v H') : liftSp K sp vs H Qv E0 := by
  classical
  match rs, vs, hr, hq with
  | .b j :: rest, v0 :: vs, hr, hq =>
    unfold callMK at hq
    simp only at hq
    split at hq
    case h_2 => exact hq.elim
    rename_i l hg
    obtain ⟨p0, rfl, hs0⟩ := hr.1
    obtain ⟨p', us0, e1, e2, e3, e4⟩ := e.own j l hg
    rw [hs0] at e1
    cases e1
    let bad : Addr → Prop := fun a => ∃ m ys, m ≠ j ∧ getE env m = some (.o ys) ∧ σ[m]? = some (some (.ref a))
    let O1 : List Addr := O.filter fun a => decide (¬ bad a)
    have hO1 : ∀ a, a ∈ O1 ↔ a ∈ O ∧ ¬ bad a := fun a => by
      show a ∈ List.filter _ _ ↔ _
      rw [List.mem_filter, decide_eq_true_eq]
    have hs : ∀ a, a ∈ O1 → a ∈ O := fun a h => ((hO1 a).mp h).1
    have n0 : ¬ bad p0 := fun ⟨m, ys, mj, h1, h2⟩ => mj (e.inj m j _ _ p0 h1 hg h2 hs0)
    have p1 : p0 ∈ O1 := (hO1 p0).mpr ⟨e2, n0⟩
    obtain ⟨ds, hq, hl, hd⟩ := rdm_ok e hs (fun m ys p mj h1 h2 h3 => ((hO1 p).mp h3).2 ⟨m, ys, mj, h1, h2⟩) hr.2 hq
    have ga : ∀ (i : Nat) (a : AV), (ds.map AV.d)[i]? = some a → ∃ x, ds[i]? = some x ∧ a = .d x := fun i a z => by
      rw [List.getElem?_map] at z
      cases hi : ds[i]? with
      | none => rw [hi] at z; cases z
      | some x => rw [hi] at z; cases z; exact ⟨x, rfl, rfl⟩
    refine ⟨.o l :: ds.map .d, O1, ⟨by simp [hl], fun i x z => ?_, fun i xs z => ?_, fun i m z => ?_, fun i kvs z => ?_, fun i m xs ys z1 z2 => ?_, fun p hp => e.live p (hs p hp)⟩, sp.mono _ _ _ _ _ (fun r as' hq v H' sh ao fr ro aa => ?_) (fun _ z => z) hq⟩
    · cases i with
      | zero => simp at z
      | succ i =>
        obtain ⟨y, h1, h2⟩ := ga i _ z
        cases h2
        obtain ⟨w, h3, h4⟩ := hd i _ h1
        exact ⟨w, by simpa using h3, h4⟩
    · cases i with
      | zero =>
        simp at z
        subst z
        exact ⟨p0, us0, rfl, p1, e3, dps_mono (wo_sub hs) e4⟩
      | succ i =>
        obtain ⟨y, h1, h2⟩ := ga i _ z
        cases h2
    · cases i with
      | zero => simp at z
      | succ i =>
        obtain ⟨y, h1, h2⟩ := ga i _ z
        cases h2
    · cases i with
      | zero => simp at z
      | succ i =>
        obtain ⟨y, h1, h2⟩ := ga i _ z
        cases h2
    · cases i with
      | zero =>
        cases m with
        | zero => rfl
        | succ m =>
          obtain ⟨y, h1, h2⟩ := ga m _ z2
          cases h2
      | succ i =>
        obtain ⟨y, h1, h2⟩ := ga i _ z1
        cases h2
    · match r, as', hq, ro, ao with
      | .d x, .o l' :: as2, ⟨hn, q⟩, ro, ao =>
        have frp : ∀ a o, H a = some o → a ≠ p0 → H' a = some o := fun a o z ne => fr a o z fun i xs z1 z2 => by
          cases i with
          | zero => simp at z2; exact ne z2.symm
          | succ i =>
            obtain ⟨y, h1, h2⟩ := ga i _ z1
            cases h2
        obtain ⟨p2, us2, g1, g2, g3, g4⟩ := ao.own 0 l' rfl
        simp at g1
        subst g1
        have hid : ∀ p ∈ O, p ∈ O1 ∨ ∃ us m ys, H' p = some (.lst us) ∧ m ≠ j ∧ getE env m = some (.o ys) ∧ us.length = ys.length := fun p hp => by
          by_cases hb : bad p
          · obtain ⟨m, ys, mj, h1, h2⟩ := hb
            obtain ⟨p3, us, d1, d2, d3, d4⟩ := e.own m ys h1
            rw [h2] at d1
            cases d1
            have ne : p ≠ p0 := fun z => mj (e.inj m j _ _ p0 h1 hg (by rw [← z]; exact h2) hs0)
            exact .inr ⟨us, m, ys, frp _ _ d3 ne, mj, h1, dps_len d4⟩
          · exact .inl ((hO1 p).mpr ⟨hp, hb⟩)
        have cH : Chg O H H' := fun a o z n => frp a o z fun y => n (by rw [y]; exact e2)
        refine k (.d x) _ v H' q (e.put hg hs0 cH frp g3 (dps_hide g4 fun p hp => (hid p hp).imp id fun ⟨us, m, ys, h1, h2, h3, h4⟩ => ⟨us, h1, by rw [h4]; exact (hn m ys h3 h2).2⟩)) (c.trans cH) (dp_hide ro fun p hp => (hid p hp).imp id fun ⟨us, m, ys, h1, h2, h3, h4⟩ => ⟨us, h1, by rw [h4]; exact (hn m ys h3 h2).1⟩) trivial
      | .d _, [], hq, _, _ => exact hq.elim
      | .d _, .d _ :: _, hq, _, _ => exact hq.elim
      | .d _, .b _ :: _, hq, _, _ => exact hq.elim
      | .d _, .p _ _ :: _, hq, _, _ => exact hq.elim
      | .d _, .m _ :: _, hq, _, _ => exact hq.elim
      | .o _, _, hq, _, _ => exact hq.elim
      | .b _, _, hq, _, _ => exact hq.elim
      | .p _ _, _, hq, _, _ => exact hq.elim
      | .m _, _, hq, _, _ => exact hq.elim
  | .d _ :: _, _, _, hq => exact hq.elim
  | .o _ :: _, _, _, hq => exact hq.elim
  | .p _ _ :: _, _, _, hq => exact hq.elim
  | .m _ :: _, _, _, hq => exact hq.elim
  | [], _, _, hq => exact hq.elim
end
theorem te_callM (C : CallOk X.prog X.w X.K X.mg X.base k x sp) (hr : Room k X.A) (hgd : X.A.guards = some []) (hg : Gl X x) (hdb : (x == ("__debug__" : Str)) = false) {e : Expr} (ha : PA X (e :: es) (TAof X.K ees))
    (he : starEach (e :: es) X.env = (false, eval e X.env) :: starEach es X.env) (hpl : (backTo pos (starEach es X.env)).any (·.1) = false) : PE X (.Call (.Name x p) (e :: es) [] pos) (TEof X.K (.callM x sp ees)) := by
  obtain ⟨f, fd, ps, G, hm, hk, hb⟩ := C
  refine ⟨fun pins s σ H Q I h => ?_⟩
  obtain ⟨F, O, env, eo, hw⟩ := h
  refine wpAny_Call_Name_kw (ld_glob I hg hm ?_ hdb)
  refine PySem.W.callWith_K (h₀ := X.base) I.ok.mod.kin hk ?_ he hpl
  refine thn (ha.run pos pins s σ H (fun vs H1 => liftSp X.K sp vs H1 Q E0) I (ta_then eo hw fun rs env1 vs H1 q1 e1 c1 s1 => ?_)) ?_
  · exact callM_lift e1 c1 s1 q1 fun r env' v H' q e c s a => q v H' e c s a
  rintro us s1 ⟨vs, H1, I1, rv, q⟩
  have hl : (us ++ []).length = ps.length := by rw [List.append_nil, ← rv.length]; exact G.len _ _ _ _ q
  have hb' := hb s1 us I1.kIn hl
  rw [List.append_nil] at hb'
  exact ⟨I1.kIn, wpAny_call (run_g G hr hgd I1 hb' rv q)⟩
/-! ### keywords -/
theorem tk_nil : PK X [] (TAof X.K .nil) := ⟨fun pos pins s σ H Q I h => by
  obtain ⟨F, O, env, eo, hw⟩ := h
  exact (pk_nil (X := X)).run pos pins s σ H Q I (hw [] H eo .refl trivial)⟩
theorem tk_cons {nm : Option Str} {e : Expr} {kpos : Pos} {kws : List Keyword} {ea : E} (ha : PE X e (TEof X.K ea)) (hr : PK X kws (TAof X.K ees)) : PK X (⟨nm, e, kpos⟩ :: kws) (TAof X.K (.cons ea ees)) := ⟨fun pos pins s σ H Q I h => by
  obtain ⟨F, O, env, eo, hw⟩ := h
  refine (pk_cons ha hr).run pos pins s σ H Q I (te_then eo hw fun r1 env1 v1 H1 q1 e1 c1 s1 a1 => ta_then e1 q1 fun rs env2 vs H2 q2 e2 c2 s2 => ?_)
  exact q2 (v1 :: vs) H2 e2 (c1.trans c2) ⟨s1.chg c2, s2.back c1⟩⟩
theorem lookup_res {K : PySem.W.Frag} {O : List Addr} {H H' : Hp} {σ : L2.St} {p : Str} : ∀ {ks : List Str} {vs : List V} {rs : List AV} {us : List Value} {r : AV}, ResAll K O H H' σ vs rs → Vals vs us → (ks.zip rs).lookup p = some r →
    ∃ v u, (ks.zip vs).lookup p = some v ∧ (ks.zip us).lookup p = some u ∧ RelV v u ∧ Res K O H H' σ v r
  | [], _, _, _, _, _, _, h => by simp at h
  | _ :: _, [], [], _, _, _, _, h => by simp at h
  | k :: ks, v :: vs, r0 :: rs, _, r, hr, .cons rv hv, h => by
    simp only [List.zip_cons_cons, List.lookup_cons] at h ⊢
    cases hb : p == k with
    | true =>
      rw [hb] at h
      cases h
      exact ⟨v, _, rfl, rfl, rv, hr.1⟩
    | false =>
      rw [hb] at h
      exact lookup_res hr.2 hv h
theorem mapM_res {K : PySem.W.Frag} {O : List Addr} {H H' : Hp} {σ : L2.St} {ks : List Str} {vs : List V} {rs : List AV} {us : List Value} (hr : ResAll K O H H' σ vs rs) (hv : Vals vs us) : ∀ {ps : List Str} {as : List AV} {ws : List Value}, ps.mapM (fun p => (ks.zip rs).lookup p) = some as → ps.mapM (fun p => (ks.zip us).lookup p) = some ws →
    ∃ zs, Vals zs ws ∧ ResAll K O H H' σ zs as
  | [], as, ws, h1, h2 => by
    simp at h1 h2
    subst h1; subst h2
    exact ⟨[], .nil, trivial⟩
  | p :: ps, as, ws, h1, h2 => by
    simp only [List.mapM_cons, Option.bind_eq_bind, Option.bind_eq_some_iff] at h1 h2
    obtain ⟨a, ha, as', has, e1⟩ := h1
    obtain ⟨w, hw, ws', hws, e2⟩ := h2
    have e1 : a :: as' = as := Option.some.inj e1
    have e2 : w :: ws' = ws := Option.some.inj e2
    subst e1; subst e2
    obtain ⟨v, u, g1, g2, g3, g4⟩ := lookup_res hr hv ha
    rw [hw] at g2; cases g2
    obtain ⟨zs, z1, z2⟩ := mapM_res hr hv has hws
    exact ⟨v :: zs, .cons g3 z1, g4, z2⟩
theorem te_callK {ps ks : List Str} {kws : List Keyword} (C : CallKOk X.prog X.w X.K X.mg X.base k x sp ps ks) (hr : Room k X.A) (hgd : X.A.guards = some []) (hg : Gl X x) (hdb : (x == ("__debug__" : Str)) = false) (ha : PK X kws (TAof X.K ees)) (hlen : lenEs ees = ks.length)
    (hall : (backToKw pos (keywordEach kws X.env)).all (·.1.isSome) = true) (hks : (backToKw pos (keywordEach kws X.env)).filterMap (·.1) = ks) (hpl : ((backTo pos (starEach [] X.env)).any (·.1) || (backToKw pos (keywordEach kws X.env)).any (·.1.isNone)) = false) :
    PE X (.Call (.Name x p) [] kws pos) (TEof X.K (.callK x sp ps ks ees)) := by
  obtain ⟨f, fd, G, hm, hk, hb⟩ := C
  refine ⟨fun pins s σ H Q I h => ?_⟩
  obtain ⟨F, O, env, eo, hw⟩ := h
  refine wpAny_Call_Name_kw (ld_glob I hg hm ?_ hdb)
  refine PySem.W.callWith_KW0 (h₀ := X.base) I.ok.mod.kin hk hall ?_ hpl
  rw [hks]
  unfold wE at hw
  refine thn (ha.run pos pins s σ H (fun vs H1 => ∃ rs env1, rs.length = ks.length ∧ ResAll X.K O H H1 σ vs rs ∧ EnvOk X.K F O H1 σ env1 ∧ Chg O H H1 ∧ ∃ as, reorder ps ks rs = some as ∧ callK sp as env1 (fun r env' => ∀ v H', EnvOk X.K F O H' σ env' → Chg O H H' → Res X.K O H H' σ v r → AvR X.K O H' σ env' v r → Q v H') X0) I ?_) ?_
  · refine ta_then eo (wEs_len hw) fun rs env1 vs H1 q1 e1 c1 s1 => ?_
    obtain ⟨q0, q1⟩ := q1
    refine ⟨rs, env1, q0.trans hlen, s1, e1, c1, ?_⟩
    split at q1
    · rename_i as has
      exact ⟨as, has, q1⟩
    · exact q1.elim
  · rintro us s1 ⟨vs, H1, I1, rv, rs, env1, hl, hs, e1, c1, as, has, q⟩
    obtain ⟨ws, hws, hbt⟩ := hb s1 us I1.kIn (by rw [← rv.length, resAll_len hs]; exact hl)
    obtain ⟨zs, hz, hzr⟩ := mapM_res hs rv has hws
    have q2 : liftSp X.K sp zs H1 Q E0 := call_lift e1 c1 hzr q fun r env' v H' q e c s a => q v H' e c s a
    exact ⟨I1.kIn, wpAny_call (run_g G hr hgd I1 hbt hz q2)⟩
end
section
variable {X : Cx} {F : Fi} {p pos : Pos} {es : List Expr} {ees : Es}
/-! ### built-ins -/
def biName : BI → Str
  | .len => "len" | .abs => "abs" | .max2 => "max" | .min2 => "min" | .int => "int" | .sum => "sum" | .any => "any" | .all => "all" | .min1 => "min" | .max1 => "max"
  | .list => "list" | .tuple => "tuple" | .sorted => "sorted" | .repr => "repr" | .bool => "bool"
theorem ints_vals {K : PySem.W.Frag} {H : Hp} : ∀ {vs : List V} {xs : List PyData} {ns : List Int}, DpAll K H vs xs → intsOf xs = some ns → vs = ns.map V.int
  | _, _, ns, .nil, e => by cases e; rfl
  | _, _, ns, .cons (d := .int i) h t, e => by
    cases h
    simp only [intsOf, Option.map_eq_some_iff] at e
    obtain ⟨ms, e1, rfl⟩ := e
    rw [ints_vals t e1]
    rfl
  | _, _, ns, .cons (d := .none) h t, e => by cases e
  | _, _, ns, .cons (d := .bool _) h t, e => by cases e
  | _, _, ns, .cons (d := .str _) h t, e => by cases e
  | _, _, ns, .cons (d := .list _) h t, e => by cases e
  | _, _, ns, .cons (d := .tuple _) h t, e => by cases e
  | _, _, ns, .cons (d := .dict _) h t, e => by cases e
theorem bools_vals {K : PySem.W.Frag} {H : Hp} : ∀ {vs : List V} {xs : List PyData} {ns : List Bool}, DpAll K H vs xs → boolsOf xs = some ns → vs = ns.map V.bl
  | _, _, ns, .nil, e => by cases e; rfl
  | _, _, ns, .cons (d := .bool i) h t, e => by
    cases h
    simp only [boolsOf, Option.map_eq_some_iff] at e
    obtain ⟨ms, e1, rfl⟩ := e
    rw [bools_vals t e1]
    rfl
  | _, _, ns, .cons (d := .none) h t, e => by cases e
  | _, _, ns, .cons (d := .int _) h t, e => by cases e
  | _, _, ns, .cons (d := .str _) h t, e => by cases e
  | _, _, ns, .cons (d := .list _) h t, e => by cases e
  | _, _, ns, .cons (d := .tuple _) h t, e => by cases e
  | _, _, ns, .cons (d := .dict _) h t, e => by cases e
theorem dps_ints {K : PySem.W.Frag} {H : Hp} : ∀ ns : List Int, DpAll K H (ns.map V.int) (ns.map PyData.int)
  | [] => .nil
  | n :: ns => .cons (.int n) (dps_ints ns)
/-- repr of data -/
def rRepr (K : PySem.W.Frag) : List V → Hp → VK → Prop := fun vs H Q => ∃ v x, vs = [v] ∧ Dp K H v x ∧ okR x = true ∧ (shX x).length ≤ sizeLine ∧ x.depth ≤ 64 ∧ Q (.str (shX x)) H
theorem cr_repr (hgd : X.A.guards = some []) (hu : X.A.units + 70 < cLine) : CallR X (.builtin "repr") (rRepr X.K) := by
  intro pins s σ H vs us Q I r h
  obtain ⟨v, x, rfl, hd, h1, h3, h4, q⟩ := h
  obtain ⟨u, rfl, ru⟩ := r.one
  exact repr_X I hd ru h1 h3 hgd (by omega) fun h' u tk hk => ⟨.str _, H, I.kept hk, ⟨_, rfl⟩, q⟩
/-- from data to a built-in's wish by values -/
def BiImp (K : PySem.W.Frag) (f : BI) (r : List V → Hp → VK → Prop) : Prop := ∀ (F : Fi) (O : List Addr) (H0 H : Hp) (σ : L2.St) (env : AEnv) (vs : List V) (xs : List PyData) (Q' : AV → Prop) (Q : VK), EnvOk K F O H σ env → Chg O H0 H → vs.length = xs.length →
  (∀ (i : Nat) (v : V) (x : PyData), vs[i]? = some v → xs[i]? = some x → RdD K O H v x) → biK f xs Q' → (∀ r v H', Q' r → EnvOk K F O H' σ env → Chg O H0 H' → Res K O H0 H' σ v r → AvR K O H' σ env v r → Q v H') → r vs H Q
theorem bi_arg {K : PySem.W.Frag} {f : BI} {r : List V → Hp → VK → Prop} (imp : BiImp K f r) {σ : L2.St} {H : Hp} {Q : VK} (h : TEof K (.bi f ees) σ H Q) : tCB r (TAof K ees) σ H Q := by
  obtain ⟨F, O, env, eo, hw⟩ := h
  refine ta_then eo hw fun rs env1 vs H1 q1 e1 c1 s1 => ?_
  obtain ⟨xs, q, hl, hx⟩ := res_rds e1 s1 q1
  exact imp F O H H1 σ env1 vs xs _ Q e1 c1 hl hx q fun r v H' q e c s a => q v H' e c s a
theorem one_arg {K : PySem.W.Frag} {O : List Addr} {H : Hp} {vs : List V} {x : PyData} (hl : vs.length = [x].length) (h : ∀ (i : Nat) (v : V) (y : PyData), vs[i]? = some v → [x][i]? = some y → RdD K O H v y) : ∃ v, vs = [v] ∧ RdD K O H v x := by
  match vs, hl with
  | [v], _ => exact ⟨v, rfl, h 0 v x rfl rfl⟩
theorem two_arg {K : PySem.W.Frag} {O : List Addr} {H : Hp} {vs : List V} {x x2 : PyData} (hl : vs.length = [x, x2].length) (h : ∀ (i : Nat) (v : V) (y : PyData), vs[i]? = some v → [x, x2][i]? = some y → RdD K O H v y) : ∃ v v2, vs = [v, v2] ∧ RdD K O H v x ∧ RdD K O H v2 x2 := by
  match vs, hl with
  | [v, v2], _ => exact ⟨v, v2, rfl, h 0 v x rfl rfl, h 1 v2 x2 rfl rfl⟩
theorem imp_len {K : PySem.W.Frag} : BiImp K .len (fun xs H Q => ∃ x n, xs = [x] ∧ LenV K x H n ∧ Q (.int n) H) := by
  intro F O H0 H σ env vs xs Q' Q eo hc hl hx hq k
  unfold biK at hq
  split at hq <;> try (exact hq.elim) <;> try contradiction
  all_goals first
    | contradiction
    | (obtain ⟨v, rfl, p, us, rfl, s1, d1⟩ := one_arg hl hx
       first
         | exact ⟨_, _, rfl, .inl ⟨us, s1, rfl⟩, by rw [dps_len d1]; exact k _ _ _ hq eo hc (.int _) trivial⟩
         | exact ⟨_, _, rfl, .inr ⟨us, sq_t wo_all (tk_sq s1), rfl⟩, by rw [dps_len d1]; exact k _ _ _ hq eo hc (.int _) trivial⟩)
    | exact hq.elim
theorem imp_abs {K : PySem.W.Frag} : BiImp K .abs (fun xs H Q => ∃ i, xs = [.int i] ∧ Q (.int (if i < 0 then -i else i)) H) := by
  intro F O H0 H σ env vs xs Q' Q eo hc hl hx hq k
  match xs, hq with
  | [.int i], hq =>
    obtain ⟨v, rfl, h⟩ := one_arg hl hx
    cases h.int
    exact ⟨i, rfl, k _ _ _ hq eo hc (.int _) trivial⟩
theorem imp_max2 {K : PySem.W.Frag} : BiImp K .max2 (fun xs H Q => ∃ i j, xs = [.int i, .int j] ∧ Q (.int (if j > i then j else i)) H) := by
  intro F O H0 H σ env vs xs Q' Q eo hc hl hx hq k
  match xs, hq with
  | [.int i, .int j], hq =>
    obtain ⟨v, v2, rfl, h, h2⟩ := two_arg hl hx
    cases h.int; cases h2.int
    exact ⟨i, j, rfl, k _ _ _ hq eo hc (.int _) trivial⟩
theorem imp_min2 {K : PySem.W.Frag} : BiImp K .min2 (fun xs H Q => ∃ i j, xs = [.int i, .int j] ∧ Q (.int (if j < i then j else i)) H) := by
  intro F O H0 H σ env vs xs Q' Q eo hc hl hx hq k
  match xs, hq with
  | [.int i, .int j], hq =>
    obtain ⟨v, v2, rfl, h, h2⟩ := two_arg hl hx
    cases h.int; cases h2.int
    exact ⟨i, j, rfl, k _ _ _ hq eo hc (.int _) trivial⟩
theorem imp_int {K : PySem.W.Frag} : BiImp K .int (fun xs H Q => (∃ i, xs = [.int i] ∧ Q (.int i) H) ∨ ∃ k, xs = [.bl k] ∧ Q (.int (if k then 1 else 0)) H) := by
  intro F O H0 H σ env vs xs Q' Q eo hc hl hx hq k
  match xs, hq with
  | [.int i], hq =>
    obtain ⟨v, rfl, h⟩ := one_arg hl hx
    cases h.int
    exact .inl ⟨i, rfl, k _ _ _ hq eo hc (.int _) trivial⟩
  | [.bool i], hq =>
    obtain ⟨v, rfl, h⟩ := one_arg hl hx
    cases h.bool
    exact .inr ⟨i, rfl, k _ _ _ hq eo hc (.int _) trivial⟩
theorem imp_list {K : PySem.W.Frag} : BiImp K .list (fun xs H Q => ∃ p ys, xs = [.ref p] ∧ (SqL K H p ys ∨ SqT K H p ys) ∧ ∀ l, H l = none → Q (.ref l) (upd H l (.lst ys))) := by
  intro F O H0 H σ env vs xs Q' Q eo hc hl hx hq k
  match xs, hq with
  | [.list a], hq =>
    obtain ⟨v, rfl, p, us, rfl, s1, d1⟩ := one_arg hl hx
    exact ⟨p, us, rfl, .inl s1, fun l hl => k _ _ _ hq (eo.grow (same_new hl)) (hc.trans (chg_new hl)) (res_new eo hl hc d1) (avR_new eo hl)⟩
  | [.tuple a], hq =>
    obtain ⟨v, rfl, p, us, rfl, s1, d1⟩ := one_arg hl hx
    exact ⟨p, us, rfl, .inr (sq_t wo_all (tk_sq s1)), fun l hl => k _ _ _ hq (eo.grow (same_new hl)) (hc.trans (chg_new hl)) (res_new eo hl hc d1) (avR_new eo hl)⟩
theorem imp_sum {K : PySem.W.Frag} : BiImp K .sum (rSum K) := by
  intro F O H0 H σ env vs xs Q' Q eo hc hl hx hq k
  match xs, hq with
  | [.list a], hq =>
    obtain ⟨v, rfl, p, us, rfl, s1, d1⟩ := one_arg hl hx
    simp only [biK] at hq
    split at hq
    · rename_i ns hn
      exact ⟨p, ns, rfl, by rw [← ints_vals d1 hn]; exact s1, k _ _ _ hq eo hc (.int _) trivial⟩
    · exact hq.elim
theorem imp_any {K : PySem.W.Frag} : BiImp K .any (rAny K) := by
  intro F O H0 H σ env vs xs Q' Q eo hc hl hx hq k
  match xs, hq with
  | [.list a], hq =>
    obtain ⟨v, rfl, p, us, rfl, s1, d1⟩ := one_arg hl hx
    simp only [biK] at hq
    split at hq
    · rename_i ns hn
      exact ⟨p, ns, rfl, by rw [← bools_vals d1 hn]; exact s1, k _ _ _ hq eo hc (.bl _) trivial⟩
    · exact hq.elim
theorem imp_all {K : PySem.W.Frag} : BiImp K .all (rAll K) := by
  intro F O H0 H σ env vs xs Q' Q eo hc hl hx hq k
  match xs, hq with
  | [.list a], hq =>
    obtain ⟨v, rfl, p, us, rfl, s1, d1⟩ := one_arg hl hx
    simp only [biK] at hq
    split at hq
    · rename_i ns hn
      exact ⟨p, ns, rfl, by rw [← bools_vals d1 hn]; exact s1, k _ _ _ hq eo hc (.bl _) trivial⟩
    · exact hq.elim
theorem imp_min1 {K : PySem.W.Frag} : BiImp K .min1 (rMin K) := by
  intro F O H0 H σ env vs xs Q' Q eo hc hl hx hq k
  match xs, hq with
  | [.list a], hq =>
    obtain ⟨v, rfl, p, us, rfl, s1, d1⟩ := one_arg hl hx
    simp only [biK] at hq
    split at hq
    · rename_i ns hn
      exact ⟨p, ns, rfl, by rw [← ints_vals d1 hn]; exact s1, hq.1, fun m h1 h2 => k _ _ _ (hq.2 m h1 h2) eo hc (.int _) trivial⟩
    · exact hq.elim
theorem imp_max1 {K : PySem.W.Frag} : BiImp K .max1 (rMax K) := by
  intro F O H0 H σ env vs xs Q' Q eo hc hl hx hq k
  match xs, hq with
  | [.list a], hq =>
    obtain ⟨v, rfl, p, us, rfl, s1, d1⟩ := one_arg hl hx
    simp only [biK] at hq
    split at hq
    · rename_i ns hn
      exact ⟨p, ns, rfl, by rw [← ints_vals d1 hn]; exact s1, hq.1, fun m h1 h2 => k _ _ _ (hq.2 m h1 h2) eo hc (.int _) trivial⟩
    · exact hq.elim
/-- a place's numbers, by the heap -/
def numsAt (H : Hp) (v : V) : List Int := match v with
  | .ref a => match H a with
    | some (.tup vs) => vs.map fun x => match x with | .int i => i | _ => 0
    | _ => []
  | _ => []
theorem numsAt_of {H : Hp} {t : Addr} {ns : List Int} (h : H t = some (.tup (ns.map V.int))) : numsAt H (.ref t) = ns := by
  unfold numsAt
  simp only [h, List.map_map]
  exact List.map_id' ns
theorem imp_sorted {K : PySem.W.Frag} : BiImp K .sorted (fun xs H Q => rSortedI K xs H Q ∨ SG.rSortTs K xs H Q) := by
  intro F O H0 H σ env vs xs Q' Q eo hc hl hx hq k
  match xs, hq with
  | [.list a], hq =>
    obtain ⟨v, rfl, p, us, rfl, s1, d1⟩ := one_arg hl hx
    have hq : sortK a Q' := hq
    unfold sortK at hq
    split at hq
    · rename_i ns hn
      exact .inl ⟨p, ns, rfl, by rw [← ints_vals d1 hn]; exact s1, fun ns' z h1 h2 hz => k _ _ _ (hq ns' h1 h2) (eo.grow (same_new hz)) (hc.trans (chg_new hz)) (res_new eo hz hc (dps_ints ns')) (avR_new eo hz)⟩
    · split at hq
      · rename_i nss hn
        obtain ⟨hne, hq⟩ := hq
        obtain ⟨l1, a1⟩ := tups_vals d1 hn
        have m1 : us.map (numsAt H) = nss := by
          apply List.ext_getElem?
          intro i
          rw [List.getElem?_map]
          cases h1 : us[i]? with
          | none => rw [List.getElem?_eq_none (by have := List.getElem?_eq_none_iff.mp h1; omega)]; rfl
          | some v =>
            have hi : i < nss.length := by rw [← l1]; exact (List.getElem?_eq_some_iff.mp h1).1
            obtain ⟨t, rfl, ht⟩ := a1 i v nss[i] h1 (List.getElem?_eq_getElem hi)
            rw [List.getElem?_eq_getElem hi, Option.map_some, numsAt_of (wo_some ht).2]
        have each : ∀ v ∈ us, ∃ t, v = .ref t ∧ numsAt H v ∈ nss ∧ Wo H O t = some (.tup ((numsAt H v).map V.int)) := fun v hv => by
          obtain ⟨i, hi, rfl⟩ := List.mem_iff_getElem.mp hv
          have hi2 : i < nss.length := by rw [← l1]; exact hi
          obtain ⟨t, e, ht⟩ := a1 i us[i] nss[i] (List.getElem?_eq_getElem hi) (List.getElem?_eq_getElem hi2)
          have hn : numsAt H us[i] = nss[i] := by rw [e]; exact numsAt_of (wo_some ht).2
          exact ⟨t, e, by rw [hn]; exact List.getElem_mem hi2, by rw [hn]; exact ht⟩
        refine .inr ⟨p, us, numsAt H, rfl, s1, fun x hx => ?_, fun ys z h1 h2 hz => ?_⟩
        · obtain ⟨t, e, h3, h4⟩ := each x hx
          exact ⟨hne _ h3, t, e, (wo_some h4).2⟩
        · have hp : (ys.map (numsAt H)).Perm nss := by rw [← m1]; exact h2.map _
          refine k _ _ _ (hq _ hp (SrtO.srtd_map (f := numsAt H) h1)) (eo.grow (same_new hz)) (hc.trans (chg_new hz)) (res_new eo hz hc (dps_tups (by simp) fun i y ns hy hn => ?_)) (avR_new eo hz)
          rw [List.getElem?_map, hy] at hn
          cases hn
          obtain ⟨t, e, _, h4⟩ := each y (h2.mem_iff.mp (List.mem_of_getElem? hy))
          exact ⟨t, e, h4⟩
      · exact hq.elim
theorem imp_repr {K : PySem.W.Frag} : BiImp K .repr (rRepr K) := by
  intro F O H0 H σ env vs xs Q' Q eo hc hl hx hq k
  match xs, hq with
  | [x], hq =>
    obtain ⟨v, rfl, h⟩ := one_arg hl hx
    obtain ⟨⟨h1, h3, h4⟩, hq⟩ := hq
    exact ⟨v, x, rfl, h.dp, h1, h3, h4, k _ _ _ hq eo hc (.str _) trivial⟩
theorem imp_tuple {K : PySem.W.Frag} : BiImp K .tuple (fun xs H Q => ∃ p ys, xs = [.ref p] ∧ ((SqL K H p ys ∧ ∀ l, H l = none → Q (.ref l) (upd H l (.tup ys))) ∨ (SqT K H p ys ∧ Q (.ref p) H))) := by
  intro F O H0 H σ env vs xs Q' Q eo hc hl hx hq k
  match xs, hq with
  | [.list a], hq =>
    obtain ⟨v, rfl, p, us, rfl, s1, d1⟩ := one_arg hl hx
    exact ⟨p, us, rfl, .inl ⟨s1, fun l hl => k _ _ _ hq (eo.grow (same_new hl)) (hc.trans (chg_new hl)) (dp_tup (eo.notO hl) hl d1) trivial⟩⟩
  | [.tuple a], hq =>
    obtain ⟨v, rfl, p, us, rfl, s1, d1⟩ := one_arg hl hx
    exact ⟨p, us, rfl, .inr ⟨sq_t wo_all (tk_sq s1), k _ _ _ hq eo hc (.tup s1 d1) trivial⟩⟩
/-- every built-in -/
theorem te_bi {e : Expr} (f : BI) (hf : f ≠ .bool) (hc : X.calm = true) (hgd : X.A.guards = some []) (hu : X.A.units + 70 < cLine) (hg : Gl X (biName f)) (hm : X.mg (biName f) = none) (ha : PA X (e :: es) (TAof X.K ees)) (he : starEach (e :: es) X.env = (false, eval e X.env) :: starEach es X.env)
    (hpl : (backTo pos (starEach es X.env)).any (·.1) = false) : PE X (.Call (.Name (biName f) p) (e :: es) [] pos) (TEof X.K (.bi f ees)) := by
  cases f with
  | len => exact pe_weak (pe_callB call_len hg hm (by decide +kernel) ha (by decide +kernel) (by decide +kernel) he hpl) fun σ H Q h => bi_arg imp_len h
  | abs => exact pe_weak (pe_callB call_abs hg hm (by decide +kernel) ha (by decide +kernel) (by decide +kernel) he hpl) fun σ H Q h => bi_arg imp_abs h
  | max2 => exact pe_weak (pe_callB (call_max2 hc) hg hm (by decide +kernel) ha (by decide +kernel) (by decide +kernel) he hpl) fun σ H Q h => bi_arg imp_max2 h
  | min2 => exact pe_weak (pe_callB (call_min2 hc) hg hm (by decide +kernel) ha (by decide +kernel) (by decide +kernel) he hpl) fun σ H Q h => bi_arg imp_min2 h
  | int => exact pe_weak (pe_callTy call_int1 hg hm (by decide +kernel) ha (by decide +kernel) (by decide +kernel) he hpl) fun σ H Q h => bi_arg imp_int h
  | sum => exact pe_weak (pe_callB (cr_sum hc) hg hm (by decide +kernel) ha (by decide +kernel) (by decide +kernel) he hpl) fun σ H Q h => bi_arg imp_sum h
  | any => exact pe_weak (pe_callB (cr_any hc) hg hm (by decide +kernel) ha (by decide +kernel) (by decide +kernel) he hpl) fun σ H Q h => bi_arg imp_any h
  | all => exact pe_weak (pe_callB (cr_all hc) hg hm (by decide +kernel) ha (by decide +kernel) (by decide +kernel) he hpl) fun σ H Q h => bi_arg imp_all h
  | min1 => exact pe_weak (pe_callB (cr_min hc) hg hm (by decide +kernel) ha (by decide +kernel) (by decide +kernel) he hpl) fun σ H Q h => bi_arg imp_min1 h
  | max1 => exact pe_weak (pe_callB (cr_max hc) hg hm (by decide +kernel) ha (by decide +kernel) (by decide +kernel) he hpl) fun σ H Q h => bi_arg imp_max1 h
  | list => exact pe_weak (pe_callTy call_list_of hg hm (by decide +kernel) ha (by decide +kernel) (by decide +kernel) he hpl) fun σ H Q h => bi_arg imp_list h
  | tuple => exact pe_weak (pe_callTy call_tuple_of hg hm (by decide +kernel) ha (by decide +kernel) (by decide +kernel) he hpl) fun σ H Q h => bi_arg imp_tuple h
  | sorted => exact pe_weak (pe_callB (cr_sortedI.or SG.cr_sortTs) hg hm (by decide +kernel) ha (by decide +kernel) (by decide +kernel) he hpl) fun σ H Q h => bi_arg imp_sorted h
  | repr => exact pe_weak (pe_callB (cr_repr hgd hu) hg hm (by decide +kernel) ha (by decide +kernel) (by decide +kernel) he hpl) fun σ H Q h => bi_arg imp_repr h
  | bool => exact absurd rfl hf
/-! ### isinstance -/
def pyTy : PyData → String
  | .none => "NoneType" | .bool _ => "bool" | .int _ => "int" | .str _ => "str" | .list _ => "list" | .tuple _ => "tuple" | .dict _ => "dict"
def tyS (s : String) (t : Ty) : Bool := s == tyName t || (s == "bool" && t == .int)
theorem kitS : ∀ s ∈ ["NoneType", "bool", "int", "str", "list", "tuple"], ∀ t ∈ [Ty.int, .bool, .str, .list, .tuple], kitB s (tyName t) = some (tyS s t) := by decide +kernel
theorem kit_all (x : PyData) (t : Ty) (hx : ∀ k, x ≠ .dict k) : kitB (pyTy x) (tyName t) = some (isTy x [t]) := by
  have h1 : pyTy x ∈ ["NoneType", "bool", "int", "str", "list", "tuple"] := by
    cases x <;> first | (simp [pyTy]; done) | exact absurd rfl (hx _)
  have h2 : t ∈ [Ty.int, .bool, .str, .list, .tuple] := by cases t <;> simp
  rw [kitS _ h1 _ h2]
  congr 1
  cases x <;> cases t <;> first | rfl | exact absurd rfl (hx _)
theorem tyX_of {K : PySem.W.Frag} {H : Hp} {v : V} {x : PyData} (h : Dp K H v x) (hn : ∀ k, x ≠ .dict k) : TyX K H v (.type (pyTy x)) := by
  cases h with
  | obj _ _ => exact absurd rfl (hn _)
  | objM _ _ _ _ => exact absurd rfl (hn _)
  | objA _ _ _ _ _ => exact absurd rfl (hn _)
  | non => exact .base .non
  | bl b => exact .base (.bl b)
  | int i => exact .base (.int i)
  | str s => exact .base (.str s)
  | lst h _ =>
    rcases h with (h | ⟨o, h⟩) | ⟨o, its, n, h1, h2, _⟩
    · exact .base (.lst h)
    · exact .base (.frz h)
    · exact .kList h1 h2
  | tup h _ => exact .base (.tup h)
  | ktup _ _ => exact absurd rfl (hn _)
/-- isinstance(e, c) of an exception object -/
def rIsO (K : PySem.W.Frag) : List V → Hp → VK → Prop := fun xs H Q => ∃ (a : Addr) (c : V) (D : Addr) (u : Value) (b : Bool), xs = [.ref a, c] ∧ ClsV c u ∧ ExcC K D ∧ ((H a = some (_root_.PT.ExW (.ref D) a) ∨ ∃ t, H a = some (_root_.PT.ExT (.ref D) a t)) ∨ ∃ dx fs, H a = some (_root_.XO.ExV (.ref D) (some dx) a) ∧ H dx = some (.xd fs)) ∧ PySem.W.kitOne K (.ref D) u = some b ∧ Q (.bl b) H
theorem call_isO {X : Cx} : CallR X (.builtin "isinstance") (rIsO X.K) := by
  intro pins s σ H xs us Q I r h
  obtain ⟨a, c, D, u, b, rfl, k, C, ha, e, q⟩ := h
  obtain ⟨u1, u2, rfl, r1, r2⟩ := vals2 r
  have e2 := k.eq r2
  subst e2
  cases r1
  rcases ha with ha | ⟨dx, fs, ha, hdx⟩
  case inr =>
    obtain ⟨⟨oe, ho, hz, vs, hd⟩, _, _⟩ := I.hok a _ ha
    have hx : ObjOk X.prog X.w H s.heap dx (.xd fs) := I.hok dx _ hdx
    obtain ⟨mA, hns, hr⟩ := hx
    obtain ⟨od, hod, hl⟩ := lookIn_ns hns
    have J : PySem.W.InstAt s.heap a oe D (some od) := ⟨ho, hz.1, by unfold PySem.W.notCls; rw [hd] <;> rfl, by rw [hz.2]; exact hod⟩
    have hcl : (PySem.W.clsIn X.K D).isSome = true := by
      have h := C.hd
      unfold PySem.W.hasDictIn at h
      cases z : PySem.W.clsIn X.K D with
      | none => rw [z] at h; cases h
      | some _ => rfl
    exact PySem.W.kia_one (PySem.W.kitx_exc hcl C.hg C.hk C.hs C.ha C.hn C.ht C.hm) I.kIn J e (fun z => nomatch z) fun tk => ⟨.bl b, H, I.tok tk, rfl, q⟩
  obtain ⟨oe, ho, hz, vs, hd⟩ : ∃ oe : Obj, s.heap.get? a = some oe ∧ Zc (.ref D) none oe ∧ ∃ vs, oe.data = .fields vs := by
    rcases ha with ha | ⟨t, ha⟩
    · obtain ⟨z, _, _⟩ := I.hok a _ ha
      exact z
    · obtain ⟨z, _, _⟩ := I.hok a _ ha
      exact ⟨_, z, ⟨rfl, rfl⟩, _, rfl⟩
  have J : PySem.W.InstAt s.heap a oe D none := by
    obtain ⟨oc, od, oda, osl⟩ := oe
    obtain ⟨h1, h2⟩ := hz
    dsimp only at h1 h2 hd
    subst h1 h2 hd
    exact ⟨ho, rfl, rfl, trivial⟩
  exact PySem.W.kia_one (PySem.W.handS_kitx_exc C.hg C.hk C.hs C.hd C.ha C.hn C.ht C.hm) I.kIn J e (fun z => nomatch z) fun tk => ⟨.bl b, H, I.tok tk, rfl, q⟩
theorem call_isB {X : Cx} : CallR X (.builtin "isinstance") (fun xs H Q => rIsi X.K xs H Q ∨ rIsO X.K xs H Q) := by
  intro pins s σ H xs us Q I r h
  rcases h with h | h
  · exact call_isi pins s σ H xs us Q I r h
  · exact call_isO pins s σ H xs us Q I r h
theorem inst_rd {K : PySem.W.Frag} {O : List Addr} {H : Hp} {v : V} {x : PyData} {t : Ty} {Q : VK} (hx : RdD K O H v x) (q : Q (.bl (isTy x [t])) H) : rIsi K [v, .ty (tyName t)] H Q ∨ rIsO K [v, .ty (tyName t)] H Q := by
  have hd := hx.dp
  by_cases hn : ∀ k, x ≠ .dict k
  · exact .inl ⟨v, _, _, _, _, rfl, .ty _, tyX_of hd hn, kit_ty (kit_all x t hn), q⟩
  · cases hd with
    | obj c h => exact .inr ⟨_, _, _, _, _, rfl, .ty _, c.ex, .inl (.inl h), c.ty t, q⟩
    | objM c n h t' => exact .inr ⟨_, _, _, _, _, rfl, .ty _, c.ex, .inl (.inr ⟨_, h⟩), c.ty t, q⟩
    | objA c n h t' _ => exact .inr ⟨_, _, _, _, _, rfl, .ty _, c.ex, .inr ⟨_, _, h, t'⟩, c.ty t, q⟩
    | ktup h c =>
      obtain ⟨o, c1, c2⟩ := c
      exact .inl ⟨_, _, _, _, _, rfl, .ty _, .kTuple c1 c2, kit_ty (kit_all (.tuple []) t (fun k z => by cases z)), by cases t <;> exact q⟩
    | _ => exact absurd (fun k z => by cases z) hn
theorem te_inst {a c : Expr} {ea : E} {t : Ty} (hg : Gl X "isinstance") (hm : X.mg "isinstance" = none) (ha : PE X a (TEof X.K ea)) (hc : PE X c (tC (.ty (tyName t)))) (he : starEach [a, c] X.env = (false, eval a X.env) :: starEach [c] X.env) (he2 : starEach [c] X.env = [(false, eval c X.env)])
    (hpl : (backTo pos (starEach [c] X.env)).any (·.1) = false) : PE X (.Call (.Name "isinstance" p) [a, c] [] pos) (TEof X.K (.inst ea [t])) :=
  pe_weak (pe_callB call_isB hg hm (by decide +kernel) (pa_cons ha (pa_cons hc pa_nil he2) he) (by decide +kernel) (by decide +kernel) he hpl) fun σ H Q ⟨F, O, env, eo, hw⟩ => te_then eo hw fun r1 env1 v1 H1 q1 e1 c1 s1 a1 => by
    obtain ⟨x, q, hx⟩ := res_rd e1 s1 q1
    exact inst_rd hx (q _ _ e1 c1 (.bl _) trivial)
structure InstOk (K : PySem.W.Frag) (mg : Str → Option Value) (c : Str) (ts : List (Str × Bool)) : Prop where
  g : mg c = some (.ref (He.ga K c))
  n : PySem.W.kitOne K (.type "NoneType") (.ref (He.ga K c)) = some false
  t : ∀ p ∈ ts, PySem.W.kitOne K (.ref (He.ga K p.1)) (.ref (He.ga K c)) = some p.2
theorem look_mem {c : Str} {b : Bool} : ∀ {ts : List (Str × Bool)}, ts.lookup c = some b → (c, b) ∈ ts
  | [], h => by cases h
  | (k, v) :: r, h => by
    rw [List.lookup_cons] at h
    split at h
    · rename_i e
      cases h
      rw [beq_iff_eq.mp e]
      exact List.mem_cons_self
    · exact List.mem_cons_of_mem _ (look_mem h)
theorem insC_rd {K : PySem.W.Frag} {mg : Str → Option Value} {O : List Addr} {H : Hp} {v : V} {x : PyData} {c : Str} {ts : List (Str × Bool)} {Q : VK} (I : InstOk K mg c ts) (hx : RdD K O H v x) (q : insK x ts fun b => Q (.bl b) H) : rIsi K [v, .ref (He.ga K c)] H Q ∨ rIsO K [v, .ref (He.ga K c)] H Q := by
  have hd := hx.dp
  unfold insK at q
  split at q
  · exact .inl ⟨v, _, _, _, _, rfl, .own _, tyX_of hd (fun k z => by cases z), I.n, q⟩
  · rename_i c'
    split at q
    · rename_i b hb
      generalize e : PyData.dict [(.none, .str c')] = y at hd
      cases hd with
      | obj oc h =>
        unfold objD at e
        cases e
        exact .inr ⟨_, _, _, _, _, rfl, .own _, oc.ex, .inl (.inl h), I.t _ (look_mem hb), q⟩
      | objM oc n h t =>
        unfold objM at e
        cases e
      | objA oc n h t d =>
        unfold objA at e
        cases e
      | ktup h k =>
        unfold kD at e
        cases e
      | _ => cases e
    · exact q.elim
  · rename_i c' r'
    split at q
    · rename_i b hb
      generalize e : PyData.dict [(.none, .tuple (.str c' :: r'))] = y at hd
      cases hd with
      | obj oc h =>
        unfold objD at e
        cases e
      | objM oc n h t =>
        unfold objM at e
        cases e
        exact .inr ⟨_, _, _, _, _, rfl, .own _, oc.ex, .inl (.inr ⟨_, h⟩), I.t _ (look_mem hb), q⟩
      | objA oc n h t d =>
        unfold objA at e
        cases e
        exact .inr ⟨_, _, _, _, _, rfl, .own _, oc.ex, .inr ⟨_, _, h, t⟩, I.t _ (look_mem hb), q⟩
      | ktup h k =>
        unfold kD at e
        cases e
      | _ => cases e
    · exact q.elim
  · exact q.elim
theorem te_instC {a : Expr} {ea : E} {c : Str} {ts : List (Str × Bool)} {pc : Pos} (hg : Gl X "isinstance") (hm : X.mg "isinstance" = none) (I : InstOk X.K X.mg c ts) (hgc : Gl X c) (hdc : (c == ("__debug__" : Str)) = false) (ha : PE X a (TEof X.K ea)) (he : starEach [a, .Name c pc] X.env = (false, eval a X.env) :: starEach [.Name c pc] X.env)
    (hpl : (backTo pos (starEach [.Name c pc] X.env)).any (·.1) = false) : PE X (.Call (.Name "isinstance" p) [a, .Name c pc] [] pos) (TEof X.K (.instC ea c ts)) :=
  pe_weak (pe_callB call_isB hg hm (by decide +kernel) (pa_cons ha (pa_cons (pe_glob hgc I.g (show RelV (V.ref (He.ga X.K c)) (Value.ref (He.ga X.K c)) from rfl) hdc) pa_nil rfl) he) (by decide +kernel) (by decide +kernel) he hpl) fun σ H Q ⟨F, O, env, eo, hw⟩ => te_then eo hw fun r1 env1 v1 H1 q1 e1 c1 s1 a1 => by
    obtain ⟨x, q, hx⟩ := res_rd e1 s1 q1
    exact insC_rd I hx (insK_mono (fun b q => q _ _ e1 c1 (.bl _) trivial) q)
theorem te_tyname {x : Str} {n : String} (hg : Gl X x) (hm : X.mg x = none) (hv : bootBuiltins x = some (.type n)) (hn : x ≠ "__name__") (hd : (x == ("__debug__" : Str)) = false) : PE X (.Name x p) (tC (.ty n)) := pe_bltn hg hm hv rfl hn hd
/-! ### exception objects -/
def exTail : List Value := [.type "ValueError", .type "Exception", .type "BaseException", .type "object"]
structure ClsOk (K : PySem.W.Frag) (mg : Str → Option Value) (c : Str) : Prop where
  o : ObjC K c
  n : NamC K c
  g : mg c = some (.ref (He.ga K c))
  e : PySem.W.excIn K (He.ga K c) exTail "ValueError.__new__" = true
  k : PySem.W.keepIn K (.ref (He.ga K c)) = true
theorem te_mkE {c s : Str} {j : Nat} {p2 : Pos} (C : ClsOk X.K X.mg c) (hg : Gl X c) (hd : (c == ("__debug__" : Str)) = false) : PE X (.Call (.Name c p) [.Constant (.str s) j p2] [] pos) (TEof X.K (.mkE c s)) :=
  pe_weak (_root_.PT.pe_exT PySem.F.excBase_ValueError C.e C.g C.k hg pe_str rfl hd) fun σ H Q ⟨F, O, env, eo, hw⟩ => fun a t ha ht nat => by
    have hat : upd H t (.tup [.str s]) a = none := by rw [upd_ne nat]; exact ha
    have e1 := eo.grow (same_new (o := .tup [.str s]) ht)
    have e2 := e1.grow (same_new (o := _root_.PT.ExT (.ref (He.ga X.K c)) a t) hat)
    refine hw (.ref a) _ e2 ((chg_new ht).trans (chg_new hat)) (show Dp X.K (Wo (upd (upd H t (.tup [.str s])) a (_root_.PT.ExT (.ref (He.ga X.K c)) a t)) O) (.ref a) (objM c s) from .objM C.o C.n (by rw [wo_out (eo.notO ha), upd_same]) ?_) trivial
    rw [wo_out (eo.notO ht), upd_ne (Ne.symm nat), upd_same]
def namB (K : PySem.W.Frag) (c : Str) : Bool :=
  decide (PySem.W.findIn K (.ref (He.ga K c)) "__repr__" = some (some (.builtin "BaseException.__repr__"))) &&
  decide (PySem.W.subIn K (.ref (He.ga K c)) (.type "BaseException") = some true) &&
  (match PySem.W.clsIn K (He.ga K c) with | some cd => decide (excReprHead cd.name.toString = c) | none => false)
theorem nam_of {K : PySem.W.Frag} {c : Str} (b : namB K c = true) : NamC K c := by
  unfold namB at b
  simp only [Bool.and_eq_true, decide_eq_true_eq] at b
  obtain ⟨⟨b1, b2⟩, b3⟩ := b
  refine ⟨b1, b2, ?_⟩
  split at b3
  · exact ⟨_, by assumption, of_decide_eq_true b3⟩
  · cases b3
/-- by one look at the head -/
def objB (K : PySem.W.Frag) (c : Str) : Bool :=
  decide (PySem.W.findIn K (.ref (He.ga K c)) "__getattribute__" = some (some (.builtin "BaseException.__getattribute__"))) &&
  decide (PySem.W.findIn K (.ref (He.ga K c)) "__getattr__" = some none) &&
  decide (PySem.W.subIn K (.ref (He.ga K c)) (.type "BaseException") = some true) &&
  PySem.W.hasDictIn K (He.ga K c) &&
  decide (PySem.W.findIn K (.ref (He.ga K c)) "__class__" = some (some (.builtin "object.__class__"))) &&
  decide (PySem.W.specialIn K (.builtin "object.__class__") "__get__" = some (some (.builtin "getset_descriptor.__get__"))) &&
  decide (PySem.W.takesIn K (.builtin "object.__class__") = some true) &&
  decide (PySem.W.mroIn K (He.ga K c) (.type "object") = some true) &&
  ([Ty.int, .bool, .str, .list, .tuple].all fun t => decide (PySem.W.kitOne K (.ref (He.ga K c)) (.type (tyName t)) = some false)) &&
  decide (PySem.W.kitOne K (.ref (He.ga K c)) (.type "ValueError") = some true)
theorem objC_of {K : PySem.W.Frag} {c : Str} (b : objB K c = true) : ObjC K c := by
  unfold objB at b
  simp only [Bool.and_eq_true, decide_eq_true_eq, List.all_cons, List.all_nil] at b
  obtain ⟨⟨⟨⟨⟨⟨⟨⟨⟨b1, b2⟩, b3⟩, b4⟩, b5⟩, b6⟩, b7⟩, b8⟩, t1, t2, t3, t4, t5, _⟩, b9⟩ := b
  exact ⟨⟨b1, b2, b3, b4, b5, b6, b7, b8⟩, fun t => by cases t <;> assumption, b9⟩
def clsB (K : PySem.W.Frag) (c : Str) : Bool := objB K c && PySem.W.excIn K (He.ga K c) exTail "ValueError.__new__" && PySem.W.keepIn K (.ref (He.ga K c)) && namB K c
theorem cls_of {K : PySem.W.Frag} {h : Heap} {mg : Str → Option Value} {c : Str} (X : K.In h) (G : h.Ns mainGlobals mg) (f : (He.Fa.glo c).ok K = true) (b : clsB K c = true) : ClsOk K mg c := by
  unfold clsB at b
  simp only [Bool.and_eq_true] at b
  obtain ⟨⟨⟨b1, b9⟩, b10⟩, b11⟩ := b
  exact ⟨objC_of b1, nam_of b11, He.glo_ok X G f, b9, b10⟩
end
end PF

set_option maxRecDepth 100000
set_option maxHeartbeats 4000000
/-! no slot comes to own a list within an expression -/
namespace PF
open PySem L2
def Shp (env env' : AEnv) : Prop := ((∀ i ds, getE env' i = some (.o ds) → ∃ ds', getE env i = some (.o ds')) ∧ ∀ i kvs, getE env' i = some (.m kvs) → getE env i = some (.m kvs)) ∧ env'.length = env.length
theorem Shp.refl {env : AEnv} : Shp env env := ⟨⟨fun i ds h => ⟨ds, h⟩, fun _ _ h => h⟩, rfl⟩
theorem Shp.trans {a b c : AEnv} (h : Shp a b) (k : Shp b c) : Shp a c := ⟨⟨fun i ds e => by
  obtain ⟨ds', e'⟩ := k.1.1 i ds e
  exact h.1.1 i ds' e', fun i kvs e => h.1.2 i kvs (k.1.2 i kvs e)⟩, k.2.trans h.2⟩
theorem Shp.set {env : AEnv} {i : Nat} {v : Option AV} (h : ∀ ds, v ≠ some (.o ds)) (h2 : ∀ kvs, v ≠ some (.m kvs)) : Shp env (setE env i v) := by
  refine ⟨⟨fun j ds e => ?_, fun j ds e => ?_⟩, setE_len _ _ _⟩
  · rw [get_set] at e
    split at e
    · split at e
      · exact (h ds e).elim
      · cases e
    · exact ⟨ds, e⟩
  · rw [get_set] at e
    split at e
    · split at e
      · exact (h2 ds e).elim
      · cases e
    · exact e
theorem Shp.put {env : AEnv} {i : Nat} {ds ds' : List PyData} (h : getE env i = some (.o ds)) : Shp env (setE env i (some (.o ds'))) := by
  refine ⟨⟨fun j xs e => ?_, fun j xs e => ?_⟩, setE_len _ _ _⟩
  · rw [get_set] at e
    split at e
    · rename_i hj
      subst hj
      exact ⟨ds, h⟩
    · exact ⟨xs, e⟩
  · rw [get_set] at e
    split at e
    · split at e <;> cases e
    · exact e
theorem shp_wipe {env : AEnv} : ∀ own : List (Str × Nat), Shp env (wipeE env own)
  | [] => .refl
  | p :: r => (shp_wipe r).trans (.set (fun ds z => by cases z) (fun ds z => by cases z))
theorem shp_many : ∀ {is : List Nat} {xs : List PyData} {env : AEnv}, Shp env (setMany is xs env)
  | [], _, _ => .refl
  | _ :: _, [], _ => .refl
  | i :: is, x :: xs, env => by
    show Shp env (setMany is xs (setE env i (some (.d x))))
    exact Shp.trans (Shp.set (fun ds z => by cases z) (fun ds z => by cases z)) shp_many
theorem tgK_shp {tg : Tg} {x : PyData} {env : AEnv} {k : AEnv → Prop} (q : tgK tg x env k) : tgK tg x env fun e => Shp env e ∧ k e := by
  unfold tgK at q ⊢
  split at q
  · exact ⟨.set (fun ds z => by cases z) (fun ds z => by cases z), q⟩
  · split at q
    · exact ⟨q.1, shp_many, q.2⟩
    · exact ⟨q.1, shp_many, q.2⟩
    · exact q
theorem shp_back {old env : AEnv} (h : Shp old env) : ∀ own : List (Str × Nat), Shp old (backE old env own)
  | [] => h
  | p :: r => by
    have ih := shp_back h r
    refine ⟨⟨fun j ds e0 => ?_, fun j ds e0 => ?_⟩, ?_⟩
    · have e : getE (setE (backE old env r) p.2 (getE old p.2)) j = some (.o ds) := e0
      clear e0
      rw [get_set] at e
      split at e
      · rename_i hj
        subst hj
        split at e
        · exact ⟨ds, e⟩
        · cases e
      · exact ih.1.1 j ds e
    · have e : getE (setE (backE old env r) p.2 (getE old p.2)) j = some (.m ds) := e0
      clear e0
      rw [get_set] at e
      split at e
      · rename_i hj
        subst hj
        split at e
        · exact e
        · cases e
      · exact ih.1.2 j ds e
    · show (setE (backE old env r) p.2 (getE old p.2)).length = _
      rw [setE_len]
      exact ih.2
theorem shp_backL : ∀ {rs as : List AV} {env env0 : AEnv}, (∀ j, j ∈ lent rs → ∃ ds, getE env0 j = some (.o ds)) → Shp env0 env → Shp env0 (backL env rs as)
  | [], as, env, _, _, h => by cases as <;> exact h
  | .d _ :: rs, [], env, _, _, h => h
  | .o _ :: rs, [], env, _, _, h => h
  | .b _ :: rs, [], env, _, _, h => h
  | .p _ _ :: rs, [], env, _, _, h => h
  | .m _ :: rs, [], env, _, _, h => h
  | .m _ :: rs, a :: as, env, env0, hl, h => shp_backL (rs := rs) (as := as) (env := env) hl h
  | .b j :: rs, .m _ :: as, env, env0, hl, h => shp_backL (rs := rs) (as := as) (env := env) (fun j' hj => hl j' (List.mem_cons_of_mem _ hj)) h
  | .p _ _ :: rs, a :: as, env, env0, hl, h => shp_backL (rs := rs) (as := as) (env := env) hl h
  | .b j :: rs, .p _ _ :: as, env, env0, hl, h => shp_backL (rs := rs) (as := as) (env := env) (fun j' hj => hl j' (List.mem_cons_of_mem _ hj)) h
  | .d _ :: rs, a :: as, env, env0, hl, h => shp_backL (rs := rs) (as := as) (env := env) hl h
  | .o _ :: rs, a :: as, env, env0, hl, h => shp_backL (rs := rs) (as := as) (env := env) hl h
  | .b j :: rs, .d x :: as, env, env0, hl, h => shp_backL (rs := rs) (as := as) (env := env) (fun j' hj => hl j' (List.mem_cons_of_mem _ hj)) h
  | .b j :: rs, .b x :: as, env, env0, hl, h => shp_backL (rs := rs) (as := as) (env := env) (fun j' hj => hl j' (List.mem_cons_of_mem _ hj)) h
  | .b j :: rs, .o ds :: as, env, env0, hl, h => by
    refine shp_backL (rs := rs) (as := as) (env := setE env j (some (.o ds))) (fun j' hj => hl j' (List.mem_cons_of_mem _ hj)) ⟨⟨fun i xs e => ?_, fun i xs e => ?_⟩, by rw [setE_len]; exact h.2⟩
    · rw [get_set] at e
      split at e
      · rename_i hi
        subst hi
        exact hl _ List.mem_cons_self
      · exact h.1.1 i xs e
    · rw [get_set] at e
      split at e
      · split at e <;> cases e
      · exact h.1.2 i xs e
theorem lend_has {env : AEnv} : ∀ {rs : List AV} {k : List AV → Prop}, lendK env rs k → ∀ j, j ∈ lent rs → ∃ ds, getE env j = some (.o ds)
  | [], _, _, j, hj => by cases hj
  | .d _ :: rs, k, q, j, hj => lend_has (rs := rs) q j hj
  | .o _ :: rs, k, q, j, hj => lend_has (rs := rs) q j hj
  | .p _ _ :: rs, k, q, j, hj => lend_has (rs := rs) q j hj
  | .m _ :: rs, k, q, j, hj => q.elim
  | .b m :: rs, k, q, j, hj => by
    unfold lendK at q
    split at q
    · rename_i ds hg
      rcases List.mem_cons.mp hj with z | z
      · exact ⟨ds, by rw [z]; exact hg⟩
      · exact lend_has q j z
    · exact q.elim
theorem callK_shp {sp : ASp} {vs : List AV} {env : AEnv} {Q : AV → AEnv → Prop} {X : XQ} (q : callK sp vs env Q X) : callK sp vs env (fun r e => Shp env e ∧ Q r e) X := by
  have hl := lend_has q.2
  refine ⟨q.1, lendK_mono (fun as q => sp.mono _ _ _ _ _ (fun r as' z => ⟨shp_backL hl .refl, z⟩) (fun _ z => z) q) q.2⟩
theorem shp_lent {env : AEnv} {j : Nat} {l l' : List PyData} (hg : getE env j = some (.o l)) : Shp env (setE env j (some (.o l'))) :=
  shp_backL (rs := [.b j]) (as := [.o l']) (env := env) (env0 := env) (fun m hm => by
    simp [lent] at hm
    subst hm
    exact ⟨_, hg⟩) .refl
theorem callMK_shp {sp : ASp} {vs : List AV} {env : AEnv} {Q : AV → AEnv → Prop} {X : XQ} (q : callMK sp vs env Q X) : callMK sp vs env (fun r e => Shp env e ∧ Q r e) X := by
  unfold callMK at q ⊢
  split at q
  · split at q
    · rename_i l hg
      refine rdmK_mono (fun ds q => sp.mono _ _ _ _ _ (fun r as' z => ?_) (fun _ z => z) q) q
      split at z
      · exact ⟨z.1, shp_lent hg, z.2⟩
      · exact z
    · exact q
  · exact q
theorem compW_shp {cond : Option Unit} {ec ee : AEnv → (AV → AEnv → Prop) → Prop} {tg : Tg} {own : List (Str × Nat)} (mc : ∀ env Q Q', (∀ r e, Q r e → Q' r e) → ec env Q → ec env Q') (me : ∀ env Q Q', (∀ r e, Q r e → Q' r e) → ee env Q → ee env Q')
    (hc : ∀ env Q, ec env Q → ec env fun r e => Shp env e ∧ Q r e) (he : ∀ env Q, ee env Q → ee env fun r e => Shp env e ∧ Q r e) :
    ∀ {items : List PyData} {env0 env : AEnv} {acc : List PyData} {Q : List PyData → AEnv → Prop}, Shp env0 env → compW cond ec ee tg own items env acc Q → compW cond ec ee tg own items env acc fun r e => Shp env0 e ∧ Q r e
  | [], _, _, _, _, h, q => ⟨h, q⟩
  | x :: xs, env0, env, acc, Q, h, q => by
    refine tgK_mono (fun env1 q => ?_) (tgK_shp q)
    obtain ⟨s1, q⟩ := q
    have s1 : Shp env0 env1 := (h.trans (shp_wipe own)).trans s1
    cases cond with
    | none => exact me _ _ _ (fun v e3 q => dataK_mono (fun y z => compW_shp mc me hc he (s1.trans q.1) z) q.2) (he _ _ q)
    | some u =>
      refine mc _ _ _ (fun c e2 q => truthK_mono (fun b z => ?_) q.2) (hc _ _ q)
      have s2 := s1.trans q.1
      cases b with
      | true =>
        rw [if_pos rfl] at z ⊢
        exact me _ _ _ (fun v e3 q => dataK_mono (fun y z => compW_shp mc me hc he (s2.trans q.1) z) q.2) (he _ _ z)
      | false =>
        rw [if_neg Bool.false_ne_true] at z ⊢
        exact compW_shp mc me hc he s2 z
mutual
theorem wE_shp : ∀ (e : E) {env : AEnv} {Q : AV → AEnv → Prop} {X : XQ}, wE e env Q X → wE e env (fun r e' => Shp env e' ∧ Q r e') X
  | .var i, env, Q, X, q => by
    unfold wE at q ⊢
    split at q <;> first | exact ⟨.refl, q⟩ | exact q
  | .int _, _, _, _, q => ⟨.refl, q⟩
  | .bool _, _, _, _, q => ⟨.refl, q⟩
  | .none, _, _, _, q => ⟨.refl, q⟩
  | .str _, _, _, _, q => ⟨.refl, q⟩
  | .glob _ _, _, _, _, q => ⟨.refl, q⟩
  | .bin op a b, _, _, _, q => wE_mono a (fun _ _ q => wE_mono b (fun _ _ z => rdK_mono (fun _ y => rdK_mono (fun _ y => binK_mono (fun _ y => ⟨q.1.trans z.1, y⟩) y) y) z.2) (wE_shp b q.2)) (wE_shp a q)
  | .neg a, _, _, _, q => wE_mono a (fun _ _ q => by
      obtain ⟨s, q⟩ := q
      split at q
      · exact ⟨s, q⟩
      · exact q) (wE_shp a q)
  | .rep a n, _, _, _, q => wE_mono a (fun _ _ q => wE_mono n (fun _ _ z => by
      obtain ⟨s, z⟩ := z
      split at z
      · exact ⟨z.1, q.1.trans s, z.2⟩
      · exact z) (wE_shp n q.2)) (wE_shp a q)
  | .not a, _, _, _, q => wE_mono a (fun _ _ q => truthK_mono (fun _ y => ⟨q.1, y⟩) q.2) (wE_shp a q)
  | .and a b, _, _, _, q => wE_mono a (fun _ _ q => truthK_mono (fun _ y => ite_mono (fun y => wE_mono b (fun _ _ z => ⟨q.1.trans z.1, z.2⟩) (wE_shp b y)) (fun y => ⟨q.1, y⟩) y) q.2) (wE_shp a q)
  | .or a b, _, _, _, q => wE_mono a (fun _ _ q => truthK_mono (fun _ y => ite_mono (fun y => ⟨q.1, y⟩) (fun y => wE_mono b (fun _ _ z => ⟨q.1.trans z.1, z.2⟩) (wE_shp b y)) y) q.2) (wE_shp a q)
  | .cmp op a b, _, _, _, q => wE_mono a (fun _ _ q => wE_mono b (fun _ _ z => rdK_mono (fun _ y => rdK_mono (fun _ y => cmpK_mono (fun _ y => ⟨q.1.trans z.1, y⟩) y) y) z.2) (wE_shp b q.2)) (wE_shp a q)
  | .chain o1 o2 a b c, _, _, _, q => wE_mono a (fun _ _ q => wE_mono b (fun _ _ z => rdK_mono (fun _ y => rdK_mono (fun _ y => cmpK_mono (fun _ y => ite_mono (fun y => wE_mono c (fun _ _ u => rdK_mono (fun _ y => rdK_mono (fun _ y => cmpK_mono (fun _ y => ⟨(q.1.trans z.1).trans u.1, y⟩) y) y) u.2) (wE_shp c y)) (fun y => ⟨q.1.trans z.1, y⟩) y) y) y) z.2) (wE_shp b q.2)) (wE_shp a q)
  | .ife c a b, _, _, _, q => wE_mono c (fun _ _ q => truthK_mono (fun _ y => ite_mono (fun y => wE_mono a (fun _ _ z => ⟨q.1.trans z.1, z.2⟩) (wE_shp a y)) (fun y => wE_mono b (fun _ _ z => ⟨q.1.trans z.1, z.2⟩) (wE_shp b y)) y) q.2) (wE_shp c q)
  | .tup es, _, _, _, q => wEs_mono es (fun _ _ q => datasK_mono (fun _ y => ⟨q.1, y⟩) q.2) (wEs_shp es q)
  | .lst es, _, _, _, q => wEs_mono es (fun _ _ q => datasK_mono (fun _ y => ⟨q.1, y⟩) q.2) (wEs_shp es q)
  | .ix a i, _, _, _, q => wE_mono a (fun _ _ q => wE_mono i (fun _ _ z => rdK_mono (fun _ y => rdK_mono (fun _ y => ixK_mono (fun _ y => ⟨q.1.trans z.1, y⟩) y) y) z.2) (wE_shp i q.2)) (wE_shp a q)
  | .slL a lo, _, _, _, q => wE_mono a (fun _ _ q => wE_mono lo (fun _ _ z => by
      obtain ⟨s, z⟩ := z
      split at z
      · exact rdK_mono (fun _ y => slK_mono (fun _ y => ⟨q.1.trans s, y⟩) y) z
      · exact z) (wE_shp lo q.2)) (wE_shp a q)
  | .slU a lo, _, _, _, q => wE_mono a (fun _ _ q => wE_mono lo (fun _ _ z => by
      obtain ⟨s, z⟩ := z
      split at z
      · exact rdK_mono (fun _ y => slK_mono (fun _ y => ⟨q.1.trans s, y⟩) y) z
      · exact z) (wE_shp lo q.2)) (wE_shp a q)
  | .slLU a lo hi, _, _, _, q => wE_mono a (fun _ _ q => wE_mono lo (fun _ _ z => by
      obtain ⟨s, z⟩ := z
      split at z
      · refine wE_mono hi (fun _ _ y => ?_) (wE_shp hi z)
        obtain ⟨s2, y⟩ := y
        split at y
        · exact rdK_mono (fun _ y => slK_mono (fun _ y => ⟨(q.1.trans s).trans s2, y⟩) y) y
        · exact y
      · exact z) (wE_shp lo q.2)) (wE_shp a q)
  | .slRev a, _, _, _, q => wE_mono a (fun _ _ q => rdK_mono (fun _ y => by
      split at y
      · exact ⟨q.1, y⟩
      · exact y) q.2) (wE_shp a q)
  | .call _ sp es, _, _, _, q => wEs_mono es (fun _ _ q => callK_mono (fun _ _ z => ⟨q.1.trans z.1, z.2⟩) (callK_shp q.2)) (wEs_shp es q)
  | .callK _ sp ps ks es, _, _, _, q => wEs_mono es (fun _ _ q => by
      obtain ⟨s, q⟩ := q
      split at q
      · exact callK_mono (fun _ _ z => ⟨s.trans z.1, z.2⟩) (callK_shp q)
      · exact q) (wEs_shp es q)
  | .callO _ sp a, _, _, _, q => wE_mono a (fun v _ q => by
      obtain ⟨s, q⟩ := q
      split at q
      · exact sp.mono _ _ _ _ _ (fun r _ z => by
          split at z
          · exact ⟨s, z⟩
          · exact z) (fun _ z => z) q
      · exact q) (wE_shp a q)
  | .mkE _ _, _, _, _, q => ⟨.refl, q⟩
  | .un f a, _, _, _, q => wE_mono a (fun _ _ q => rdK_mono (fun _ y => unK_mono (fun _ y => ⟨q.1, y⟩) y) q.2) (wE_shp a q)
  | .mkA _ _ _ e, _, _, _, q => wE_mono e (fun _ _ q => dataK_mono (fun _ y => ⟨q.1, y⟩) q.2) (wE_shp e q)
  | .ixS a i, _, _, _, q => wE_mono a (fun _ _ q => wE_mono i (fun _ _ z => rdK_mono (fun _ y => rdK_mono (fun _ y => ixSK_mono (fun _ y => ⟨q.1.trans z.1, y⟩) y) y) z.2) (wE_shp i q.2)) (wE_shp a q)
  | .din neg j ke, _, _, _, q => wE_mono ke (fun _ _ q => rdK_mono (fun _ y => keyK_mono (fun _ y => by
      split at y
      · exact ⟨q.1, y⟩
      · exact y) y) q.2) (wE_shp ke q)
  | .dkeys j, _, _, _, q => by
    unfold wE at q ⊢
    split at q
    · exact ⟨.refl, q⟩
    · exact q
  | .dsort j, _, _, _, q => by
    unfold wE at q ⊢
    split at q
    · split at q
      · exact ⟨q.1, fun ks z y => ⟨.refl, q.2 ks z y⟩⟩
      · exact q
    · exact q
  | .callM _ sp es, _, _, _, q => wEs_mono es (fun _ _ q => callMK_mono (fun _ _ z => ⟨q.1.trans z.1, z.2⟩) (callMK_shp q.2)) (wEs_shp es q)
  | .callR _ sp es, _, _, _, q => wEs_mono es (fun _ _ q => rdsK_mono (fun _ y => sp.mono _ _ _ _ _ (fun r _ z => by
      split at z
      · exact ⟨z.1, q.1, z.2⟩
      · exact ⟨z.1, q.1, z.2⟩
      · exact z) (fun _ z => z) y) q.2) (wEs_shp es q)
  | .bi f es, _, _, _, q => wEs_mono es (fun _ _ q => rdsK_mono (fun _ y => biK_mono (fun _ y => ⟨q.1, y⟩) y) q.2) (wEs_shp es q)
  | .ssort a, _, _, _, q => wE_mono a (fun _ _ q => rdK_mono (fun _ y => ssK_mono (fun _ y => ⟨q.1, y⟩) y) q.2) (wE_shp a q)
  | .ixOf a b, _, _, _, q => wE_mono a (fun _ _ q => lstK_mono (fun _ u => wE_mono b (fun _ _ z => rdK_mono (fun _ y => ixOfK_mono (fun _ y => ⟨q.1.trans z.1, y⟩) y) z.2) (wE_shp b u)) q.2) (wE_shp a q)
  | .instC a c ts, _, _, _, q => wE_mono a (fun _ _ q => rdK_mono (fun _ y => insK_mono (fun _ y => ⟨q.1, y⟩) y) q.2) (wE_shp a q)
  | .inst a ts, _, _, _, q => wE_mono a (fun _ _ q => rdK_mono (fun _ y => ⟨q.1, y⟩) q.2) (wE_shp a q)
  | .lrg1 a, _, _, _, q => wE_mono a (fun _ _ q => by
      obtain ⟨s, q⟩ := q
      split at q
      · exact ⟨q.1, s, q.2⟩
      · exact q) (wE_shp a q)
  | .lrg2 a b, _, _, _, q => wE_mono a (fun _ _ q => wE_mono b (fun _ _ z => by
      obtain ⟨s, z⟩ := z
      split at z
      · exact ⟨z.1, q.1.trans s, z.2⟩
      · exact z) (wE_shp b q.2)) (wE_shp a q)
  | .lrg3 a b c, _, _, _, q => wE_mono a (fun _ _ q => wE_mono b (fun _ _ z => by
      obtain ⟨s1, z⟩ := z
      refine wE_mono c (fun _ _ y => ?_) (wE_shp c z)
      obtain ⟨s, y⟩ := y
      split at y
      · exact ⟨y.1, (q.1.trans s1).trans s, y.2⟩
      · exact y) (wE_shp b q.2)) (wE_shp a q)
  | .pop j i, env, Q, X, q => by
    unfold wE at q ⊢
    split at q
    · refine wE_mono i (fun _ _ z => ?_) (wE_shp i q)
      obtain ⟨s, z⟩ := z
      split at z
      · rename_i hg
        exact popK_mono (fun _ _ y => ⟨s.trans (.put hg), y⟩) z
      · exact z
    · exact q
  | .comp elt cond c tg it own, env, Q, X, q => by
    unfold wE at q ⊢
    refine wIt_mono it (fun items e1 q => ⟨q.2.1, ?_⟩) (wIt_shp it q)
    obtain ⟨s1, no, q⟩ := q
    refine compW_mono (ec := fun e q => wE c e q X) (ee := fun e q => wE elt e q X) (fun env Q Q' h q => wE_mono c h q) (fun env Q Q' h q => wE_mono elt h q) (fun r e z => ⟨?_, z.2⟩)
      (compW_shp (ec := fun e q => wE c e q X) (ee := fun e q => wE elt e q X) (fun env Q Q' h q => wE_mono c h q) (fun env Q Q' h q => wE_mono elt h q) (fun env Q q => wE_shp c q) (fun env Q q => wE_shp elt q) (env0 := e1) .refl q)
    exact s1.trans (shp_back z.1 own)
theorem wEs_shp : ∀ (es : Es) {env : AEnv} {Q : List AV → AEnv → Prop} {X : XQ}, wEs es env Q X → wEs es env (fun r e' => Shp env e' ∧ Q r e') X
  | .nil, _, _, _, q => ⟨.refl, q⟩
  | .cons e es, _, _, _, q => wE_mono e (fun _ _ q => wEs_mono es (fun _ _ z => ⟨q.1.trans z.1, z.2⟩) (wEs_shp es q.2)) (wE_shp e q)
theorem wIt_shp : ∀ (it : It) {env : AEnv} {Q : List PyData → AEnv → Prop} {X : XQ}, wIt it env Q X → wIt it env (fun r e' => Shp env e' ∧ Q r e') X
  | .seq e, _, _, _, q => wE_mono e (fun _ _ q => seqK_mono (fun _ y => ⟨q.1, y⟩) q.2) (wE_shp e q)
  | .range1 a, _, _, _, q => wE_mono a (fun _ _ q => by
      obtain ⟨s, q⟩ := q
      split at q
      · exact ⟨q.1, s, q.2⟩
      · exact q) (wE_shp a q)
  | .range2 a b, _, _, _, q => wE_mono a (fun _ _ q => wE_mono b (fun _ _ z => by
      obtain ⟨s, z⟩ := z
      split at z
      · exact ⟨z.1, q.1.trans s, z.2⟩
      · exact z) (wE_shp b q.2)) (wE_shp a q)
  | .range3 a b c, _, _, _, q => wE_mono a (fun _ _ q => wE_mono b (fun _ _ z => by
      obtain ⟨s1, z⟩ := z
      refine wE_mono c (fun _ _ y => ?_) (wE_shp c z)
      obtain ⟨s, y⟩ := y
      split at y
      · exact ⟨y.1, (q.1.trans s1).trans s, y.2⟩
      · exact y) (wE_shp b q.2)) (wE_shp a q)
  | .enum e, _, _, _, q => wE_mono e (fun _ _ q => lstK_mono (fun _ y => ⟨q.1, y⟩) q.2) (wE_shp e q)
  | .zip3 a b c, _, _, _, q => wE_mono a (fun _ _ q => wE_mono b (fun _ _ z => wE_mono c (fun _ _ t => seqK_mono (fun _ y => seqK_mono (fun _ y => seqK_mono (fun _ y => ⟨(q.1.trans z.1).trans t.1, y⟩) y) y) t.2) (wE_shp c z.2)) (wE_shp b q.2)) (wE_shp a q)
  | .zip a b, _, _, _, q => wE_mono a (fun _ _ q => wE_mono b (fun _ _ z => seqK_mono (fun _ y => seqK_mono (fun _ y => ⟨q.1.trans z.1, y⟩) y) z.2) (wE_shp b q.2)) (wE_shp a q)
end
end PF

set_option maxRecDepth 100000
set_option maxHeartbeats 4000000
namespace PF
open PySem PySem.Spec PyProof.Rows L2
/-! ### where one stands -/
structure Sc where
  N : List Str
  sc : Scope
  fn : Str → Bool
  R : List Nat
structure Good (Z : Sc) (k : Nat) (X : Cx) : Prop where
  hN : X.N = Z.N
  nd : Z.N.Nodup
  sc : X.env.scope = Z.sc
  kind : Z.sc.kind = .function
  fn : ∀ x, Z.fn x = true → X.fn x = true
  calm : X.calm = true
  room : Room k X.A
  guards : X.A.guards = some []
  pass : PassesOwn (model X.prog X.w) X.A X.env X.xe
/-! ### owned lists come and go -/
/-- outside of O only dicts are changed -/
def ChgD (O : List Addr) (H H' : Hp) : Prop := ∀ a o, H a = some o → a ∉ O → H' a = some o ∨ ∃ us us', o = .dT us ∧ H' a = some (.dT us')
theorem Chg.d {O : List Addr} {H H' : Hp} (c : Chg O H H') : ChgD O H H' := fun a o h n => .inl (c a o h n)
def Ext (O : List Addr) (H : Hp) (O' : List Addr) (H' : Hp) : Prop := ChgD O H H' ∧ ∀ p ∈ O', p ∈ O ∨ H p = none
theorem Ext.refl {O : List Addr} {H : Hp} : Ext O H O H := ⟨Chg.refl.d, fun _ h => .inl h⟩
theorem Ext.of {O : List Addr} {H H' : Hp} (c : Chg O H H') : Ext O H O H' := ⟨c.d, fun _ h => .inl h⟩
theorem Ext.trans {O O1 O2 : List Addr} {H H1 H2 : Hp} (a : Ext O H O1 H1) (b : Ext O1 H1 O2 H2) : Ext O H O2 H2 := by
  have nin : ∀ p o, H p = some o → p ∉ O → p ∉ O1 := fun p o h n z => by
    rcases a.2 p z with q | q
    · exact n q
    · rw [q] at h; cases h
  refine ⟨fun p o h n => ?_, fun p hp => ?_⟩
  · rcases a.1 p o h n with q | ⟨us, us', rfl, q⟩
    · exact b.1 p o q (nin p o h n)
    · rcases b.1 p _ q (nin p _ h n) with r | ⟨vs, vs', _, r⟩
      · exact .inr ⟨us, us', rfl, r⟩
      · exact .inr ⟨us, vs', rfl, r⟩
  · rcases b.2 p hp with q | q
    · exact a.2 p q
    · by_cases hO : p ∈ O
      · exact .inl hO
      · refine .inr ?_
        cases z : H p with
        | none => rfl
        | some o =>
          rcases a.1 p o z hO with r | ⟨_, _, _, r⟩
          · rw [r] at q; cases q
          · rw [r] at q; cases q
theorem Ext.wo {O O' : List Addr} {H H' : Hp} (e : Ext O H O' H') : SameD (Wo H O) (Wo H' O') := fun a o hn h => by
  obtain ⟨n, h⟩ := wo_some h
  have n' : a ∉ O' := fun z => by
    rcases e.2 a z with q | q
    · exact n q
    · rw [q] at h; cases h
  rw [wo_out n']
  rcases e.1 a o h n with q | ⟨us, _, z, _⟩
  · exact q
  · exact (hn us z).elim
theorem SameD.seq {K : PySem.W.Frag} {H H' : Hp} {a : Addr} {xs : List V} (e : SameD H H') (h : SqL K H a xs) : SqL K H' a xs := by
  rcases h with (h | ⟨o, h⟩) | h
  · exact .inl (.inl (e _ _ (fun _ z => by cases z) h))
  · exact .inl (.inr ⟨o, e _ _ (fun _ z => by cases z) h⟩)
  · exact .inr h
theorem SameD.sqt {K : PySem.W.Frag} {H H' : Hp} {a : Addr} {xs : List V} (e : SameD H H') (h : SqT K H a xs) : SqT K H' a xs := by
  rcases h with (h | ⟨o, h⟩) | h
  · exact .inl (.inl (e _ _ (fun _ z => by cases z) h))
  · exact .inl (.inr ⟨o, e _ _ (fun _ z => by cases z) h⟩)
  · exact .inr h
section
variable {K : PySem.W.Frag} {F : Fi} {O : List Addr} {H H' : Hp} {σ : L2.St} {env : AEnv}
theorem EnvOk.setD (e : EnvOk K F O H σ env) {i : Nat} {v : V} {x : PyData} (hi : ∀ p, F.par i ≠ some p) (hx : Dp K (Wo H O) v x) : EnvOk K F O H (σ.set i (some v)) (setE env i (some (.d x))) := by
  have gs : ∀ j, j ≠ i → (σ.set i (some v))[j]? = σ[j]? := fun j hj => List.getElem?_set_ne (Ne.symm hj)
  have ge : ∀ j w, getE (setE env i (some (.d x))) j = some w → (j = i ∧ i < env.length ∧ w = .d x) ∨ (j ≠ i ∧ getE env j = some w) := fun j w q => by
    rw [get_set] at q
    split at q
    · split at q
      · cases q; exact .inl ⟨by assumption, by assumption, rfl⟩
      · cases q
    · exact .inr ⟨by assumption, q⟩
  have go : ∀ j ds, getE (setE env i (some (.d x))) j = some (.o ds) → j ≠ i ∧ getE env j = some (.o ds) := fun j ds q => by
    rcases ge j _ q with ⟨_, _, z⟩ | z
    · cases z
    · exact z
  refine ⟨by rw [List.length_set, setE_len]; exact e.len, fun j y q => ?_, fun j ds q => ?_, fun j m q => ?_, fun j m ds ds' p q1 q2 r1 r2 => ?_, e.live, e.sub, e.new, e.keep, fun j ds p q r => ?_, fun j p q => ?_, ?_⟩
  · rcases ge j _ q with ⟨h1, h2, h3⟩ | ⟨h1, h2⟩
    · cases h3
      exact ⟨v, by rw [h1, List.getElem?_set_self (by rw [e.len]; exact h2)], hx⟩
    · rw [gs j h1]
      exact e.dat j y h2
  · obtain ⟨h1, h2⟩ := go j ds q
    rw [gs j h1]
    exact e.own j ds h2
  · rcases ge j _ q with ⟨h1, h2, h3⟩ | ⟨h1, h2⟩
    · cases h3
    · exact e.nob j m h2
  · obtain ⟨h1, h2⟩ := go j ds q1
    obtain ⟨h3, h4⟩ := go m ds' q2
    rw [gs j h1] at r1
    rw [gs m h3] at r2
    exact e.inj j m ds ds' p h2 h4 r1 r2
  · obtain ⟨h1, h2⟩ := go j ds q
    rw [gs j h1] at r
    exact e.ownF j ds p h2 r
  · have hj : j ≠ i := fun z => by subst z; exact hi p q
    rw [gs j hj, get_set_ne hj]
    exact e.par j p q
  · refine e.dic.move (fun j kvs q => ?_) (fun p us q n => ⟨q, n⟩) fun _ z => z
    rcases ge j _ q with ⟨_, _, z⟩ | ⟨h1, h2⟩
    · cases z
    · exact ⟨h2, gs j h1⟩
/-- a slot gets a new list -/
theorem EnvOk.setO (e : EnvOk K F O H σ env) {i : Nat} {p : Addr} {vs : List V} {ds : List PyData} (hi : ∀ a, F.par i ≠ some a) (hf : F.H0 p = none) (hO : p ∉ O) (hp : H p = some (.lst vs)) (hd : DpAll K (Wo H (p :: O)) vs ds)
    (hq : Same (Wo H O) (Wo H (p :: O)) ∨ True) (dat : ∀ j x, getE env j = some (.d x) → ∃ v, σ[j]? = some (some v) ∧ Dp K (Wo H (p :: O)) v x) (own : ∀ j xs, getE env j = some (.o xs) → ∃ a us, σ[j]? = some (some (.ref a)) ∧ a ∈ O ∧ H a = some (.lst us) ∧ DpAll K (Wo H (p :: O)) us xs) :
    EnvOk K F (p :: O) H (σ.set i (some (.ref p))) (setE env i (some (.o ds))) := by
  have gs : ∀ j, j ≠ i → (σ.set i (some (V.ref p)))[j]? = σ[j]? := fun j hj => List.getElem?_set_ne (Ne.symm hj)
  have ge : ∀ j w, getE (setE env i (some (.o ds))) j = some w → (j = i ∧ i < env.length ∧ w = .o ds) ∨ (j ≠ i ∧ getE env j = some w) := fun j w q => by
    rw [get_set] at q
    split at q
    · split at q
      · cases q; exact .inl ⟨by assumption, by assumption, rfl⟩
      · cases q
    · exact .inr ⟨by assumption, q⟩
  have si : i < env.length → (σ.set i (some (V.ref p)))[i]? = some (some (.ref p)) := fun h => List.getElem?_set_self (by rw [e.len]; exact h)
  have neq : ∀ j xs a, getE env j = some (.o xs) → σ[j]? = some (some (.ref a)) → a ≠ p := fun j xs a q r z => by
    obtain ⟨a', us, g1, g2, _⟩ := own j xs q
    rw [r] at g1; cases g1
    subst z
    exact hO g2
  refine ⟨by rw [List.length_set, setE_len]; exact e.len, fun j y q => ?_, fun j xs q => ?_, fun j m q => ?_, fun j m xs ys a q1 q2 r1 r2 => ?_, fun a ha => ?_, fun a ha => List.mem_cons_of_mem _ (e.sub a ha), fun a ha => ?_, e.keep, fun j xs a q r => ?_, fun j a q => ?_, ?_⟩
  · rcases ge j _ q with ⟨h1, h2, h3⟩ | ⟨h1, h2⟩
    · cases h3
    · rw [gs j h1]
      exact dat j y h2
  · rcases ge j _ q with ⟨h1, h2, h3⟩ | ⟨h1, h2⟩
    · cases h3
      subst h1
      exact ⟨p, vs, si h2, List.mem_cons_self, hp, hd⟩
    · rw [gs j h1]
      obtain ⟨a, us, g1, g2, g3⟩ := own j xs h2
      exact ⟨a, us, g1, List.mem_cons_of_mem _ g2, g3⟩
  · rcases ge j _ q with ⟨h1, h2, h3⟩ | ⟨h1, h2⟩
    · cases h3
    · exact e.nob j m h2
  · rcases ge j _ q1 with ⟨h1, h2, h3⟩ | ⟨h1, h2⟩ <;> rcases ge m _ q2 with ⟨g1, g2, g3⟩ | ⟨g1, g2⟩
    · rw [h1, g1]
    · rw [h1, si h2] at r1; cases r1
      rw [gs m g1] at r2
      exact absurd rfl (neq m ys _ g2 r2)
    · rw [g1, si g2] at r2; cases r2
      rw [gs j h1] at r1
      exact absurd rfl (neq j xs _ h2 r1)
    · rw [gs j h1] at r1
      rw [gs m g1] at r2
      exact e.inj j m _ _ _ h2 g2 r1 r2
  · rcases List.mem_cons.mp ha with h | h
    · subst h; exact ⟨_, hp⟩
    · exact e.live a h
  · rcases List.mem_cons.mp ha with h | h
    · subst h; exact .inr hf
    · exact e.new a h
  · rcases ge j _ q with ⟨h1, h2, h3⟩ | ⟨h1, h2⟩
    · rw [h1, si h2] at r; cases r
      exact .inr hf
    · rw [gs j h1] at r
      exact e.ownF j xs a h2 r
  · have hj : j ≠ i := fun z => by subst z; exact hi a q
    rw [gs j hj, get_set_ne hj]
    exact e.par j a q
  · refine e.dic.move (fun j kvs q => ?_) (fun a us q n => ⟨q, fun z => ?_⟩) fun _ z => z
    · rcases ge j _ q with ⟨_, _, z⟩ | ⟨h1, h2⟩
      · cases z
      · exact ⟨h2, gs j h1⟩
    · rcases List.mem_cons.mp z with z | z
      · rw [z, hp] at q; cases q
      · exact n z
/-- the same, from an answer -/
theorem EnvOk.take (e0 : EnvOk K F O H σ env) {env1 : AEnv} (e : EnvOk K F O H' σ env1) (c : Chg O H H') {i : Nat} {p : Addr} {vs : List V} {ds : List PyData} (hi : ∀ a, F.par i ≠ some a) (hf : H p = none) (hO : p ∉ O) (hp : H' p = some (.lst vs)) (hd : DpAll K (Wo H' (p :: O)) vs ds)
    (dat : ∀ j x, getE env1 j = some (.d x) → ∃ v, σ[j]? = some (some v) ∧ Dp K (Wo H' (p :: O)) v x) (own : ∀ j xs, getE env1 j = some (.o xs) → ∃ a us, σ[j]? = some (some (.ref a)) ∧ a ∈ O ∧ H' a = some (.lst us) ∧ DpAll K (Wo H' (p :: O)) us xs) :
    EnvOk K F (p :: O) H' (σ.set i (some (.ref p))) (setE env1 i (some (.o ds))) :=
  e.setO hi (e0.fresh0 hf) hO hp hd (.inr trivial) dat own
end
end PF

set_option maxRecDepth 100000
set_option maxHeartbeats 4000000
namespace PF
open PySem PySem.Spec PyProof.Rows L2
/-! ### what is walked -/
def Wk (K : PySem.W.Frag) (O : List Addr) (H : Hp) (J : L2.It) (items : List PyData) : Prop := ∀ O' H', Ext O H O' H' → (∀ p ∈ O', H' p ≠ none) → ∀ i : Nat,
  (∀ d, items[i]? = some d → J.go i H' ∧ ∀ x H'', J.yld i H' x H'' → Same H' H'' ∧ Dp K (Wo H'' O') x d) ∧ (items.length ≤ i → J.stop i H')
def TIof (K : PySem.W.Frag) (it : PF.It) : TI := fun σ H R => ∃ (F : Fi) (O : List Addr) (env : AEnv), EnvOk K F O H σ env ∧ wIt it env (fun items env' => ∀ J H', EnvOk K F O H' σ env' → Chg O H H' → Wk K O H' J items → items.length ≤ sizeLine → R J H') X0
section
variable {K : PySem.W.Frag} {O : List Addr} {H : Hp}
theorem wk_list {a : Addr} {vs : List V} {xs : List PyData} (h : SqL K (Wo H O) a vs) (d : DpAll K (Wo H O) vs xs) : Wk K O H (Itl K a) xs := by
  intro O' H' e lv i
  have hs : SqL K H' a vs := wo_all.seq (e.wo.seq h)
  have hd := dps_sameD e.wo d
  refine ⟨fun x hx => ?_, fun hi => ⟨vs, hs, by rw [dps_len d]; exact hi⟩⟩
  obtain ⟨v, hv, hp⟩ := dps_get hd hx
  refine ⟨⟨vs, v, hs, hv⟩, fun y H'' hy => ?_⟩
  obtain ⟨rfl, hy⟩ := hy
  have := hy vs hs
  rw [hv] at this; cases this
  exact ⟨Same.refl _, hp⟩
theorem wk_tup {a : Addr} {vs : List V} {xs : List PyData} (h : SqT K (Wo H O) a vs) (d : DpAll K (Wo H O) vs xs) : Wk K O H (Itt K a) xs := by
  intro O' H' e lv i
  have hs : SqT K H' a vs := sq_t wo_all (e.wo.sqt h)
  have hd := dps_sameD e.wo d
  refine ⟨fun x hx => ?_, fun hi => ⟨vs, hs, by rw [dps_len d]; exact hi⟩⟩
  obtain ⟨v, hv, hp⟩ := dps_get hd hx
  refine ⟨⟨vs, v, hs, hv⟩, fun y H'' hy => ?_⟩
  obtain ⟨rfl, hy⟩ := hy
  have := hy vs hs
  rw [hv] at this; cases this
  exact ⟨Same.refl _, hp⟩
theorem range_get {lo hi : Int} {i : Nat} {d : PyData} (h : (rangeL lo hi)[i]? = some d) : i < (hi - lo).toNat ∧ d = .int (lo + (i : Int)) := by
  unfold rangeL at h
  rw [List.getElem?_map] at h
  cases q : (List.range (hi - lo).toNat)[i]? with
  | none => rw [q] at h; cases h
  | some j =>
    rw [q] at h
    obtain ⟨h1, h2⟩ := List.getElem?_eq_some_iff.mp q
    rw [List.getElem_range] at h2
    subst h2
    cases h
    exact ⟨by simpa using h1, rfl⟩
theorem range_len (lo hi : Int) : (rangeL lo hi).length = (hi - lo).toNat := by simp [rangeL]
theorem wk_range {lo hi : Int} : Wk K O H (Itr lo (hi - lo).toNat) (rangeL lo hi) := by
  intro O' H' e lv i
  refine ⟨fun x hx => ?_, fun hi => by rw [range_len] at hi; exact hi⟩
  obtain ⟨h1, rfl⟩ := range_get hx
  refine ⟨h1, fun y H'' hy => ?_⟩
  obtain ⟨rfl, rfl⟩ := hy
  exact ⟨Same.refl _, .int _⟩
theorem enum_get : ∀ {xs : List PyData} {k i : Nat} {d : PyData}, (enumL k xs)[i]? = some d → ∃ x, xs[i]? = some x ∧ d = .tuple [.int ((k + i : Nat) : Int), x]
  | [], _, _, _, h => by simp [enumL] at h
  | x :: xs, k, 0, d, h => by
    simp [enumL] at h
    exact ⟨x, rfl, by rw [← h]; rfl⟩
  | x :: xs, k, i + 1, d, h => by
    obtain ⟨y, h1, h2⟩ := enum_get (xs := xs) (k := k + 1) (i := i) (d := d) (by simpa [enumL] using h)
    exact ⟨y, by simpa using h1, by rw [h2]; congr 4; omega⟩
theorem enum_len : ∀ (k : Nat) (xs : List PyData), (enumL k xs).length = xs.length
  | _, [] => rfl
  | k, x :: xs => by show (enumL (k + 1) xs).length + 1 = _; rw [enum_len (k + 1) xs]; rfl
theorem wk_enum {a : Addr} {vs : List V} {xs : List PyData} (h : SqL K (Wo H O) a vs) (d : DpAll K (Wo H O) vs xs) : Wk K O H (Ite K a) (enumL 0 xs) := by
  intro O' H' e lv i
  have hs : SqL K H' a vs := wo_all.seq (e.wo.seq h)
  have hd := dps_sameD e.wo d
  refine ⟨fun x hx => ?_, fun hi => ⟨vs, hs, by rw [enum_len] at hi; rw [dps_len d]; exact hi⟩⟩
  obtain ⟨y, hy, rfl⟩ := enum_get hx
  obtain ⟨v, hv, hp⟩ := dps_get hd hy
  refine ⟨⟨vs, v, hs, hv⟩, fun z H'' hz => ?_⟩
  obtain ⟨T, w, rfl, hT, rfl, hw⟩ := hz
  have := hw vs hs
  rw [hv] at this; cases this
  refine ⟨same_new hT, dp_tup (fun z => lv T z hT) hT (.cons ?_ (.cons hp .nil))⟩
  rw [Nat.zero_add]
  exact .int _
theorem zip_get : ∀ {xs ys : List PyData} {i : Nat} {d : PyData}, (zipL xs ys)[i]? = some d → ∃ x y, xs[i]? = some x ∧ ys[i]? = some y ∧ d = .tuple [x, y]
  | [], _, _, _, h => by simp [zipL] at h
  | _ :: _, [], _, _, h => by simp [zipL] at h
  | x :: xs, y :: ys, 0, d, h => by
    simp [zipL] at h
    exact ⟨x, y, rfl, rfl, h.symm⟩
  | x :: xs, y :: ys, i + 1, d, h => by
    obtain ⟨u, v, h1, h2, h3⟩ := zip_get (xs := xs) (ys := ys) (i := i) (d := d) (by simpa [zipL] using h)
    exact ⟨u, v, by simpa using h1, by simpa using h2, h3⟩
theorem zip_len : ∀ (xs ys : List PyData), (zipL xs ys).length = min xs.length ys.length
  | [], _ => by simp [zipL]
  | _ :: _, [] => by simp [zipL]
  | x :: xs, y :: ys => by simp [zipL, zip_len xs ys]
theorem sqk_wo {t : Bool} {H' : Hp} {O' : List Addr} {a : Addr} {vs : List V} (e : SameD (Wo H O) (Wo H' O')) (h : ZG.SqK t K (Wo H O) a vs) : ZG.SqK t K H' a vs := by
  cases t
  · exact wo_all.seq (e.seq (show SqL K (Wo H O) a vs from h))
  · exact sq_t wo_all (e.sqt (show SqT K (Wo H O) a vs from h))
theorem wk_zip {t1 t2 : Bool} {a b : Addr} {vs us : List V} {xs ys : List PyData} (h : ZG.SqK t1 K (Wo H O) a vs) (d : DpAll K (Wo H O) vs xs) (h2 : ZG.SqK t2 K (Wo H O) b us) (d2 : DpAll K (Wo H O) us ys) : Wk K O H (ZG.ItG K t1 t2 a b) (zipL xs ys) := by
  intro O' H' e lv i
  have hs := sqk_wo e.wo h
  have hs2 := sqk_wo e.wo h2
  have hd := dps_sameD e.wo d
  have hd2 := dps_sameD e.wo d2
  refine ⟨fun x hx => ?_, fun hi => ⟨vs, us, hs, hs2, by rw [zip_len] at hi; rw [dps_len d, dps_len d2]; omega⟩⟩
  obtain ⟨y, z, hy, hz, rfl⟩ := zip_get hx
  obtain ⟨v, hv, hp⟩ := dps_get hd hy
  obtain ⟨u, hu, hp2⟩ := dps_get hd2 hz
  refine ⟨⟨vs, us, v, u, hs, hs2, hv, hu⟩, fun q H'' hq => ?_⟩
  obtain ⟨T, w, w2, rfl, hT, rfl, hw, hw2⟩ := hq
  have := hw vs hs
  rw [hv] at this; cases this
  have := hw2 us hs2
  rw [hu] at this; cases this
  exact ⟨same_new hT, dp_tup (fun z => lv T z hT) hT (.cons hp (.cons hp2 .nil))⟩
theorem zip3_get : ∀ {xs ys zs : List PyData} {i : Nat} {d : PyData}, (zipL3 xs ys zs)[i]? = some d → ∃ x y z, xs[i]? = some x ∧ ys[i]? = some y ∧ zs[i]? = some z ∧ d = .tuple [x, y, z]
  | [], _, _, _, _, h => by simp [zipL3] at h
  | _ :: _, [], _, _, _, h => by simp [zipL3] at h
  | _ :: _, _ :: _, [], _, _, h => by simp [zipL3] at h
  | x :: xs, y :: ys, z :: zs, 0, d, h => by
    simp [zipL3] at h
    exact ⟨x, y, z, rfl, rfl, rfl, h.symm⟩
  | x :: xs, y :: ys, z :: zs, i + 1, d, h => by
    obtain ⟨u, v, w, h1, h2, h3, h4⟩ := zip3_get (xs := xs) (ys := ys) (zs := zs) (i := i) (d := d) (by simpa [zipL3] using h)
    exact ⟨u, v, w, by simpa using h1, by simpa using h2, by simpa using h3, h4⟩
theorem zip3_len : ∀ (xs ys zs : List PyData), (zipL3 xs ys zs).length = min (min xs.length ys.length) zs.length
  | [], _, _ => by simp [zipL3]
  | _ :: _, [], _ => by simp [zipL3]
  | _ :: _, _ :: _, [] => by simp [zipL3]
  | x :: xs, y :: ys, z :: zs => by
    simp only [zipL3, List.length_cons, zip3_len xs ys zs]
    omega
theorem wk_zip3 {t1 t2 t3 : Bool} {a b c : Addr} {vs us ws : List V} {xs ys zs : List PyData} (h : ZG.SqK t1 K (Wo H O) a vs) (d : DpAll K (Wo H O) vs xs) (h2 : ZG.SqK t2 K (Wo H O) b us) (d2 : DpAll K (Wo H O) us ys) (h3 : ZG.SqK t3 K (Wo H O) c ws) (d3 : DpAll K (Wo H O) ws zs) : Wk K O H (ZG.ItH K t1 t2 t3 a b c) (zipL3 xs ys zs) := by
  intro O' H' e lv i
  have hs := sqk_wo e.wo h
  have hs2 := sqk_wo e.wo h2
  have hs3 := sqk_wo e.wo h3
  have hd := dps_sameD e.wo d
  have hd2 := dps_sameD e.wo d2
  have hd3 := dps_sameD e.wo d3
  refine ⟨fun x hx => ?_, fun hi => ⟨vs, us, ws, hs, hs2, hs3, by rw [zip3_len] at hi; rw [dps_len d, dps_len d2, dps_len d3]; omega⟩⟩
  obtain ⟨y, z, z3, hy, hz, hz3, rfl⟩ := zip3_get hx
  obtain ⟨v, hv, hp⟩ := dps_get hd hy
  obtain ⟨u, hu, hp2⟩ := dps_get hd2 hz
  obtain ⟨t, ht, hp3⟩ := dps_get hd3 hz3
  refine ⟨⟨vs, us, ws, v, u, t, hs, hs2, hs3, hv, hu, ht⟩, fun q H'' hq => ?_⟩
  obtain ⟨T, w, w2, w3, rfl, hT, rfl, hw, hw2, hw3⟩ := hq
  have := hw vs hs
  rw [hv] at this; cases this
  have := hw2 us hs2
  rw [hu] at this; cases this
  have := hw3 ws hs3
  rw [ht] at this; cases this
  exact ⟨same_new hT, dp_tup (fun z => lv T z hT) hT (.cons hp (.cons hp2 (.cons hp3 .nil)))⟩
end
/-! ### an answer as a list that is walked -/
section
variable {K : PySem.W.Frag} {F : Fi} {O : List Addr} {H0 H : Hp} {σ : L2.St} {env : AEnv} {v : V} {r : AV}
theorem res_lst {k : List PyData → Prop} (h : Res K O H0 H σ v r) (q : lstK r k) : ∃ xs a vs, k xs ∧ v = .ref a ∧ SqL K (Wo H O) a vs ∧ DpAll K (Wo H O) vs xs := by
  unfold lstK at q
  split at q
  · cases (show Dp K (Wo H O) v _ from h) with
    | lst h1 h2 => exact ⟨_, _, _, q, rfl, h1, h2⟩
  · obtain ⟨p, vs, rfl, n, no, hp, hd⟩ := h
    exact ⟨_, p, vs, q, rfl, .inl (.inl (by rw [wo_out no]; exact hp)), dps_mono wo_cons hd⟩
  · exact q.elim
theorem res_seq {k : List PyData → Prop} (h : Res K O H0 H σ v r) (q : seqK r k) : ∃ xs a vs, k xs ∧ v = .ref a ∧ (SqL K (Wo H O) a vs ∨ SqT K (Wo H O) a vs) ∧ DpAll K (Wo H O) vs xs := by
  unfold seqK at q
  split at q
  · cases (show Dp K (Wo H O) v _ from h) with
    | lst h1 h2 => exact ⟨_, _, _, q, rfl, .inl h1, h2⟩
  · cases (show Dp K (Wo H O) v _ from h) with
    | tup h1 h2 => exact ⟨_, _, _, q, rfl, .inr (tk_sq h1), h2⟩
  · obtain ⟨p, vs, rfl, n, no, hp, hd⟩ := h
    exact ⟨_, p, vs, q, rfl, .inl (.inl (.inl (by rw [wo_out no]; exact hp))), dps_mono wo_cons hd⟩
  · have q9 := q
    obtain ⟨a, ns, rfl, rfl, hs, _⟩ := ktup_inv (show Dp K (Wo H O) v _ from h)
    exact ⟨_, _, _, q9, rfl, .inr (hs _), dps_intsK ns⟩
  · exact q.elim
end
section
variable {X : Cx} {F : Fi} {a b : Expr} {ea eb : E}
theorem te_ssort {p2 p3 : Pos} {pos2 : Pos} (hc : X.calm = true) (hg : Gl X "sorted") (hm : X.mg "sorted" = none) (hg2 : Gl X "set") (hm2 : X.mg "set" = none) (ha : PE X a (TEof X.K ea)) (hs : starEach [a] X.env = (false, eval a X.env) :: starEach [] X.env) :
    PE X (.Call (.Name "sorted" p2) [.Call (.Name "set" p3) [a] [] pos2] [] pos) (TEof X.K (.ssort ea)) :=
  pe_weak (pe_callB (ZS.cr_sortedN hc) hg hm (by decide +kernel) (pa_cons (pe_callTy (ZS.cr_setL hc) hg2 hm2 (by decide +kernel) (pa_cons ha pa_nil hs) (by decide +kernel) (by decide +kernel) hs rfl) pa_nil rfl) (by decide +kernel) (by decide +kernel) rfl rfl) fun σ H Q ⟨F, O, env, eo, hw⟩ => te_then eo hw fun r1 env1 v1 H1 q1 e1 c1 s1 a1 => by
    obtain ⟨x, q, hx⟩ := res_rd e1 s1 q1
    unfold ssK at q
    split at q
    · split at q
      · rename_i ds ns hn
        obtain ⟨p, us, rfl, s2, d2⟩ := hx
        obtain ⟨hl, q⟩ := q
        refine ⟨p, ns, rfl, by rw [← ints_vals d2 hn]; exact s2, by unfold scanBound; omega, fun t n ht => ?_⟩
        refine ⟨t, _, n, rfl, upd_same, fun ns' p' h1 h2 hp' => ?_⟩
        have g1 := e1.grow (same_new (o := SetO X.w t (fun j => decide (j ∈ ns)) n) ht)
        have k1 := c1.trans (chg_new (o := SetO X.w t (fun j => decide (j ∈ ns)) n) ht)
        exact q ns' h1 (fun i => by rw [h2]; exact decide_eq_true_iff) _ _ (g1.grow (same_new hp')) (k1.trans (chg_new hp')) (res_new g1 hp' k1 (dps_ints ns')) (avR_new g1 hp')
      · exact q.elim
    · exact q.elim
theorem te_ixOf {m : Str} {ap cp : Pos} (hu : X.A.units + 65 < cLine) (ha : PE X a (TEof X.K ea)) (hb : PE X b (TEof X.K eb)) (hs : starEach [b] X.env = (false, eval b X.env) :: starEach [] X.env) (hm : m = "index") (hat : attributeBase a m X.env (eval a X.env) = eval a X.env) (hl : (ap.endLine == cp.line) = true) :
    PE X (.Call (.Attribute a m ap) [b] [] cp) (TEof X.K (.ixOf ea eb)) := by
  subst hm
  refine pe_weak (pe_bm PySem.F.plainAttrs_list PySem.F.slot_list_index PySem.F.type_list_index (mt_indexD hu) ha (pa_cons hb pa_nil hs) hat (by rw [hs]; rfl) hl hs rfl) fun σ H Q ⟨F, O, env, eo, hw⟩ => ?_
  refine te_then eo hw fun r1 env1 v1 H1 q1 e1 c1 s1 a1 => ?_
  obtain ⟨ds, a', vs, q2, rfl, h2, h3⟩ := res_lst s1 q1
  refine ⟨.inl ⟨rfl, vs, wo_all.seq h2⟩, te_then e1 q2 fun r2 env2 v2 H2 q3 e2 c2 s2 a2 => ?_⟩
  obtain ⟨dy, q3, hy⟩ := res_rd e2 s2 q3
  obtain ⟨k1, k2, q3⟩ := q3
  split at q3
  · rename_i j hj
    obtain ⟨z, g1, g2, g3⟩ := findIdx_at hj
    have hl : Dp X.K H2 (.ref a') (.list ds) := dp_mono wo_all (.lst (c2.wo.seq h2) (dps_mono c2.wo h3))
    exact ⟨a', v2, dy, ds, j, z, rfl, rfl, hl.old (PyData.hasDict_of_canLay _ (SeqAt.canLay_of_shaped k1)), hy.dp.old (PyData.hasDict_of_canLay _ (SeqAt.canLay_of_shaped k2)), k1, k2, g1, g2, g3, q3 _ _ e2 (c1.trans c2) (.int _) trivial⟩
  · exact q3.elim
end
section
variable {X : Cx} {F : Fi} {tg : Expr} {ea eb : E} {p pos : Pos}
theorem pi_weak {it : Expr} {w w' : TI} (h : PI X tg it w) (hw : ∀ σ H R, w' σ H R → w σ H R) : PI X tg it w' := ⟨fun pins s σ H R I q => h.run pins s σ H R I (hw σ H R q)⟩
theorem pa_sz {es : List Expr} {t : TA} (h : PA X es t) : PA X es fun σ H Q => t σ H fun vs H1 => (∀ v ∈ vs, ∀ a xs, v = .ref a → SqL X.K H1 a xs → xs.length ≤ sizeLine) → Q vs H1 := ⟨fun pos pins s σ H Q I q => by
  refine thn (h.run pos pins s σ H _ I q) ?_
  rintro us s1 ⟨vs, H1, I1, rv, q⟩
  refine ⟨vs, H1, I1, rv, q fun v hv a xs e hs => ?_⟩
  obtain ⟨_, _, _, hz⟩ := I1.list hs
  exact hz⟩
/-- an iterator over a list, over a tuple -/
theorem it_of {pins : List (Addr × Obj)} {σ : L2.St} {H : Hp} {s : Shared} {R : L2.It → Hp → Prop} {J : L2.It} {tn : Nat → Heap → Prop} {oi : Obj} (I : Inv X pins σ H s) (T : Turn X.prog X.w X.K tg J [s.heap.objs.size] s.heap.objs.size tn) (h0 : tn 0 (s.heap.push oi)) (q : R J H) :
    PIE X pins σ tg R (.ref s.heap.objs.size) { s with heap := s.heap.push oi } := by
  have I' : Inv X pins σ H { s with heap := s.heap.push oi } := I.kept (t' := s.toks) fun b o e => Heap.get?_push_of_some _ e
  refine ⟨_, _, tn, J, H, rfl, I', T, h0, ?_, q⟩
  intro b hb
  rw [List.mem_singleton] at hb
  subst hb
  exact I.fpOk (Nat.le_refl _) (I.hok.fresh (Nat.le_refl _))
theorem ti_seq {e : Expr} (he : PE X e (TEof X.K ea)) : PI X tg e (TIof X.K (.seq ea)) := by
  refine ⟨fun pins s σ H R I h => ?_⟩
  obtain ⟨F, O, env, eo, hw⟩ := h
  have key := he.run pins s σ H (fun v H1 => ∃ xs a vs, v = .ref a ∧ (SqL X.K (Wo H1 O) a vs ∨ SqT X.K (Wo H1 O) a vs) ∧ DpAll X.K (Wo H1 O) vs xs ∧ ∀ J, Wk X.K O H1 J xs → xs.length ≤ sizeLine → R J H1) I
    (te_then eo hw fun r1 env1 v1 H1 q1 e1 c1 s1 a1 => by
      obtain ⟨xs, a, vs, q, h1, h2, h3⟩ := res_seq s1 q1
      exact ⟨xs, a, vs, h1, h2, h3, fun J hJ hl => q J H1 e1 c1 hJ hl⟩)
  refine thn key ?_
  rintro v s1 ⟨y, H1, I1, ry, xs, a, vs, rfl, hs, hd, q⟩
  cases ry
  rcases hs with hs | hs
  · obtain ⟨its, rv, pl, hz⟩ := I1.list (wo_all.seq hs)
    have hl : xs.length ≤ sizeLine := by rw [← dps_len hd]; exact hz
    refine wpAny_pyIter_list pl.isList ?_
    exact it_of I1 (turn_list a _) ⟨_, Heap.get?_push_size _ rfl, rfl, rfl⟩ (q _ (wk_list hs hd) hl)
  · obtain ⟨its, rv, pl, hz⟩ := I1.tuple (sq_t wo_all hs)
    have hl : xs.length ≤ sizeLine := by rw [← dps_len hd]; exact hz
    refine wpAny_pyIter_tuple (show s1.heap.IsTuple a its.toArray from pl) ?_
    exact it_of I1 (turn_tuple a _) ⟨_, Heap.get?_push_size _ rfl, rfl, rfl⟩ (q _ (wk_tup hs hd) hl)
theorem ti_range1 {a : Expr} (hg : Gl X "range") (hm : X.mg "range" = none) (ha : PE X a (TEof X.K ea)) (hs : starEach [a] X.env = [(false, eval a X.env)]) : PI X tg (.Call (.Name "range" p) [a] [] pos) (TIof X.K (.range1 ea)) :=
  pi_weak (pi_range1 hg hm (pa_cons ha pa_nil hs) hs) fun σ H R ⟨F, O, env, eo, hw⟩ => te_then eo hw fun r1 env1 v1 H1 q1 e1 c1 s1 a1 => by
    split at q1
    · rename_i n
      cases (show Dp X.K _ v1 (.int _) from s1)
      obtain ⟨⟨_, _, h1, h2, h3⟩, q⟩ := q1
      have hl : (rangeL 0 n).length ≤ sizeLine := by rw [range_len]; omega
      refine ⟨n, rfl, by omega, by omega, ?_⟩
      · have := q (Itr 0 (n - 0).toNat) H1 e1 c1 wk_range hl
        rw [Int.sub_zero] at this
        exact this
    · exact q1.elim
theorem ti_range2 {a b : Expr} (hg : Gl X "range") (hm : X.mg "range" = none) (ha : PE X a (TEof X.K ea)) (hb : PE X b (TEof X.K eb)) (hs : starEach [a, b] X.env = [(false, eval a X.env), (false, eval b X.env)]) (hs2 : starEach [b] X.env = [(false, eval b X.env)]) : PI X tg (.Call (.Name "range" p) [a, b] [] pos) (TIof X.K (.range2 ea eb)) :=
  pi_weak (pi_range2 hg hm (pa_cons ha (pa_cons hb pa_nil hs2) (by rw [hs, hs2])) hs hs2) fun σ H R ⟨F, O, env, eo, hw⟩ => te_then eo hw fun r1 env1 v1 H1 q1 e1 c1 s1 a1 => te_then e1 q1 fun r2 env2 v2 H2 q2 e2 c2 s2 a2 => by
    split at q2
    · rename_i m n
      cases (show Dp X.K _ v1 (.int _) from s1)
      cases (show Dp X.K _ v2 (.int _) from s2)
      obtain ⟨⟨h1, h2, h3, h4, h5⟩, q⟩ := q2
      have hl : (rangeL m n).length ≤ sizeLine := by rw [range_len]; omega
      exact ⟨m, n, rfl, ⟨by omega, by omega, by omega, by omega⟩, q (Itr m (n - m).toNat) H2 e2 (c1.trans c2) wk_range hl⟩
    · exact q2.elim
theorem ti_enum {e : Expr} {elts : List Expr} {kk : Nat} {tpos : Pos} (hg : Gl X "enumerate") (hm : X.mg "enumerate" = none) (he : PE X e (TEof X.K ea)) (hs : starEach [e] X.env = [(false, eval e X.env)]) : PI X (.Tuple elts kk tpos) (.Call (.Name "enumerate" p) [e] [] pos) (TIof X.K (.enum ea)) :=
  pi_weak (pi_enum hg hm (pa_sz (pa_cons he pa_nil hs)) hs) fun σ H R ⟨F, O, env, eo, hw⟩ => te_then eo hw fun r1 env1 v1 H1 q1 e1 c1 s1 a1 => by
    obtain ⟨xs, a, vs, q, rfl, h2, h3⟩ := res_lst s1 q1
    intro sz
    have hl := sz _ List.mem_cons_self a vs rfl (wo_all.seq h2)
    exact ⟨a, vs, rfl, wo_all.seq h2, q _ H1 e1 c1 (wk_enum h2 h3) (by rw [enum_len, ← dps_len h3]; exact hl)⟩
theorem sqk_any {K : PySem.W.Frag} {H : Hp} {a : Addr} {vs : List V} (h : SqL K H a vs ∨ SqT K H a vs) : ∃ t, ZG.SqK t K H a vs := by
  rcases h with h | h
  · exact ⟨false, h⟩
  · exact ⟨true, h⟩
theorem pa_szK {es : List Expr} {t : TA} (h : PA X es t) : PA X es fun σ H Q => t σ H fun vs H1 => (∀ v ∈ vs, ∀ b a xs, v = .ref a → ZG.SqK b X.K H1 a xs → xs.length ≤ sizeLine) → Q vs H1 := ⟨fun pos pins s σ H Q I q => by
  refine thn (h.run pos pins s σ H _ I q) ?_
  rintro us s1 ⟨vs, H1, I1, rv, q⟩
  refine ⟨vs, H1, I1, rv, q fun v hv b a xs e hs => ?_⟩
  obtain ⟨_, _, _, hz⟩ := ZG.sqk_inv 0 I1 hs
  exact hz⟩
theorem ti_zip {e e2 : Expr} {elts : List Expr} {kk : Nat} {tpos : Pos} (hg : Gl X "zip") (hm : X.mg "zip" = none) (he : PE X e (TEof X.K ea)) (he2 : PE X e2 (TEof X.K eb)) (hs : starEach [e, e2] X.env = (false, eval e X.env) :: starEach [e2] X.env) (hs2 : starEach [e2] X.env = [(false, eval e2 X.env)]) (hpl : (backTo pos (starEach [e2] X.env)).any (·.1) = false) :
    PI X (.Tuple elts kk tpos) (.Call (.Name "zip" p) [e, e2] [] pos) (TIof X.K (.zip ea eb)) :=
  pi_weak (ZG.pi_zipG hg hm (pa_szK (pa_cons he (pa_cons he2 pa_nil hs2) hs)) hs hpl) fun σ H R ⟨F, O, env, eo, hw⟩ => te_then eo hw fun r1 env1 v1 H1 q1 e1 c1 s1 a1 => te_then e1 q1 fun r2 env2 v2 H2 q2 e2 c2 s2 a2 => by
    obtain ⟨xs, a, vs, q, rfl, h2, h3⟩ := res_seq (s1.chg c2) q2
    obtain ⟨ys, b, us, q, rfl, g2, g3⟩ := res_seq s2 q
    intro sz
    obtain ⟨t1, k1⟩ := sqk_any h2
    obtain ⟨t2, k2⟩ := sqk_any g2
    have k3 := sqk_wo (fun _ _ _ h => h) k1
    have k4 := sqk_wo (fun _ _ _ h => h) k2
    have hl := sz _ List.mem_cons_self t1 a vs rfl k3
    exact ⟨t1, t2, a, b, vs, us, rfl, k3, k4, q _ H2 e2 (c1.trans c2) (wk_zip k1 h3 k2 g3) (by rw [zip_len, ← dps_len h3, ← dps_len g3]; omega)⟩
theorem ti_zip3 {ec : E} {e e2 e3 : Expr} {elts : List Expr} {kk : Nat} {tpos : Pos} (hg : Gl X "zip") (hm : X.mg "zip" = none) (he : PE X e (TEof X.K ea)) (he2 : PE X e2 (TEof X.K eb)) (he3 : PE X e3 (TEof X.K ec)) (hs : starEach [e, e2, e3] X.env = (false, eval e X.env) :: starEach [e2, e3] X.env) (hs2 : starEach [e2, e3] X.env = (false, eval e2 X.env) :: starEach [e3] X.env) (hs3 : starEach [e3] X.env = [(false, eval e3 X.env)]) (hpl : (backTo pos (starEach [e2, e3] X.env)).any (·.1) = false) :
    PI X (.Tuple elts kk tpos) (.Call (.Name "zip" p) [e, e2, e3] [] pos) (TIof X.K (.zip3 ea eb ec)) :=
  pi_weak (ZG.pi_zipH hg hm (pa_szK (pa_cons he (pa_cons he2 (pa_cons he3 pa_nil hs3) hs2) hs)) hs hpl) fun σ H R ⟨F, O, env, eo, hw⟩ => te_then eo hw fun r1 env1 v1 H1 q1 e1 c1 s1 a1 => te_then e1 q1 fun r2 env2 v2 H2 q2 e2 c2 s2 a2 => te_then e2 q2 fun r3 env3 v3 H3 q3 e3 c3 s3 a3 => by
    obtain ⟨xs, a, vs, q, rfl, h2, h3⟩ := res_seq (s1.chg (c2.trans c3)) q3
    obtain ⟨ys, b, us, q, rfl, g2, g3⟩ := res_seq (s2.chg c3) q
    obtain ⟨zs, c, ws, q, rfl, f2, f3⟩ := res_seq s3 q
    intro sz
    obtain ⟨t1, k1⟩ := sqk_any h2
    obtain ⟨t2, k2⟩ := sqk_any g2
    obtain ⟨t3, k3⟩ := sqk_any f2
    have l1 := sqk_wo (fun _ _ _ h => h) k1
    have l2 := sqk_wo (fun _ _ _ h => h) k2
    have l3 := sqk_wo (fun _ _ _ h => h) k3
    have hl := sz _ List.mem_cons_self t1 a vs rfl l1
    exact ⟨t1, t2, t3, a, b, c, vs, us, ws, rfl, l1, l2, l3, q _ H3 e3 (c1.trans (c2.trans c3)) (wk_zip3 k1 h3 k2 g3 k3 f3) (by rw [zip3_len, ← dps_len h3, ← dps_len g3, ← dps_len f3]; omega)⟩
/-! ### targets -/
def gsOf : List Nat → TGs
  | [] => gNil
  | i :: is => gCons (gName i) (gsOf is)
def TGof (K : PySem.W.Frag) : Tg → TG
  | .nm i => gName i
  | .tp is => gTup K is.length (gsOf is)
def tgSlots : Tg → List Nat
  | .nm i => [i]
  | .tp is => is
def setsV (σ : L2.St) : List Nat → List V → L2.St
  | i :: is, v :: vs => setsV (σ.set i (some v)) is vs
  | _, _ => σ
theorem gs_ok {K : PySem.W.Frag} {O : List Addr} {H : Hp} : ∀ {is : List Nat} {vs : List V} {xs : List PyData} {σ : L2.St} {env : AEnv} {Q : L2.St → Hp → Prop}, EnvOk K F O H σ env → DpAll K (Wo H O) vs xs → xs.length = is.length → (∀ i ∈ is, ∀ p, F.par i ≠ some p) → (EnvOk K F O H (setsV σ is vs) (setMany is xs env) → Q (setsV σ is vs) H) → gsOf is vs σ H Q
  | [], _, _, σ, env, Q, eo, .nil, _, _, k => ⟨rfl, k eo⟩
  | [], _, _, σ, env, Q, eo, .cons _ _, hl, _, k => by simp at hl
  | i :: is, _, _, σ, env, Q, eo, .nil, hl, _, k => by simp at hl
  | i :: is, v :: vs, x :: xs, σ, env, Q, eo, .cons h t, hl, hp, k =>
    ⟨v, vs, rfl, gs_ok (eo.setD (hp i List.mem_cons_self) h) t (by simpa using hl) (fun j hj => hp j (List.mem_cons_of_mem _ hj)) k⟩
/-- a target stored -/
theorem tg_ok {K : PySem.W.Frag} {O : List Addr} {H : Hp} {tg : Tg} {v : V} {x : PyData} {σ : L2.St} {env : AEnv} {k : AEnv → Prop} {Q : L2.St → Hp → Prop} (eo : EnvOk K F O H σ env) (hx : Dp K (Wo H O) v x) (hq : tgK tg x env k) (hp : ∀ i ∈ tgSlots tg, ∀ p, F.par i ≠ some p)
    (hk : ∀ vs env', (∃ ws, vs = setsV σ (tgSlots tg) ws) → k env' → EnvOk K F O H vs env' → Q vs H) : TGof K tg v σ H Q := by
  cases tg with
  | nm i => exact hk _ _ ⟨[v], rfl⟩ hq (eo.setD (hp i List.mem_cons_self) hx)
  | tp is =>
    unfold tgK at hq
    simp only at hq
    split at hq
    · obtain ⟨hl, hq⟩ := hq
      cases hx with
      | tup h t => exact ⟨_, _, rfl, sq_t wo_all (tk_sq h), by rw [dps_len t]; exact hl, gs_ok eo t hl hp fun e => hk _ _ ⟨_, rfl⟩ hq e⟩
    · obtain ⟨hl, hq⟩ := hq
      have hq9 := hq
      obtain ⟨a, ns, rfl, rfl, hs, _⟩ := ktup_inv hx
      exact ⟨_, _, rfl, hs H, by rw [dps_len (K := K) (H := Wo H O) (dps_intsK ns)]; exact hl, gs_ok eo (dps_intsK ns) hl hp fun e => hk _ _ ⟨_, rfl⟩ hq9 e⟩
    · exact hq.elim
/-! ### comprehensions -/
theorem get_wipe {env : AEnv} {j : Nat} {v : AV} : ∀ {own : List (Str × Nat)}, getE (wipeE env own) j = some v → getE env j = some v ∧ j ∉ own.map (·.2)
  | [], h => ⟨h, by simp⟩
  | p :: r, h => by
    have h : getE (setE (wipeE env r) p.2 none) j = some v := h
    rw [get_set] at h
    split at h
    · split at h <;> cases h
    · rename_i hj
      obtain ⟨h1, h2⟩ := get_wipe h
      exact ⟨h1, by simp only [List.map_cons, List.mem_cons, not_or]; exact ⟨hj, h2⟩⟩
theorem get_wipe_of {env : AEnv} {j : Nat} : ∀ {own : List (Str × Nat)}, j ∉ own.map (·.2) → getE (wipeE env own) j = getE env j
  | [], h => rfl
  | p :: r, h => by
    simp only [List.map_cons, List.mem_cons, not_or] at h
    show getE (setE (wipeE env r) p.2 none) j = _
    rw [get_set_ne h.1]
    exact get_wipe_of h.2
theorem wipe_out {σ : L2.St} {j : Nat} : ∀ {vs : List Nat}, j ∉ vs → (wipe σ vs)[j]? = σ[j]?
  | [], _ => rfl
  | v :: vs, h => by
    simp only [List.mem_cons, not_or] at h
    unfold wipe
    rw [List.getElem?_set_ne (Ne.symm h.1)]
    exact wipe_out h.2
theorem wipeE_len (env : AEnv) : ∀ own : List (Str × Nat), (wipeE env own).length = env.length
  | [] => rfl
  | p :: r => by show (setE (wipeE env r) p.2 none).length = _; rw [setE_len, wipeE_len env r]
theorem EnvOk.wipe {K : PySem.W.Frag} {O : List Addr} {H : Hp} {σ : L2.St} {env : AEnv} (e : EnvOk K F O H σ env) (own : List (Str × Nat)) (hp : ∀ i ∈ own.map (·.2), ∀ p, F.par i ≠ some p) : EnvOk K F O H (wipe σ (own.map (·.2))) (wipeE env own) where
  len := by rw [wipe_length, wipeE_len]; exact e.len
  dat := fun j x h => by
    obtain ⟨h1, h2⟩ := get_wipe h
    rw [wipe_out h2]
    exact e.dat j x h1
  own := fun j x h => by
    obtain ⟨h1, h2⟩ := get_wipe h
    rw [wipe_out h2]
    exact e.own j x h1
  nob := fun j m h => e.nob j m (get_wipe h).1
  inj := fun j m ds ds' p q1 q2 r1 r2 => by
    obtain ⟨h1, h2⟩ := get_wipe q1
    obtain ⟨h3, h4⟩ := get_wipe q2
    rw [wipe_out h2] at r1
    rw [wipe_out h4] at r2
    exact e.inj j m ds ds' p h1 h3 r1 r2
  live := e.live
  sub := e.sub
  new := e.new
  keep := e.keep
  ownF := fun j ds p q r => by
    obtain ⟨h1, h2⟩ := get_wipe q
    rw [wipe_out h2] at r
    exact e.ownF j ds p h1 r
  par := fun j p q => by
    have hj : j ∉ own.map (·.2) := fun z => hp j z p q
    rw [wipe_out hj, get_wipe_of hj]
    exact e.par j p q
  dic := e.dic.move (fun j kvs h => by
    obtain ⟨h1, h2⟩ := get_wipe h
    exact ⟨h1, wipe_out h2⟩) (fun p us q n => ⟨q, n⟩) fun _ z => z
/-- one more address that nobody of ours has -/
theorem EnvOk.more {K : PySem.W.Frag} {O : List Addr} {H : Hp} {σ : L2.St} {env : AEnv} (e : EnvOk K F O H σ env) {p : Addr} {xs : List V} (hp : H p = none) : EnvOk K F (p :: O) (upd H p (.lst xs)) σ env where
  len := e.len
  dat := fun j x h => by
    obtain ⟨v, h1, h2⟩ := e.dat j x h
    exact ⟨v, h1, dp_mono (wo_new hp) h2⟩
  own := fun j x h => by
    obtain ⟨a, us, h1, h2, h3, h4⟩ := e.own j x h
    exact ⟨a, us, h1, List.mem_cons_of_mem _ h2, by rw [upd_ne (ne_of_none h3 hp)]; exact h3, dps_mono (wo_new hp) h4⟩
  nob := e.nob
  inj := e.inj
  live := fun a ha => by
    rcases List.mem_cons.mp ha with h | h
    · subst h; exact ⟨_, upd_same⟩
    · obtain ⟨us, q⟩ := e.live a h
      exact ⟨us, by rw [upd_ne (ne_of_none q hp)]; exact q⟩
  sub := fun a ha => List.mem_cons_of_mem _ (e.sub a ha)
  new := fun a ha => by
    rcases List.mem_cons.mp ha with h | h
    · subst h; exact .inr (e.fresh0 hp)
    · exact e.new a h
  keep := fun a u h n => by
    have := e.keep a u h n
    rw [upd_ne (ne_of_none this hp)]
    exact this
  ownF := e.ownF
  par := e.par
  dic := e.dic.move (fun i kvs q => ⟨q, rfl⟩) (fun a us q n => ⟨by rw [upd_ne (ne_of_none q hp)]; exact q, by simp only [List.mem_cons, not_or]; exact ⟨ne_of_none q hp, n⟩⟩) fun _ z => z
/-- its list written -/
theorem EnvOk.wr {K : PySem.W.Frag} {O : List Addr} {H : Hp} {σ : L2.St} {env : AEnv} (e : EnvOk K F (p' :: O) H σ env) {xs : List V} (ne : ∀ i ds a, getE env i = some (.o ds) → σ[i]? = some (some (.ref a)) → a ≠ p') (hf : F.H0 p' = none) : EnvOk K F (p' :: O) (upd H p' (.lst xs)) σ env := by
  have sm : Same (Wo H (p' :: O)) (Wo (upd H p' (.lst xs)) (p' :: O)) := fun a u h => by
    obtain ⟨n, h⟩ := wo_some h
    rw [wo_out n, upd_ne (fun z => n (by rw [z]; exact List.mem_cons_self))]
    exact h
  refine ⟨e.len, fun j x h => ?_, fun j x h => ?_, e.nob, e.inj, fun a ha => ?_, e.sub, e.new, fun a u h n => ?_, e.ownF, e.par, ?_⟩
  · obtain ⟨v, h1, h2⟩ := e.dat j x h
    exact ⟨v, h1, dp_mono sm h2⟩
  · obtain ⟨a, us, h1, h2, h3, h4⟩ := e.own j x h
    exact ⟨a, us, h1, h2, by rw [upd_ne (ne j x a h h1)]; exact h3, dps_mono sm h4⟩
  · by_cases q : a = p'
    · subst q; exact ⟨_, upd_same⟩
    · rw [upd_ne q]; exact e.live a ha
  · have q : a ≠ p' := fun z => by subst z; rw [hf] at h; cases h
    rw [upd_ne q]
    exact e.keep a u h n
  · exact e.dic.move (fun i kvs q => ⟨q, rfl⟩) (fun a us q n => ⟨by rw [upd_ne (fun z => n (by rw [z]; exact List.mem_cons_self))]; exact q, n⟩) fun _ z => z
theorem wipe_sets {σ : L2.St} {vs : List Nat} : ∀ {is : List Nat} {ws : List V} {τ : L2.St}, (∀ i ∈ is, i ∈ vs) → wipe τ vs = wipe σ vs → wipe (setsV τ is ws) vs = wipe σ vs
  | [], _, τ, _, h => h
  | i :: is, [], τ, _, h => h
  | i :: is, w :: ws, τ, hi, h => by
    have one : ∀ (vs : List Nat) (τ : L2.St), i ∈ vs → wipe (τ.set i (some w)) vs = wipe τ vs := by
      intro vs
      induction vs with
      | nil => intro τ h; cases h
      | cons v vs ih =>
        intro τ hm
        show (wipe (τ.set i (some w)) vs).set v none = (wipe τ vs).set v none
        by_cases hv : v = i
        · subst hv
          have set_wipe : ∀ (vs : List Nat) (τ : L2.St), (wipe (τ.set v (some w)) vs).set v none = (wipe τ vs).set v none := by
            intro vs
            induction vs with
            | nil => intro τ; show (τ.set v (some w)).set v none = τ.set v none; rw [List.set_set]
            | cons u us ih =>
              intro τ
              show ((wipe (τ.set v (some w)) us).set u none).set v none = ((wipe τ us).set u none).set v none
              by_cases hu : u = v
              · subst hu; rw [List.set_set, List.set_set]; exact ih τ
              · rw [List.set_comm _ _ hu, ih τ, List.set_comm _ _ hu]
          exact set_wipe vs τ
        · rcases List.mem_cons.mp hm with z | z
          · exact absurd z.symm hv
          · rw [ih τ z]
    exact wipe_sets (is := is) (ws := ws) (τ := τ.set i (some w)) (fun j hj => hi j (List.mem_cons_of_mem _ hj)) ((one vs τ (hi i List.mem_cons_self)).trans h)
theorem wipe_wipe (σ : L2.St) (vs : List Nat) : wipe (wipe σ vs) vs = wipe σ vs := by
  have sw : ∀ (us : List Nat) (τ : L2.St) (i : Nat), (wipe (τ.set i none) us).set i none = (wipe τ us).set i none := by
    intro us
    induction us with
    | nil => intro τ i; show (τ.set i none).set i none = τ.set i none; rw [List.set_set]
    | cons u us ih =>
      intro τ i
      show ((wipe (τ.set i none) us).set u none).set i none = ((wipe τ us).set u none).set i none
      by_cases hu : u = i
      · subst hu; rw [List.set_set, List.set_set]; exact ih τ u
      · rw [List.set_comm _ _ hu, ih τ i, List.set_comm _ _ hu]
  induction vs with
  | nil => rfl
  | cons v vs ih =>
    show (wipe ((wipe σ vs).set v none) vs).set v none = (wipe σ vs).set v none
    rw [sw, ih]
theorem noOwn_ok {env : AEnv} : ∀ {own : List (Str × Nat)}, noOwn env own → ∀ i ∈ own.map (·.2), ∀ ds, getE env i ≠ some (.o ds)
  | [], _, i, hi, _ => by simp at hi
  | p :: r, h, i, hi, ds => by
    simp only [List.map_cons, List.mem_cons] at hi
    rcases hi with rfl | hi
    · intro z
      have h1 := h.1
      rw [z] at h1
      exact h1
    · exact noOwn_ok h.2 i hi ds
theorem get_back {old env : AEnv} {j : Nat} (hl : env.length = old.length) : ∀ own : List (Str × Nat), getE (backE old env own) j = if j ∈ own.map (·.2) then getE old j else getE env j
  | [] => by simp [backE]
  | p :: r => by
    have ih := get_back (j := j) hl r
    have len : ∀ r : List (Str × Nat), (backE old env r).length = old.length := by
      intro r
      induction r with
      | nil => exact hl
      | cons q r ih => show (setE (backE old env r) q.2 (getE old q.2)).length = _; rw [setE_len, ih]
    show getE (setE (backE old env r) p.2 (getE old p.2)) j = _
    rw [get_set]
    by_cases hj : j = p.2
    · subst hj
      rw [if_pos rfl, if_pos (show p.2 ∈ (p :: r).map (·.2) by simp)]
      by_cases h : p.2 < (backE old env r).length
      · rw [if_pos h]
      · rw [if_neg h]
        cases q : getE old p.2 with
        | none => rfl
        | some v => have := getE_len q; rw [len] at h; omega
    · rw [if_neg hj, ih]
      simp only [List.map_cons, List.mem_cons]
      by_cases h2 : j ∈ r.map (·.2)
      · rw [if_pos h2, if_pos (.inr h2)]
      · rw [if_neg h2, if_neg (by intro z; rcases z with z | z; exact hj z; exact h2 z)]
theorem back_len {old env : AEnv} (hl : env.length = old.length) : ∀ r : List (Str × Nat), (backE old env r).length = old.length
  | [] => hl
  | q :: r => by show (setE (backE old env r) q.2 (getE old q.2)).length = _; rw [setE_len, back_len hl r]
/-- behind a comprehension -/
theorem EnvOk.behind {K : PySem.W.Frag} {O : List Addr} {D : Addr} {H H' : Hp} {σ : L2.St} {env env' : AEnv} {own : List (Str × Nat)} (e0 : EnvOk K F O H σ env) (hD : H D = none) (e : EnvOk K F (D :: O) H' (L2.wipe σ (own.map (·.2))) (wipeE env' own)) (sh : Shp env env') (c : Chg O H H') (no : noOwn env own) :
    EnvOk K F O H' σ (backE env env' own) ∧ Av K O D H' σ (backE env env' own) := by
  have sm : Same (Wo H O) (Wo H' (D :: O)) := fun a o z => by
    obtain ⟨n, z⟩ := wo_some z
    have ne := ne_of_none z hD
    rw [wo_out (by simp only [List.mem_cons, not_or]; exact ⟨ne, n⟩)]
    exact c a o z n
  have gb := fun j => get_back (j := j) sh.2 own
  have dat : ∀ j x, getE (backE env env' own) j = some (.d x) → ∃ v, σ[j]? = some (some v) ∧ Dp K (Wo H' (D :: O)) v x := fun j x h => by
    rw [gb j] at h
    split at h
    · obtain ⟨v, h1, h2⟩ := e0.dat j x h
      exact ⟨v, h1, dp_mono sm h2⟩
    · rename_i hj
      obtain ⟨v, h1, h2⟩ := e.dat j x (by rw [get_wipe_of hj]; exact h)
      rw [wipe_out hj] at h1
      exact ⟨v, h1, h2⟩
  have ownp : ∀ j ds, getE (backE env env' own) j = some (.o ds) → j ∉ own.map (·.2) ∧ getE (wipeE env' own) j = some (.o ds) ∧ ∃ ds', getE env j = some (.o ds') := fun j ds h => by
    rw [gb j] at h
    split at h
    · rename_i hj
      exact (noOwn_ok no j hj ds h).elim
    · rename_i hj
      exact ⟨hj, by rw [get_wipe_of hj]; exact h, sh.1.1 j ds h⟩
  have own' : ∀ j xs, getE (backE env env' own) j = some (.o xs) → ∃ a us, σ[j]? = some (some (.ref a)) ∧ a ∈ O ∧ H' a = some (.lst us) ∧ DpAll K (Wo H' (D :: O)) us xs := fun j xs h => by
    obtain ⟨hj, h1, ds', h2⟩ := ownp j xs h
    obtain ⟨a, us, g1, g2, g3, g4⟩ := e.own j xs h1
    rw [wipe_out hj] at g1
    obtain ⟨a', us', k1, k2, k3, _⟩ := e0.own j ds' h2
    rw [g1] at k1; cases k1
    exact ⟨a, us, g1, k2, g3, g4⟩
  refine ⟨⟨by rw [back_len sh.2]; exact e0.len, fun j x h => ?_, fun j x h => ?_, fun j m h => ?_, fun j m ds ds' a q1 q2 r1 r2 => ?_, fun a ha => e.live a (List.mem_cons_of_mem _ ha), e0.sub, e0.new, e.keep, fun j ds a q r => ?_, fun j a q => ?_, ?_⟩, ⟨dat, own'⟩⟩
  · obtain ⟨v, h1, h2⟩ := dat j x h
    exact ⟨v, h1, dp_mono wo_cons h2⟩
  · obtain ⟨a, us, h1, h2, h3, h4⟩ := own' j x h
    exact ⟨a, us, h1, h2, h3, dps_mono wo_cons h4⟩
  · rw [gb j] at h
    split at h
    · exact e0.nob j m h
    · rename_i hj
      exact e.nob j m (by rw [get_wipe_of hj]; exact h)
  · obtain ⟨_, _, x1, h1⟩ := ownp j ds q1
    obtain ⟨_, _, x2, h2⟩ := ownp m ds' q2
    exact e0.inj j m _ _ a h1 h2 r1 r2
  · obtain ⟨_, _, x1, h1⟩ := ownp j ds q
    exact e0.ownF j _ a h1 r
  · obtain ⟨h1, ds, h2⟩ := e0.par j a q
    refine ⟨h1, ?_⟩
    have hj : j ∉ own.map (·.2) := fun z => noOwn_ok no j z ds h2
    obtain ⟨_, xs, h3⟩ := e.par j a q
    rw [get_wipe_of hj] at h3
    exact ⟨xs, by rw [gb j, if_neg hj]; exact h3⟩
  · refine e0.dic.move (fun i kvs q => ?_) (fun a us q n => ⟨c _ _ q n, n⟩) fun _ z => z
    rw [gb i] at q
    split at q
    · exact ⟨q, rfl⟩
    · exact ⟨sh.1.2 i kvs q, rfl⟩
/-! ### the entry as it is now -/
def Fi.now (O : List Addr) (H : Hp) (σ : L2.St) (env : AEnv) : Fi := ⟨O, H, fun i => match getE env i, σ[i]? with | some (.o _), some (some (.ref p)) => some p | _, _ => none, true⟩
theorem now_par {O : List Addr} {H : Hp} {σ : L2.St} {env : AEnv} {i : Nat} {p : Addr} : (Fi.now O H σ env).par i = some p ↔ (∃ ds, getE env i = some (.o ds)) ∧ σ[i]? = some (some (.ref p)) := by
  show (match getE env i, σ[i]? with | some (.o _), some (some (.ref p)) => some p | _, _ => none) = some p ↔ _
  constructor
  · intro h
    split at h
    · rename_i ds q h1 h2
      cases h
      exact ⟨⟨ds, h1⟩, h2⟩
    · cases h
  · rintro ⟨⟨ds, h1⟩, h2⟩
    rw [h1, h2]
theorem EnvOk.rebase {K : PySem.W.Frag} {O : List Addr} {H : Hp} {σ : L2.St} {env : AEnv} (e : EnvOk K F O H σ env) : EnvOk K (Fi.now O H σ env) O H σ env where
  len := e.len
  dat := e.dat
  own := e.own
  nob := e.nob
  inj := e.inj
  live := e.live
  sub := fun _ h => h
  new := fun _ h => .inl h
  keep := fun _ _ h _ => h
  ownF := fun i ds p h1 h2 => .inl ⟨i, now_par.mpr ⟨⟨ds, h1⟩, h2⟩⟩
  par := fun i p h => ⟨(now_par.mp h).2, (now_par.mp h).1⟩
  dic := e.dic.move (fun i kvs q => ⟨q, rfl⟩) (fun p us q n => ⟨q, n⟩) fun _ _ => .inl rfl
theorem EnvOk.unbase {K : PySem.W.Frag} {O : List Addr} {H H' : Hp} {σ : L2.St} {env env' : AEnv} (e : EnvOk K F O H σ env) (e' : EnvOk K (Fi.now O H σ env) O H' σ env') (sh : Shp env env') : EnvOk K F O H' σ env' where
  len := e'.len
  dat := e'.dat
  own := e'.own
  nob := e'.nob
  inj := e'.inj
  live := e'.live
  sub := e.sub
  new := e.new
  keep := fun a o h n => e'.keep a o (e.keep a o h n) fun ⟨i, hi⟩ => by
    obtain ⟨⟨ds, h1⟩, h2⟩ := now_par.mp hi
    rcases e.ownF i ds a h1 h2 with q | q
    · exact n q
    · rw [q] at h; cases h
  ownF := fun i ds p h1 h2 => by
    obtain ⟨ds', h3⟩ := sh.1.1 i ds h1
    exact e.ownF i ds' p h3 h2
  par := fun i p h => by
    obtain ⟨h1, ds, h2⟩ := e.par i p h
    exact e'.par i p (now_par.mpr ⟨⟨ds, h2⟩, h1⟩)
  dic := fun i kvs q => by
    obtain ⟨p, c⟩ := e'.dic i kvs q
    obtain ⟨p2, c2⟩ := e.dic i kvs (sh.1.2 i kvs q)
    have := c.at_
    rw [c2.at_] at this
    cases this
    exact ⟨_, c.at_, c.out, c2.ent, c.has, c.flat, c.one⟩
/-- what no slot owns stays through an expression -/
theorem now_keep {K : PySem.W.Frag} {O : List Addr} {H H' : Hp} {σ : L2.St} {env env' : AEnv} (e' : EnvOk K (Fi.now O H σ env) O H' σ env') {a : Addr} {o : HO} (h : H a = some o) (n : ∀ i ds, getE env i = some (.o ds) → σ[i]? ≠ some (some (.ref a))) : H' a = some o :=
  e'.keep a o h fun ⟨i, hi⟩ => by
    obtain ⟨⟨ds, h1⟩, h2⟩ := now_par.mp hi
    exact n i ds h1 h2
def ttOf (K : PySem.W.Frag) (cond : Option Unit) (c : E) : TT := match cond with
  | none => tYes
  | some _ => TTof K c
theorem drop_get {α : Type} {xs : List α} {i : Nat} {d : α} (h : xs[i]? = some d) : xs.drop i = d :: xs.drop (i + 1) := by
  obtain ⟨h1, h2⟩ := List.getElem?_eq_some_iff.mp h
  rw [List.drop_eq_getElem_cons h1, h2]
theorem lc_red {K : PySem.W.Frag} {elt c : E} {cond : Option Unit} {tg : Tg} {it : PF.It} {own : List (Str × Nat)} {σ : L2.St} {H : Hp} {Q : VK} (hsl : ∀ i ∈ tgSlots tg, i ∈ own.map (·.2)) (h : TEof K (.comp elt cond c tg it own) σ H Q) :
    tLc (TIof K it) (TGof K tg) (ttOf K cond c) (TEof K elt) (own.map (·.2)) σ H Q := by
  obtain ⟨F, O, env, eo, hw⟩ := h
  unfold wE at hw
  refine ⟨F, O, env, eo, wIt_mono it (fun items env1 q J H1 e1 c1 wk hl D hD => ?_) hw⟩
  obtain ⟨no, q⟩ := q
  have hpar : ∀ i ∈ own.map (·.2), ∀ p, F.par i ≠ some p := fun i hi p z => by
    obtain ⟨_, ds, h2⟩ := e1.par i p z
    exact noOwn_ok no i hi ds h2
  have nO := e1.notO hD
  have fD := e1.fresh0 hD
  generalize hQf : (fun ds env2 => ∀ v H', EnvOk K F O H' σ (backE env1 env2 own) → Chg O H H' → Res K O H H' σ v (.o ds) → AvR K O H' σ (backE env1 env2 own) v (.o ds) → Q v H') = Qf at q
  have slotD : ∀ {env2 : AEnv} i ds a, Shp env1 env2 → getE (wipeE env2 own) i = some (.o ds) → (wipe σ (own.map (·.2)))[i]? = some (some (.ref a)) → a ≠ D := fun {env2} i ds a sh h1 h2 z => by
    obtain ⟨h3, h4⟩ := get_wipe h1
    obtain ⟨ds', h5⟩ := sh.1.1 i ds h3
    rw [wipe_out h4] at h2
    obtain ⟨p, us, g1, g2, g3, _⟩ := e1.own i ds' h5
    rw [h2] at g1; cases g1
    subst z
    rw [hD] at g3; cases g3
  refine ⟨fun i m H' => ∃ env2 acc vsa, EnvOk K F (D :: O) H' (wipe σ (own.map (·.2))) (wipeE env2 own) ∧ Shp env1 env2 ∧ H' D = some (.lst vsa) ∧ DpAll K (Wo H' (D :: O)) vsa acc ∧ acc.length ≤ i ∧ i ≤ items.length ∧ m = items.length - i ∧ Chg O H1 H' ∧
      compW cond (fun e q => wE c e q X0) (fun e q => wE elt e q X0) tg own (items.drop i) env2 acc Qf,
    ⟨items.length - 0, env1, [], [], (e1.wipe own hpar).more hD, .refl, upd_same, .nil, Nat.le_refl _, Nat.zero_le _, rfl, chg_new hD, q⟩, ?_⟩
  rintro i m H' ⟨env2, acc, vsa, e2, sh, hDl, hacc, hal, hil, rfl, c2, q⟩
  have ext : Ext O H1 (D :: O) H' := ⟨c2.d, fun p hp => by
    rcases List.mem_cons.mp hp with z | z
    · subst z; exact .inr hD
    · exact .inl z⟩
  have W := wk (D :: O) H' ext e2.liveN i
  by_cases hi : i < items.length
  · have hx : items[i]? = some items[i] := List.getElem?_eq_getElem hi
    obtain ⟨go, yl⟩ := W.1 _ hx
    rw [drop_get hx] at q
    refine .inr ⟨go, _, fun H'' z => ⟨items.length - (i + 1), by omega, z⟩, fun x H'' hy => ?_⟩
    obtain ⟨sm, dx⟩ := yl x H'' hy
    have e3 := e2.grow sm
    have c3 : Chg O H1 H'' := c2.trans fun a o h _ => sm a o h
    have hD3 : H'' D = some (.lst vsa) := sm _ _ hDl
    have hacc3 : DpAll K (Wo H'' (D :: O)) vsa acc := dps_mono (Chg.wo fun a o h _ => sm a o h) hacc
    refine tg_ok e3 dx (tgK_shp q) (fun i hi => hpar i (hsl i hi)) ?_
    rintro σ2 env3 ⟨ws, rfl⟩ ⟨sh3, q3⟩ e4
    have hwp : wipe (setsV (wipe σ (own.map (·.2))) (tgSlots tg) ws) (own.map (·.2)) = wipe σ (own.map (·.2)) := wipe_sets hsl (wipe_wipe _ _)
    refine ⟨hwp, ?_⟩
    have shA : Shp env1 env3 := (sh.trans (shp_wipe own)).trans sh3
    generalize setsV (wipe σ (own.map (·.2))) (tgSlots tg) ws = σ2 at e4 hwp ⊢
    -- no slot owns D
    have nD : ∀ {env' : AEnv}, Shp env1 env' → EnvOk K F (D :: O) H'' σ2 env' ∨ True → ∀ i ds, getE env' i = some (.o ds) → σ2[i]? ≠ some (some (.ref D)) := fun {env'} shp _ i ds h1 h2 => by
      obtain ⟨ds', h3⟩ := shp.1.1 i ds h1
      have hni : i ∉ own.map (·.2) := fun z => noOwn_ok no i z ds' h3
      have h4 : (wipe σ2 (own.map (·.2)))[i]? = some (some (.ref D)) := by rw [wipe_out hni]; exact h2
      rw [hwp, wipe_out hni] at h4
      obtain ⟨p, us, g1, g2, g3, _⟩ := e1.own i ds' h3
      rw [h4] at g1; cases g1
      rw [hD] at g3; cases g3
    -- the element
    have elem : ∀ {env' : AEnv} {H3 : Hp}, Shp env1 env' → EnvOk K F (D :: O) H3 σ2 env' → Chg O H1 H3 → H3 D = some (.lst vsa) → DpAll K (Wo H3 (D :: O)) vsa acc →
        wE elt env' (fun v env3 => dataK v fun y => compW cond (fun e q => wE c e q X0) (fun e q => wE elt e q X0) tg own (items.drop (i + 1)) env3 (acc ++ [y]) Qf) X0 →
        TEof K elt σ2 H3 fun y H4 => ∃ acc', H4 D = some (.lst acc') ∧ acc'.length < sizeLine ∧ ∃ env2 acc vsa, EnvOk K F (D :: O) (upd H4 D (.lst (acc' ++ [y]))) (wipe σ (own.map (·.2))) (wipeE env2 own) ∧ Shp env1 env2 ∧ (upd H4 D (.lst (acc' ++ [y]))) D = some (.lst vsa) ∧ DpAll K (Wo (upd H4 D (.lst (acc' ++ [y]))) (D :: O)) vsa acc ∧
          acc.length ≤ i + 1 ∧ i + 1 ≤ items.length ∧ items.length - (i + 1) = items.length - (i + 1) ∧ Chg O H1 (upd H4 D (.lst (acc' ++ [y]))) ∧ compW cond (fun e q => wE c e q X0) (fun e q => wE elt e q X0) tg own (items.drop (i + 1)) env2 acc Qf := by
      intro env' H3 shp e5 c5 hD5 hacc5 q5
      refine te_then e5.rebase (wE_shp elt q5) fun r env6 v H4 q6 e6 c6 s6 a6 => ?_
      obtain ⟨sh6, q6⟩ := q6
      obtain ⟨y, q6, hy⟩ := res_data s6 q6
      have hD6 : H4 D = some (.lst vsa) := now_keep e6 hD5 (nD shp (.inr trivial))
      have e7 := e5.unbase e6 sh6
      have sh7 := shp.trans sh6
      have e8 := e7.wipe own hpar
      rw [hwp] at e8
      have smD : Same (Wo H4 (D :: O)) (Wo (upd H4 D (.lst (vsa ++ [v]))) (D :: O)) := fun a u h => by
        obtain ⟨n, h⟩ := wo_some h
        rw [wo_out n, upd_ne (fun z => n (by rw [z]; exact List.mem_cons_self))]
        exact h
      have hav : DpAll K (Wo H4 (D :: O)) vsa acc := dps_mono c6.wo hacc5
      refine ⟨vsa, hD6, by rw [dps_len hacc]; omega, env6, acc ++ [y], vsa ++ [v], e8.wr (fun i ds a h1 h2 => slotD i ds a sh7 h1 h2) fD, sh7, upd_same, dps_mono smD (dps_append hav (.cons hy .nil)), by rw [List.length_append]; simp; omega, hi, rfl, ?_, q6⟩
      intro a o h n
      have ne : a ≠ D := ne_of_none h hD
      rw [upd_ne ne]
      exact c6 a o (c5 a o h n) (by simp only [List.mem_cons, not_or]; exact ⟨ne, n⟩)
    cases cond with
    | none => exact elem shA e4 c3 hD3 hacc3 q3
    | some u =>
      refine tt_then (q := fun b env2 => (if b = true then wE elt env2 (fun v env3 => dataK v fun y => compW (some u) (fun e q => wE c e q X0) (fun e q => wE elt e q X0) tg own (items.drop (i + 1)) env3 (acc ++ [y]) Qf) X0
          else compW (some u) (fun e q => wE c e q X0) (fun e q => wE elt e q X0) tg own (items.drop (i + 1)) env2 acc Qf) ∧ Shp env3 env2) e4.rebase ?_ fun b env6 H6 q6 e6 c6 => ?_
      · exact wE_mono c (fun r e z => truthK_mono (fun b w => ⟨w, z.1⟩) z.2) (wE_shp c q3)
      · obtain ⟨q6, sh6⟩ := q6
        have hD6 : H6 D = some (.lst vsa) := now_keep e6 hD3 (nD shA (.inr trivial))
        have e7 := e4.unbase e6 sh6
        have c7 : Chg O H1 H6 := fun a o h n => c6 a o (c3 a o h n) (by simp only [List.mem_cons, not_or]; exact ⟨ne_of_none h hD, n⟩)
        have hacc7 : DpAll K (Wo H6 (D :: O)) vsa acc := dps_mono c6.wo hacc3
        have sh7 := shA.trans sh6
        cases b with
        | true =>
          rw [if_pos rfl] at q6 ⊢
          exact elem sh7 e7 c7 hD6 hacc7 q6
        | false =>
          rw [if_neg Bool.false_ne_true] at q6 ⊢
          have e8 := e7.wipe own hpar
          rw [hwp] at e8
          exact ⟨env6, acc, vsa, e8, sh7, hD6, hacc7, by omega, hi, rfl, c7, q6⟩
  · have hie : i = items.length := by omega
    subst hie
    refine .inl ⟨W.2 (Nat.le_refl _), ?_⟩
    rw [List.drop_length] at q
    have q : Qf acc env2 := q
    rw [← hQf] at q
    obtain ⟨eb, av⟩ := EnvOk.behind e1 hD e2 sh c2 no
    have cH : Chg O H H' := c1.trans c2
    have hDH : H D = none := by
      cases z : H D with
      | none => rfl
      | some o => rw [c1 _ _ z nO] at hD; cases hD
    exact q (.ref D) H' eb cH ⟨D, vsa, rfl, hDH, nO, hDl, hacc⟩ fun p z => by cases z; exact av
end
end PF

set_option maxRecDepth 100000
set_option maxHeartbeats 400000
namespace PF
open PySem PySem.Spec PyProof.Rows L2
/-! ### statements -/
def ends (K : PySem.W.Frag) (F : Fi) (O : List Addr) (H : Hp) (D : Ends) : AEnds where
  nx := fun env' => ∀ σ' H' O', EnvOk K F O' H' σ' env' → Ext O H O' H' → D.nx σ' H'
  rt := fun r env' => ∀ v σ' H' O', EnvOk K F O' H' σ' env' → Res K O' F.H0 H' σ' v r → AvR K O' H' σ' env' v r → D.rt v H'
  bk := fun env' => ∀ σ' H' O', EnvOk K F O' H' σ' env' → Ext O H O' H' → D.bk σ' H'
  ct := fun env' => ∀ σ' H' O', EnvOk K F O' H' σ' env' → Ext O H O' H' → D.ct σ' H'
/-- what is lent stands in the slots R -/
structure FR (F : Fi) (R : List Nat) : Prop where
  par : ∀ i p, F.par i = some p → i ∈ R
  lv : ∀ p ∈ F.O0, F.H0 p ≠ none
  cm : F.cm = false
/-- what is wished of what is raised -/
def xends (K : PySem.W.Frag) (F : Fi) (O : List Addr) (H : Hp) (Wx : WX) : XQ := fun c env' => ∀ σ' H' O', EnvOk K F O' H' σ' env' → Ext O H O' H' → Wx (.ref (He.ga K c)) none σ' H'
def TSof (K : PySem.W.Frag) (Wx : WX) (R : List Nat) (s : S) : TS := fun D σ H => ∃ (F : Fi) (O : List Addr) (env : AEnv), FR F R ∧ EnvOk K F O H σ env ∧ wS (xends K F O H Wx) s env (ends K F O H D)
def TSsof (K : PySem.W.Frag) (Wx : WX) (R : List Nat) (ss : Ss) : TS := fun D σ H => ∃ (F : Fi) (O : List Addr) (env : AEnv), FR F R ∧ EnvOk K F O H σ env ∧ wSs (xends K F O H Wx) ss env (ends K F O H D)
theorem xends_ext {K : PySem.W.Frag} {F : Fi} {O O' : List Addr} {H H' : Hp} {Wx : WX} (x : Ext O H O' H') : ∀ c e, xends K F O H Wx c e → xends K F O' H' Wx c e := fun _ _ h σ2 H2 O2 e y => h σ2 H2 O2 e (x.trans y)
theorem ends_ext {K : PySem.W.Frag} {F : Fi} {O O' : List Addr} {H H' : Hp} {D : Ends} (x : Ext O H O' H') : (ends K F O H D).Le (ends K F O' H' D) :=
  ⟨fun _ h σ2 H2 O2 e y => h σ2 H2 O2 e (x.trans y), fun _ _ h => h, fun _ h σ2 H2 O2 e y => h σ2 H2 O2 e (x.trans y), fun _ h σ2 H2 O2 e y => h σ2 H2 O2 e (x.trans y)⟩
section
variable {X : Cx} {F : Fi} {R : List Nat} {Wx : WX} {pos : Pos}
theorem FR.no (f : FR F R) {i : Nat} (hi : i ∉ R) : ∀ p, F.par i ≠ some p := fun p z => hi (f.par i p z)
theorem set_ok {K : PySem.W.Frag} {O : List Addr} {H H1 : Hp} {σ : L2.St} {env env1 : AEnv} {i : Nat} {v : V} {r : AV} {D : Ends} (fr : FR F R) (hi : i ∉ R) (eo : EnvOk K F O H σ env) (e1 : EnvOk K F O H1 σ env1) (c1 : Chg O H H1) (s1 : Res K O H H1 σ v r) (a1 : AvR K O H1 σ env1 v r)
    (q : match r with | .b _ => False | .p _ _ => False | .m _ => False | v => (ends K F O H D).nx (setE env1 i (some v))) : D.nx (σ.set i (some v)) H1 := by
  cases r with
  | b j => exact q.elim
  | p _ _ => exact q.elim
  | m _ => exact q.elim
  | d x => exact q _ _ O (e1.setD (fr.no hi) s1) (.of c1)
  | o ds =>
    obtain ⟨p, vs, rfl, n, no, hp, hd⟩ := s1
    have av := a1 p rfl
    refine q _ _ (p :: O) (e1.setO (fr.no hi) (eo.fresh0 n) no hp hd (.inr trivial) av.dat av.own) ⟨c1.d, fun a ha => ?_⟩
    rcases List.mem_cons.mp ha with z | z
    · subst z; exact .inr n
    · exact .inl z
theorem asg_red {K : PySem.W.Frag} {i : Nat} {e : E} (hi : i ∉ R) {D : Ends} {σ : L2.St} {H : Hp} (h : TSof K Wx R (.asg i e) D σ H) : tAsg (TEof K e) (gName i) D σ H := by
  obtain ⟨F, O, env, fr, eo, hw⟩ := h
  exact te_then eo hw fun r env1 v H1 q e1 c1 s1 a1 => set_ok fr hi eo e1 c1 s1 a1 (by cases r <;> exact q)
theorem asgF_red {K : PySem.W.Frag} {i : Nat} {e : E} (hi : i ∉ R) {D : Ends} {σ : L2.St} {H : Hp} (h : TSof K Wx R (.asgF i e) D σ H) : tAsg (TEof K e) (gName i) D σ H := by
  obtain ⟨F, O, env, fr, eo, hw⟩ := h
  refine te_then eo hw fun r env1 v H1 q e1 c1 s1 a1 => ?_
  obtain ⟨x, q, hx⟩ := res_data s1 q
  exact q _ _ O (e1.setD (fr.no hi) hx) (.of c1)
theorem ts_asg {i : Nat} {x : Str} {e : Expr} {ea : E} {px : Pos} (hi' : i ∉ R) (hN : X.N.Nodup) (hi : X.N[i]? = some x) (hx : Loc X.env.scope x) (he : PE X e (TEof X.K ea)) (hs : swapsWith e (some (.Name x px)) pos.line X.env = pure false) (hf : X.fn x = true ∨ X.env.scope.names.lookup x = some .local) :
    PS X (.Assign [.Name x px] e pos) (TSof X.K Wx R (.asg i ea)) := ps_weak (ps_set hN hi hx he hs hf) fun D σ H h => asg_red hi' h
theorem ts_asgF {i : Nat} {x : Str} {e : Expr} {ea : E} {px : Pos} (hi' : i ∉ R) (hN : X.N.Nodup) (hi : X.N[i]? = some x) (hx : Loc X.env.scope x) (he : PE X e (TEof X.K ea)) (hs : swapsWith e (some (.Name x px)) pos.line X.env = pure false) (hf : X.fn x = true ∨ X.env.scope.names.lookup x = some .local) :
    PS X (.Assign [.Name x px] e pos) (TSof X.K Wx R (.asgF i ea)) := ps_weak (ps_set hN hi hx he hs hf) fun D σ H h => asgF_red hi' h
theorem ts_expr {e : Expr} {ea : E} (he : PE X e (TEof X.K ea)) (hs : swapsWith e none pos.line X.env = pure false) : PS X (.Expr e pos) (TSof X.K Wx R (.expr ea)) :=
  ps_weak (ps_expr he hs) fun D σ H ⟨F, O, env, fr, eo, hw⟩ => te_then eo hw fun r env1 v H1 q e1 c1 s1 a1 => q _ _ O e1 (.of c1)
theorem ts_ret {e : Expr} {ea : E} (he : PE X e (TEof X.K ea)) : PS X (.Return (some e) pos) (TSof X.K Wx R (.ret ea)) :=
  ps_weak (ps_ret he) fun D σ H ⟨F, O, env, fr, eo, hw⟩ => te_then eo hw fun r env1 v H1 q e1 c1 s1 a1 => by
    refine q v σ H1 O e1 ?_ a1
    cases r with
    | d x => exact s1
    | b j => exact s1
    | m _ => exact s1
    | o ds =>
      obtain ⟨p, vs, rfl, n, no, hp, hd⟩ := s1
      exact ⟨p, vs, rfl, eo.fresh0 n, no, hp, hd⟩
    | p ds x =>
      obtain ⟨q, p, vs, w, rfl, n, no, hq, np, nop, hp, hd, hw⟩ := s1
      exact ⟨q, p, vs, w, rfl, eo.fresh0 n, no, hq, eo.fresh0 np, nop, hp, hd, hw⟩
theorem ts_retN : PS X (.Return none pos) (TSof X.K Wx R .retN) := ps_weak ps_retN fun D σ H ⟨F, O, env, fr, eo, hw⟩ => hw .non σ H O eo .non trivial
theorem ts_pass : PS X (.Pass pos) (TSof X.K Wx R .pass) := ps_weak ps_pass fun D σ H ⟨F, O, env, fr, eo, hw⟩ => hw σ H O eo .refl
theorem ts_brk : PS X (.Break pos) (TSof X.K Wx R .brk) := ps_weak ps_break fun D σ H ⟨F, O, env, fr, eo, hw⟩ => hw σ H O eo .refl
theorem ts_cont : PS X (.Continue pos) (TSof X.K Wx R .cont) := ps_weak ps_continue fun D σ H ⟨F, O, env, fr, eo, hw⟩ => hw σ H O eo .refl
theorem ts_raise {st : Stmt} {x : Str} : PS X st (TSof X.K Wx R (.raise x)) := ps_weak ps_never fun D σ H ⟨F, O, env, fr, eo, hw⟩ => hw
theorem tss_nil : PSs X [] (TSsof X.K Wx R .nil) := pss_weak pss_nil fun D σ H ⟨F, O, env, fr, eo, hw⟩ => hw σ H O eo .refl
theorem tss_cons {st : Stmt} {sts : List Stmt} {s : S} {ss : Ss} (h1 : PS X st (TSof X.K Wx R s)) (h2 : PSs X sts (TSsof X.K Wx R ss)) : PSs X (st :: sts) (TSsof X.K Wx R (.cons s ss)) :=
  pss_weak (pss_cons h1 h2) fun D σ H ⟨F, O, env, fr, eo, hw⟩ => by
    unfold wSs at hw
    refine ⟨F, O, env, fr, eo, wS_mono s (D := { (ends X.K F O H D) with nx := fun env1 => wSs (xends X.K F O H Wx) ss env1 (ends X.K F O H D) }) ⟨fun env1 q σ' H' O' e x => ?_, fun _ _ h => h, fun _ h => h, fun _ h => h⟩ hw⟩
    exact ⟨F, O', env1, fr, e, wSs_mx ss (xends_ext x) (ends_ext x) q⟩
/-- a list that is not changed any more -/
theorem EnvOk.freeze {K : PySem.W.Frag} {O : List Addr} {H : Hp} {σ : L2.St} {env : AEnv} (fr : FR F R) {j : Nat} {ds : List PyData} (hj : j ∉ R) (e : EnvOk K F O H σ env) (h : getE env j = some (.o ds)) : ∃ O', EnvOk K F O' H σ (setE env j (some (.d (.list ds)))) ∧ Ext O H O' H := by
  obtain ⟨p, vs, h1, h2, h3, h4⟩ := e.own j ds h
  have hl := getE_len h
  have hH0 : F.H0 p = none := by
    rcases e.ownF j ds p h h1 with ⟨i, hi⟩ | z
    · obtain ⟨g1, xs, g2⟩ := e.par i p hi
      have : i = j := e.inj i j _ _ p g2 h g1 h1
      subst this
      exact (hj (fr.par i p hi)).elim
    · exact z
  have hsub : ∀ a, a ∈ O.filter (fun a => decide (a ≠ p)) → a ∈ O := fun a ha => (List.mem_filter.mp ha).1
  have hno : p ∉ O.filter (fun a => decide (a ≠ p)) := fun z => (of_decide_eq_true (List.mem_filter.mp z).2) rfl
  have hin : ∀ a, a ∈ O → a ≠ p → a ∈ O.filter (fun a => decide (a ≠ p)) := fun a ha hn => List.mem_filter.mpr ⟨ha, decide_eq_true hn⟩
  have sm : Same (Wo H O) (Wo H (O.filter (fun a => decide (a ≠ p)))) := wo_sub hsub
  have go : ∀ i xs, getE (setE env j (some (.d (.list ds)))) i = some (.o xs) → i ≠ j ∧ getE env i = some (.o xs) := fun i xs q => by
    rw [get_set] at q
    split at q
    · first | (split at q <;> cases q) | cases q
    · exact ⟨by assumption, q⟩
  refine ⟨O.filter (fun a => decide (a ≠ p)), ⟨by rw [setE_len]; exact e.len, fun i x q => ?_, fun i xs q => ?_, fun i m q => ?_, fun i m xs ys a q1 q2 r1 r2 => ?_, fun a ha => e.live a (hsub a ha), fun a ha => ?_, fun a ha => e.new a (hsub a ha), e.keep, fun i xs a q r => ?_, fun i a q => ?_, ?_⟩, ⟨Chg.refl.d, fun a ha => .inl (hsub a ha)⟩⟩
  · by_cases hij : i = j
    · subst hij
      rw [get_set_same hl] at q; cases q
      exact ⟨.ref p, h1, .lst (.inl (.inl (by rw [wo_out hno]; exact h3))) (dps_mono sm h4)⟩
    · rw [get_set_ne hij] at q
      obtain ⟨v, g1, g2⟩ := e.dat i x q
      exact ⟨v, g1, dp_mono sm g2⟩
  · obtain ⟨hij, q⟩ := go i xs q
    obtain ⟨a, us, g1, g2, g3, g4⟩ := e.own i xs q
    have ne : a ≠ p := fun z => by subst z; exact hij (e.inj i j _ _ _ q h g1 h1)
    exact ⟨a, us, g1, hin a g2 ne, g3, dps_mono sm g4⟩
  · rw [get_set] at q
    split at q
    · first | (split at q <;> cases q) | cases q
    · exact e.nob i m q
  · obtain ⟨_, q1⟩ := go i xs q1
    obtain ⟨_, q2⟩ := go m ys q2
    exact e.inj i m _ _ a q1 q2 r1 r2
  · refine hin a (e.sub a ha) fun z => ?_
    subst z
    exact fr.lv _ ha hH0
  · obtain ⟨_, q⟩ := go i xs q
    exact e.ownF i xs a q r
  · obtain ⟨g1, xs, g2⟩ := e.par i a q
    have hij : i ≠ j := fun z => by subst z; exact hj (fr.par i a q)
    exact ⟨g1, xs, by rw [get_set_ne hij]; exact g2⟩
  · refine e.dic.move (fun i kvs q => ?_) (fun a us q n => ⟨q, fun z => n (hsub a z)⟩) fun _ z => z
    rw [get_set] at q
    split at q
    · first | (split at q <;> cases q) | cases q
    · exact ⟨q, rfl⟩
theorem tss_frz {sts : List Stmt} {j : Nat} {ss : Ss} (hj : j ∉ R) (h : PSs X sts (TSsof X.K Wx R ss)) : PSs X sts (TSsof X.K Wx R (.cons (.frz j) ss)) :=
  pss_weak h fun D σ H ⟨F, O, env, fr, eo, hw⟩ => by
    unfold wSs wS at hw
    split at hw
    · rename_i ds hg
      obtain ⟨O', e', x⟩ := EnvOk.freeze fr hj eo hg
      exact ⟨F, O', _, fr, e', wSs_mx ss (xends_ext x) (ends_ext x) hw⟩
    · exact hw.elim
theorem ts_ite {c : Expr} {a b : List Stmt} {ec : E} {sa sb : Ss} (hc : PT X c (TTof X.K ec)) (ha : PSs X a (TSsof X.K Wx R sa)) (hb : PSs X b (TSsof X.K Wx R sb)) : PS X (.If c a b pos) (TSof X.K Wx R (.ite ec sa sb)) :=
  ps_weak (ps_if hc ha hb) fun D σ H ⟨F, O, env, fr, eo, hw⟩ => tt_then (q := fun t env1 => if t = true then wSs (xends X.K F O H Wx) sa env1 _ else wSs (xends X.K F O H Wx) sb env1 _) eo hw fun t env1 H1 q1 e1 c1 =>
    ite_mono (fun q => ⟨F, O, env1, fr, e1, wSs_mx sa (xends_ext (.of c1)) (ends_ext (.of c1)) q⟩) (fun q => ⟨F, O, env1, fr, e1, wSs_mx sb (xends_ext (.of c1)) (ends_ext (.of c1)) q⟩) q1
theorem for_red {K : PySem.W.Frag} {tg : Tg} {it : PF.It} {body : Ss} (hsl : ∀ i ∈ tgSlots tg, i ∉ R) {D : Ends} {σ : L2.St} {H : Hp} (h : TSof K Wx R (.forS tg it body) D σ H) : tFor (TIof K it) (TGof K tg) (TSsof K Wx R body) D σ H := by
  obtain ⟨F, O, env, fr, eo, hw⟩ := h
  unfold wS at hw
  refine ⟨F, O, env, eo, wIt_mono it (fun items env1 q J H1 e1 c1 wk hl => ?_) hw⟩
  refine ⟨fun i m σ' H' => ∃ env' O', EnvOk K F O' H' σ' env' ∧ Ext O H1 O' H' ∧ i ≤ items.length ∧ m = items.length - i ∧ forW (fun e D' => wSs (xends K F O H Wx) body e D') tg (ends K F O H D) (items.drop i) env',
    ⟨items.length - 0, env1, O, e1, .refl, Nat.zero_le _, rfl, q⟩, ?_⟩
  rintro i m σ' H' ⟨env', O', e', x, hil, rfl, q⟩
  have W := wk O' H' x e'.liveN i
  have x0 : Ext O H O' H' := Ext.trans (.of c1) x
  by_cases hi : i < items.length
  · have hx : items[i]? = some items[i] := List.getElem?_eq_getElem hi
    obtain ⟨go, yl⟩ := W.1 _ hx
    rw [drop_get hx] at q
    refine .inr ⟨go, _, fun σ2 H2 z => ⟨items.length - (i + 1), by omega, z⟩, fun v H'' hy => ?_⟩
    obtain ⟨sm, dx⟩ := yl v H'' hy
    have xs : Ext O' H' O' H'' := .of fun a o h _ => sm a o h
    unfold forW at q
    refine tg_ok (e'.grow sm) dx q (fun i hi => fr.no (hsl i hi)) ?_
    rintro σ2 env2 _ q2 e2
    refine ⟨F, O', env2, fr, e2, wSs_mx body (D := { (ends K F O H D) with nx := forW (fun e D' => wSs (xends K F O H Wx) body e D') tg (ends K F O H D) (items.drop (i + 1)), ct := forW (fun e D' => wSs (xends K F O H Wx) body e D') tg (ends K F O H D) (items.drop (i + 1)), bk := (ends K F O H D).nx }) (xends_ext (x0.trans xs)) ⟨fun env3 q3 σ3 H3 O3 e3 x3 => ?_, fun _ _ h => h, fun env3 q3 σ3 H3 O3 e3 x3 => ?_, fun env3 q3 σ3 H3 O3 e3 x3 => ?_⟩ q2⟩
    · exact ⟨env3, O3, e3, (x.trans xs).trans x3, hi, rfl, q3⟩
    · exact q3 σ3 H3 O3 e3 ((x0.trans xs).trans x3)
    · exact ⟨env3, O3, e3, (x.trans xs).trans x3, hi, rfl, q3⟩
  · have hie : i = items.length := by omega
    subst hie
    rw [List.drop_length] at q
    exact .inl ⟨W.2 (Nat.le_refl _), q σ' H' O' e' x0⟩
theorem while_red {K : PySem.W.Frag} {c : E} {body : Ss} {D : Ends} {σ : L2.St} {H : Hp} (h : TSof K Wx R (.whl c body) D σ H) : tWhile (TTof K c) (TSsof K Wx R body) D σ H := by
  obtain ⟨F, O, env, fr, eo, hw⟩ := h
  unfold wS whileW at hw
  obtain ⟨W, ⟨m0, w0⟩, turn⟩ := hw
  refine ⟨fun m σ' H' => ∃ env' O', EnvOk K F O' H' σ' env' ∧ Ext O H O' H' ∧ W m env', ⟨m0, env, O, eo, .refl, w0⟩, ?_⟩
  rintro m σ' H' ⟨env', O', e', x, w⟩
  refine tt_then (q := fun b env1 => if b = true then ∃ N : AEnv → Prop, (∀ env', N env' → ∃ m', m' < m ∧ W m' env') ∧ wSs (xends K F O H Wx) body env1 { (ends K F O H D) with nx := N, ct := N, bk := (ends K F O H D).nx } else (ends K F O H D).nx env1) e' (turn m env' w) fun b env1 H1 q e1 c1 => ?_
  have x1 : Ext O H O' H1 := x.trans (.of c1)
  cases b with
  | true =>
    rw [if_pos rfl] at q ⊢
    obtain ⟨N, hN, q⟩ := q
    refine ⟨fun σ2 H2 => ∃ env2 O2, EnvOk K F O2 H2 σ2 env2 ∧ Ext O H O2 H2 ∧ N env2, ?_, ?_⟩
    · rintro σ2 H2 ⟨env2, O2, e2, x2, n2⟩
      obtain ⟨m', hm, w'⟩ := hN env2 n2
      exact ⟨m', hm, env2, O2, e2, x2, w'⟩
    · refine ⟨F, O', env1, fr, e1, wSs_mx body (D := { (ends K F O H D) with nx := N, ct := N, bk := (ends K F O H D).nx }) (xends_ext x1) ⟨fun env3 q3 σ3 H3 O3 e3 x3 => ?_, fun _ _ h => h, fun env3 q3 σ3 H3 O3 e3 x3 => ?_, fun env3 q3 σ3 H3 O3 e3 x3 => ?_⟩ q⟩
      · exact ⟨env3, O3, e3, x1.trans x3, q3⟩
      · exact q3 σ3 H3 O3 e3 (x1.trans x3)
      · exact ⟨env3, O3, e3, x1.trans x3, q3⟩
  | false =>
    rw [if_neg Bool.false_ne_true] at q ⊢
    exact q σ' H1 O' e1 x1
/-! ### several names at once -/
theorem par_rd {K : PySem.W.Frag} {is : List Nat} {es : Es} {D : Ends} {σ : L2.St} {H : Hp} (hsl : ∀ i ∈ is, i ∉ R) (h : TSof K Wx R (.par is es) D σ H) : TAof K es σ H fun vs H1 => vs.length = is.length ∧ D.nx (setsV σ is vs) H1 := by
  obtain ⟨F, O, env, fr, eo, hw⟩ := h
  refine ta_then eo hw fun rs env1 vs H1 q e1 c1 s1 => ?_
  obtain ⟨xs, ⟨hl, q⟩, hd⟩ := res_datas s1 q
  refine ⟨by rw [dps_len hd]; exact hl, ?_⟩
  have key : gsOf is vs σ H1 D.nx := gs_ok e1 hd hl (fun i hi => fr.no (hsl i hi)) fun e => q _ _ O e (.of c1)
  have un : ∀ {is : List Nat} {vs : List V} {σ : L2.St}, gsOf is vs σ H1 D.nx → vs.length = is.length → D.nx (setsV σ is vs) H1 := by
    intro is
    induction is with
    | nil => rintro vs σ ⟨rfl, h⟩ _; exact h
    | cons i is ih => rintro vs σ ⟨v, r, rfl, h⟩ hl; exact ih h (by simpa using hl)
  exact un key (by rw [dps_len hd]; exact hl)
theorem par_tup {K : PySem.W.Frag} {is : List Nat} {es : Es} {D : Ends} {σ : L2.St} {H : Hp} (hsl : ∀ i ∈ is, i ∉ R) (h : TSof K Wx R (.par is es) D σ H) : tAsg (TEof K (.tup es)) (TGof K (.tp is)) D σ H := by
  obtain ⟨F, O, env, fr, eo, hw⟩ := h
  refine ⟨F, O, env, eo, ?_⟩
  unfold wS at hw
  unfold wE
  refine wEs_mono es (fun rs env1 q => datasK_mono (fun xs q v H1 e1 c1 s1 a1 => ?_) q) hw
  exact tg_ok (tg := .tp is) (k := (ends K F O H D).nx) e1 s1 q (fun i hi => fr.no (hsl i hi)) fun σ2 env2 _ q2 e2 => q2 _ _ O e2 (.of c1)
theorem unp_red {K : PySem.W.Frag} {is : List Nat} {e : E} {D : Ends} {σ : L2.St} {H : Hp} (hsl : ∀ i ∈ is, i ∉ R) (h : TSof K Wx R (.unp is e) D σ H) : tAsg (TEof K e) (TGof K (.tp is)) D σ H := by
  obtain ⟨F, O, env, fr, eo, hw⟩ := h
  refine te_then eo hw fun r env1 v H1 q e1 c1 s1 a1 => ?_
  split at q
  · exact tg_ok (k := (ends K F O H D).nx) e1 s1 q (fun i hi => fr.no (hsl i hi)) fun σ2 env2 _ q2 e2 => q2 _ _ O e2 (.of c1)
  · exact q.elim
/-- a new tuple of a new list and data, taken apart -/
theorem unpP_red {K : PySem.W.Frag} {i j : Nat} {e : E} {D : Ends} {σ : L2.St} {H : Hp} (hsl : ∀ x ∈ [i, j], x ∉ R) (h : TSof K Wx R (.unpP i j e) D σ H) : tAsg (TEof K e) (TGof K (.tp [i, j])) D σ H := by
  obtain ⟨F, O, env, fr, eo, hw⟩ := h
  refine te_then eo hw fun r env1 v H1 q e1 c1 s1 a1 => ?_
  cases r with
  | d x => exact q.elim
  | o x => exact q.elim
  | b x => exact q.elim
  | m x => exact q.elim
  | p ds x =>
    obtain ⟨a, p, vs, w, rfl, n, no, hq, np, nop, hp, hd, hw⟩ := s1
    have av := a1 a p w rfl hq
    have e2 := e1.setO (fr.no (hsl i (by simp))) (eo.fresh0 np) nop hp hd (.inr trivial) av.dat av.own
    refine ⟨a, [.ref p, w], rfl, .inl (.inl hq), rfl, .ref p, [w], rfl, w, [], rfl, rfl, ?_⟩
    refine q _ _ (p :: O) (e2.setD (fr.no (hsl j (by simp))) hw) ⟨c1.d, fun b hb => ?_⟩
    rcases List.mem_cons.mp hb with z | z
    · subst z; exact .inr np
    · exact .inl z
/-- the list of a slot leaves -/
theorem EnvOk.leave {K : PySem.W.Frag} {O : List Addr} {H : Hp} {σ : L2.St} {env : AEnv} (fr : FR F R) {j : Nat} {ds : List PyData} (hj : j ∉ R) (e : EnvOk K F O H σ env) (h : getE env j = some (.o ds)) : ∃ O' p vs, σ[j]? = some (some (.ref p)) ∧ F.H0 p = none ∧ p ∉ O' ∧ H p = some (.lst vs) ∧ DpAll K (Wo H O) vs ds ∧ (∀ a, a ∈ O ↔ a = p ∨ a ∈ O') ∧ EnvOk K F O' H σ (setE env j none) ∧ Av K O' p H σ (setE env j none) := by
  obtain ⟨p, vs, h1, h2, h3, h4⟩ := e.own j ds h
  have hl := getE_len h
  have hH0 : F.H0 p = none := by
    rcases e.ownF j ds p h h1 with ⟨i, hi⟩ | z
    · obtain ⟨g1, xs, g2⟩ := e.par i p hi
      have : i = j := e.inj i j _ _ p g2 h g1 h1
      subst this
      exact (hj (fr.par i p hi)).elim
    · exact z
  have hsub : ∀ a, a ∈ O.filter (fun a => decide (a ≠ p)) → a ∈ O := fun a ha => (List.mem_filter.mp ha).1
  have hno : p ∉ O.filter (fun a => decide (a ≠ p)) := fun z => (of_decide_eq_true (List.mem_filter.mp z).2) rfl
  have hin : ∀ a, a ∈ O → a ≠ p → a ∈ O.filter (fun a => decide (a ≠ p)) := fun a ha hn => List.mem_filter.mpr ⟨ha, decide_eq_true hn⟩
  have sm : Same (Wo H O) (Wo H (O.filter (fun a => decide (a ≠ p)))) := wo_sub hsub
  have sm2 : Same (Wo H O) (Wo H (p :: O.filter (fun a => decide (a ≠ p)))) := wo_sub fun a ha => by
    rcases List.mem_cons.mp ha with z | z
    · rw [z]; exact h2
    · exact hsub a z
  have go : ∀ i x, getE (setE env j none) i = some x → i ≠ j ∧ getE env i = some x := fun i x q => by
    rw [get_set] at q
    split at q
    · first | (split at q <;> cases q) | cases q
    · exact ⟨by assumption, q⟩
  have own : ∀ i xs, getE (setE env j none) i = some (.o xs) → ∃ a us, σ[i]? = some (some (.ref a)) ∧ a ∈ O.filter (fun a => decide (a ≠ p)) ∧ H a = some (.lst us) ∧ DpAll K (Wo H O) us xs := fun i xs q => by
    obtain ⟨hij, q⟩ := go i _ q
    obtain ⟨a, us, g1, g2, g3, g4⟩ := e.own i xs q
    have ne : a ≠ p := fun z => by subst z; exact hij (e.inj i j _ _ _ q h g1 h1)
    exact ⟨a, us, g1, hin a g2 ne, g3, g4⟩
  refine ⟨O.filter (fun a => decide (a ≠ p)), p, vs, h1, hH0, hno, h3, h4, fun a => ⟨fun ha => ?_, fun ha => ?_⟩, ⟨by rw [setE_len]; exact e.len, fun i x q => ?_, fun i xs q => ?_, fun i m q => ?_, fun i m xs ys a q1 q2 r1 r2 => ?_, fun a ha => e.live a (hsub a ha), fun a ha => ?_, fun a ha => e.new a (hsub a ha), e.keep, fun i xs a q r => ?_, fun i a q => ?_, ?_⟩, ⟨fun i x q => ?_, fun i xs q => ?_⟩⟩
  · by_cases z : a = p
    · exact .inl z
    · exact .inr (hin a ha z)
  · rcases ha with z | z
    · rw [z]; exact h2
    · exact hsub a z
  · obtain ⟨v, g1, g2⟩ := e.dat i x (go i _ q).2
    exact ⟨v, g1, dp_mono sm g2⟩
  · obtain ⟨a, us, g1, g2, g3, g4⟩ := own i xs q
    exact ⟨a, us, g1, g2, g3, dps_mono sm g4⟩
  · exact e.nob i m (go i _ q).2
  · exact e.inj i m _ _ a (go i _ q1).2 (go m _ q2).2 r1 r2
  · refine hin a (e.sub a ha) fun z => ?_
    subst z
    exact fr.lv _ ha hH0
  · exact e.ownF i xs a (go i _ q).2 r
  · obtain ⟨g1, xs, g2⟩ := e.par i a q
    have hij : i ≠ j := fun z => by subst z; exact hj (fr.par i a q)
    exact ⟨g1, xs, by rw [get_set_ne hij]; exact g2⟩
  · exact e.dic.move (fun i kvs q => ⟨(go i _ q).2, rfl⟩) (fun a us q n => ⟨q, fun z => n (hsub a z)⟩) fun _ z => z
  · obtain ⟨v, g1, g2⟩ := e.dat i x (go i _ q).2
    exact ⟨v, g1, dp_mono sm2 g2⟩
  · obtain ⟨a, us, g1, g2, g3, g4⟩ := own i xs q
    exact ⟨a, us, g1, g2, g3, dps_mono sm2 g4⟩
theorem retP_red {K : PySem.W.Frag} {j : Nat} {e : E} {D : Ends} {σ : L2.St} {H : Hp} (hj : j ∉ R) (h : TSof K Wx R (.retP j e) D σ H) : tRet (tTup (tCons (tVar j) (tCons (TEof K e) tNil))) D σ H := by
  obtain ⟨F, O, env, fr, eo, hw⟩ := h
  unfold wS at hw
  split at hw
  · rename_i ds0 hg
    obtain ⟨p, vs0, h1, h2, h3, h4⟩ := eo.own j ds0 hg
    refine ⟨.ref p, h1, ?_⟩
    refine te_then eo hw fun r env1 v H1 q e1 c1 s1 a1 => ?_
    obtain ⟨x, q, hx⟩ := res_data s1 q
    split at q
    · rename_i ds hg1
      obtain ⟨O', p', vs, g1, g2, g3, g4, g5, g6, g7, g8⟩ := e1.leave fr hj hg1
      rw [h1] at g1; cases g1
      refine ⟨by simp [sizeLine_eq], fun a ha => ?_⟩
      have nap : p ≠ a := fun z => by subst z; rw [g4] at ha; cases ha
      have sm : Same (Wo H1 O) (Wo H1 (p :: O')) := wo_sub fun z hz => (g6 z).mpr (List.mem_cons.mp hz)
      have cw : Same (Wo H1 (p :: O')) (Wo (upd H1 a (.tup [.ref p, v])) (p :: O')) := (chg_new ha).wo
      refine q (.ref a) σ _ O' (g7.grow (same_new ha)) ⟨a, p, vs, v, rfl, e1.fresh0 ha, g7.notO ha, upd_same, g2, g3, by rw [upd_ne nap]; exact g4, dps_mono cw (dps_mono sm g5), dp_mono cw (dp_mono sm hx)⟩ ?_
      intro q2 p2 w2 e2 hq2
      cases e2
      rw [upd_same] at hq2
      cases hq2
      refine ⟨fun i y z => ?_, fun i ys z => ?_⟩
      · obtain ⟨u, z1, z2⟩ := g8.dat i y z
        exact ⟨u, z1, dp_mono cw z2⟩
      · obtain ⟨b, us, z1, z2, z3, z4⟩ := g8.own i ys z
        exact ⟨b, us, z1, z2, by rw [upd_ne (ne_of_none z3 ha)]; exact z3, dps_mono cw z4⟩
    · exact q.elim
  · exact hw.elim
/-! ### lists changed in place -/
theorem own_at {K : PySem.W.Frag} {O : List Addr} {H : Hp} {σ : L2.St} {env : AEnv} {j : Nat} {ds : List PyData} (e : EnvOk K F O H σ env) (h : getE env j = some (.o ds)) : ∃ p vs, σ[j]? = some (some (.ref p)) ∧ p ∈ O ∧ H p = some (.lst vs) ∧ DpAll K (Wo H O) vs ds := e.own j ds h
theorem put_ok {K : PySem.W.Frag} {O : List Addr} {H H1 : Hp} {σ : L2.St} {env1 : AEnv} {j : Nat} {ds ds' : List PyData} {p : Addr} {vs' : List V} {D : Ends} (e1 : EnvOk K F O H1 σ env1) (c1 : Chg O H H1) (h : getE env1 j = some (.o ds)) (hp : σ[j]? = some (some (.ref p))) (hO : p ∈ O) (hd : DpAll K (Wo H1 O) vs' ds')
    (q : (ends K F O H D).nx (setE env1 j (some (.o ds')))) : D.nx σ (upd H1 p (.lst vs')) := by
  have c2 : Chg O H1 (upd H1 p (.lst vs')) := fun a o z n => by
    rw [upd_ne (fun w => n (by rw [w]; exact hO))]
    exact z
  exact q σ _ O (e1.put h hp c2 (fun a o z ne => by rw [upd_ne ne]; exact z) upd_same (dps_mono c2.wo hd)) (.of (c1.trans c2))
theorem append_red {j : Nat} {e : E} {D : Ends} {σ : L2.St} {H : Hp} {K : PySem.W.Frag} (h : TSof K Wx R (.append j e) D σ H) : tDrop (tBM K "list" rAppend (tVar j) (tCons (TEof K e) tNil)) D σ H := by
  obtain ⟨F, O, env, fr, eo, hw⟩ := h
  unfold wS at hw
  split at hw
  · rename_i ds0 hg
    obtain ⟨p, vs, h1, h2, h3, h4⟩ := eo.own j _ hg
    refine ⟨.ref p, h1, .inl ⟨rfl, vs, .inl (.inl h3)⟩, te_then eo hw fun r env1 v H1 q e1 c1 s1 a1 => ?_⟩
    obtain ⟨x, q, hx⟩ := res_data s1 q
    split at q
    · rename_i ds hg1
      obtain ⟨p', vs', g1, g2, g3, g4⟩ := e1.own j ds hg1
      rw [h1] at g1; cases g1
      exact ⟨p, vs', v, rfl, rfl, g3, by rw [dps_len g4]; exact q.1, put_ok e1 c1 hg1 h1 g2 (dps_append g4 (.cons hx .nil)) q.2⟩
    · exact q.elim
  · exact hw.elim
theorem insert_red {j : Nat} {i e : E} {D : Ends} {σ : L2.St} {H : Hp} {K : PySem.W.Frag} (h : TSof K Wx R (.insert j i e) D σ H) : tDrop (tBM K "list" (fun x vs H Q => ∃ (l : Addr) (xs : List V) (i : Int) (y : V), x = .ref l ∧ vs = [.int i, y] ∧ H l = some (.lst xs) ∧ xs.length < sizeLine ∧ 0 ≤ i ∧ i < 2 ^ 63 ∧
    Q .non (upd H l (.lst (xs.take i.toNat ++ [y] ++ xs.drop i.toNat)))) (tVar j) (tCons (TEof K i) (tCons (TEof K e) tNil))) D σ H := by
  obtain ⟨F, O, env, fr, eo, hw⟩ := h
  unfold wS at hw
  split at hw
  · rename_i ds0 hg
    obtain ⟨p, vs, h1, h2, h3, h4⟩ := eo.own j _ hg
    refine ⟨.ref p, h1, .inl ⟨rfl, vs, .inl (.inl h3)⟩, te_then eo hw fun r env1 v H1 q e1 c1 s1 a1 => te_then e1 q fun r2 env2 v2 H2 q2 e2 c2 s2 a2 => ?_⟩
    obtain ⟨x, q2, hx⟩ := res_data s2 q2
    split at q2
    · rename_i n ds hg1 _
      cases (show Dp K _ v (.int _) from s1)
      obtain ⟨p', vs', g1, g2, g3, g4⟩ := e2.own j ds hg1
      rw [h1] at g1; cases g1
      obtain ⟨⟨b1, b2, b3⟩, q2⟩ := q2
      refine ⟨p, vs', n, v2, rfl, rfl, g3, by rw [dps_len g4]; exact b3, b1, b2, put_ok e2 (c1.trans c2) hg1 h1 g2 ?_ q2⟩
      rw [List.append_assoc]
      exact dps_append (dps_take _ g4) (.cons hx (dps_drop _ g4))
    · exact q2.elim
  · exact hw.elim
theorem setIx_red {j : Nat} {i e : E} {D : Ends} {σ : L2.St} {H : Hp} {K : PySem.W.Frag} (h : TSof K Wx R (.setIx j i e) D σ H) : tAsg (TEof K e) (gSub (tVar j) (TEof K i) rSetL) D σ H := by
  obtain ⟨F, O, env, fr, eo, hw⟩ := h
  refine te_then eo hw fun r env1 v H1 q e1 c1 s1 a1 => ?_
  obtain ⟨x, q, hx⟩ := res_data s1 q
  split at q
  · rename_i ds0 hg
    obtain ⟨p, vs, h1, h2, h3, h4⟩ := e1.own j _ hg
    refine ⟨.ref p, h1, te_then e1 q fun r2 env2 v2 H2 q2 e2 c2 s2 a2 => ?_⟩
    split at q2
    · rename_i n ds hg1
      cases (show Dp K _ v2 (.int _) from s2)
      obtain ⟨p', vs', g1, g2, g3, g4⟩ := e2.own j ds hg1
      rw [h1] at g1; cases g1
      obtain ⟨⟨b1, b2⟩, q2⟩ := q2
      have hix : ixN vs'.length n = some n.toNat := by
        unfold ixN
        rw [if_pos b1, if_pos (by rw [dps_len g4]; exact b2)]
      exact ⟨p, vs', n, n.toNat, rfl, rfl, g3, hix, put_ok e2 (c1.trans c2) hg1 h1 g2 (dps_set (dp_mono c2.wo hx) _ g4) q2⟩
    · exact q2.elim
  · exact q.elim
/-! ### x op= e -/
def ipOf : BOp → TIp
  | .add => ipI fun i j => i + j
  | .sub => ipI fun i j => i - j
  | .mul => fun x y H Q => ∃ i j, x = .int i ∧ y = .int j ∧ mulOk i j ∧ Q (.int (i * j)) H
  | _ => fun _ _ _ _ => False
theorem ip_of (op : BOp) : PIp X (opOf op) (ipOf op) := by
  cases op with
  | add => exact ip_add
  | sub => exact ip_sub
  | mul =>
    intro pins s σ H x y v u Q I r1 r2 h
    obtain ⟨i, j, rfl, rfl, hm, q⟩ := h
    obtain ⟨t, rfl⟩ := r1
    obtain ⟨t', rfl⟩ := r2
    exact imul_int ⟨.int _, H, I.tok _, ⟨_, rfl⟩, q⟩ (CMulW.ok hm)
  | fdiv => exact fun _ _ _ _ _ _ _ _ _ _ _ _ h => h.elim
  | mod => exact fun _ _ _ _ _ _ _ _ _ _ _ _ h => h.elim
  | pow => exact fun _ _ _ _ _ _ _ _ _ _ _ _ h => h.elim
  | shl => exact fun _ _ _ _ _ _ _ _ _ _ _ _ h => h.elim
  | band => exact fun _ _ _ _ _ _ _ _ _ _ _ _ h => h.elim
def augOk : BOp → Bool
  | .add => true
  | .sub => true
  | .mul => true
  | _ => false
theorem aug_red {K : PySem.W.Frag} {i : Nat} {op : BOp} {e : E} {D : Ends} {σ : L2.St} {H : Hp} (hop : augOk op = true) (hi : i ∉ R) (h : TSof K Wx R (.aug i op e) D σ H) : tAug i (TEof K e) (ipOf op) D σ H := by
  obtain ⟨F, O, env, fr, eo, hw⟩ := h
  unfold wS at hw
  split at hw
  · rename_i x hg
    obtain ⟨v0, h1, h2⟩ := eo.dat i x hg
    refine ⟨v0, h1, te_then eo hw fun r env1 v H1 q e1 c1 s1 a1 => ?_⟩
    split at q
    · rename_i y
      have hx := dp_mono c1.wo h2
      have s1 : Dp K (Wo H1 O) v y := s1
      have fin : ∀ z : Int, (ends K F O H D).nx (setE env1 i (some (.d (.int z)))) → D.nx (σ.set i (some (.int z))) H1 := fun z q => q _ _ O (e1.setD (fr.no hi) (.int z)) (.of c1)
      have itz : ∀ {op : BOp} {x y : PyData} {k : PyData → Prop}, augOk op = true → binK op x y (fun r => match r with | .d (.int z) => k (.int z) | _ => False) → ∃ m n : Int, x = .int m ∧ y = .int n := by
        intro op x y k ho q
        unfold binK at q
        split at q <;> first | exact ⟨_, _, rfl, rfl⟩ | exact (q.2 : False).elim | exact q.elim
      obtain ⟨m, n, rfl, rfl⟩ := itz (k := fun z => (ends K F O H D).nx (setE env1 i (some (.d z)))) hop q
      cases hx
      cases s1
      cases op with
      | add => exact ⟨_, _, rfl, rfl, fin _ q⟩
      | sub => exact ⟨_, _, rfl, rfl, fin _ q⟩
      | mul => exact ⟨_, _, rfl, rfl, q.1, fin _ q.2⟩
      | _ => cases hop
    · exact q.elim
  · exact hw.elim
end
end PF

set_option maxRecDepth 100000
set_option maxHeartbeats 4000000
/-! PN: lists of ranges, an item taken out, empty lists among several names -/
namespace PF
open PySem PySem.Spec PyProof.Rows L2
section
variable {X : Cx} {F : Fi} {p pos : Pos} {ea eb ec : E}
theorem star_call {f : Expr} {xs : List Expr} {p : Pos} {env : Env} : starEach [.Call f xs [] p] env = (false, eval (.Call f xs [] p) env) :: starEach [] env := rfl
theorem rg_dp {K : PySem.W.Frag} {H : Hp} {lo hi : Int} : DpAll K H (rgV lo hi) (rangeL lo hi) := by
  unfold rgV rangeL
  generalize List.range (hi - lo).toNat = l
  induction l with
  | nil => exact .nil
  | cons a l ih => exact .cons (.int _) ih
theorem te_lrg1 {a : Expr} {p2 pos2 : Pos} (hc : X.calm = true) (hl : Gl X "list") (hlm : X.mg "list" = none) (hg : Gl X "range") (hm : X.mg "range" = none) (ha : PE X a (TEof X.K ea)) (hs : starEach [a] X.env = (false, eval a X.env) :: starEach [] X.env) :
    PE X (.Call (.Name "list" p) [.Call (.Name "range" p2) [a] [] pos2] [] pos) (TEof X.K (.lrg1 ea)) :=
  pe_weak (pe_listRg hc hl hlm (prg_1 hg hm ha hs) (star_call)) fun σ H Q ⟨F, O, env, eo, hw⟩ => te_then eo hw fun r1 env1 v1 H1 q1 e1 c1 s1 a1 => by
    split at q1
    · rename_i n
      cases (show Dp X.K _ v1 (.int _) from s1)
      obtain ⟨⟨_, _, h1, h2, h3⟩, q⟩ := q1
      have h4 : sizeLine ≤ 2 ^ 24 := by decide +kernel
      refine ⟨n, rfl, ⟨by decide, by decide, by omega, by omega, by omega⟩, fun p hp => ?_⟩
      exact q _ _ (e1.grow (same_new hp)) (c1.trans (chg_new hp)) (res_new e1 hp c1 rg_dp) (avR_new e1 hp)
    · exact q1.elim
theorem te_lrg2 {a b : Expr} {p2 pos2 : Pos} (hc : X.calm = true) (hl : Gl X "list") (hlm : X.mg "list" = none) (hg : Gl X "range") (hm : X.mg "range" = none) (ha : PE X a (TEof X.K ea)) (hb : PE X b (TEof X.K eb)) (hs : starEach [a, b] X.env = (false, eval a X.env) :: starEach [b] X.env) (hs2 : starEach [b] X.env = (false, eval b X.env) :: starEach [] X.env) :
    PE X (.Call (.Name "list" p) [.Call (.Name "range" p2) [a, b] [] pos2] [] pos) (TEof X.K (.lrg2 ea eb)) :=
  pe_weak (pe_listRg hc hl hlm (prg_2 hg hm ha hb hs hs2 (by rw [hs2]; rfl)) (star_call)) fun σ H Q ⟨F, O, env, eo, hw⟩ => te_then eo hw fun r1 env1 v1 H1 q1 e1 c1 s1 a1 => te_then e1 q1 fun r2 env2 v2 H2 q2 e2 c2 s2 a2 => by
    split at q2
    · rename_i m n
      cases (show Dp X.K _ v1 (.int _) from s1)
      cases (show Dp X.K _ v2 (.int _) from s2)
      obtain ⟨⟨h1, h2, h3, h4, h5⟩, q⟩ := q2
      have h6 : sizeLine ≤ 2 ^ 24 := by decide +kernel
      refine ⟨m, n, rfl, rfl, ⟨by omega, by omega, by omega, by omega, by omega⟩, fun p hp => ?_⟩
      exact q _ _ (e2.grow (same_new hp)) ((c1.trans c2).trans (chg_new hp)) (res_new e2 hp (c1.trans c2) rg_dp) (avR_new e2 hp)
    · exact q2.elim
/-! ### ranges with a step -/
theorem rgC_ok {m n c : Int} (h : 0 < c ∧ c ≤ 1000000000 ∧ -1000000000 ≤ m ∧ m ≤ 1000000000 ∧ -1000000000 ≤ n ∧ n ≤ 1000000000) : RgC m n c (rangeCn m n c) := by
  obtain ⟨h1, h2, h3, h4, h5, h6⟩ := h
  have hs : Builtin.Range.rangeSize m n c = (rangeCn m n c : Int) := by
    unfold Builtin.Range.rangeSize rangeCn
    rw [if_pos h1]
    split
    · rename_i hmn
      have : 0 ≤ (n - m - 1) / c := Int.ediv_nonneg (by omega) (by omega)
      omega
    · rfl
  have hb : (rangeCn m n c : Int) ≤ 2000000000 := by
    unfold rangeCn
    split
    · have h7 : (n - m - 1) / c ≤ n - m - 1 := Int.ediv_le_self _ (by omega)
      omega
    · decide
  refine ⟨by omega, by omega, ?_, hs⟩
  unfold Builtin.Range.small
  rw [hs, if_pos h1]
  unfold Builtin.Range.rangeFitsLong
  simp only [Bool.and_eq_true, Bool.or_eq_true, decide_eq_true_eq]
  refine ⟨⟨⟨⟨⟨by omega, by omega⟩, by omega, by omega⟩, by omega, by omega⟩, by omega, by omega⟩, .inr ⟨by omega, by omega⟩⟩
theorem rangeC_get {lo hi c : Int} {i : Nat} {d : PyData} (h : (rangeCL lo hi c)[i]? = some d) : i < rangeCn lo hi c ∧ d = .int (lo + (i : Int) * c) := by
  unfold rangeCL at h
  rw [List.getElem?_map] at h
  cases q : (List.range (rangeCn lo hi c))[i]? with
  | none => rw [q] at h; cases h
  | some j =>
    rw [q] at h
    obtain ⟨h1, h2⟩ := List.getElem?_eq_some_iff.mp q
    rw [List.getElem_range] at h2
    subst h2
    cases h
    exact ⟨by simpa using h1, rfl⟩
theorem rangeC_len (lo hi c : Int) : (rangeCL lo hi c).length = rangeCn lo hi c := by simp [rangeCL]
theorem wk_rangeC {K : PySem.W.Frag} {O : List Addr} {H : Hp} {lo hi c : Int} : Wk K O H (Itc lo c (rangeCn lo hi c)) (rangeCL lo hi c) := by
  intro O' H' e lv i
  refine ⟨fun x hx => ?_, fun hi => by rw [rangeC_len] at hi; exact hi⟩
  obtain ⟨h1, rfl⟩ := rangeC_get hx
  refine ⟨h1, fun y H'' hy => ?_⟩
  obtain ⟨rfl, rfl⟩ := hy
  exact ⟨Same.refl _, .int _⟩
theorem ti_range3 {tg a b c : Expr} (hg : Gl X "range") (hm : X.mg "range" = none) (ha : PE X a (TEof X.K ea)) (hb : PE X b (TEof X.K eb)) (hc : PE X c (TEof X.K ec)) (hs : starEach [a, b, c] X.env = (false, eval a X.env) :: starEach [b, c] X.env) (hs2 : starEach [b, c] X.env = (false, eval b X.env) :: starEach [c] X.env) (hs3 : starEach [c] X.env = (false, eval c X.env) :: starEach [] X.env) :
    PI X tg (.Call (.Name "range" p) [a, b, c] [] pos) (TIof X.K (.range3 ea eb ec)) :=
  pi_weak (pi_range3 hg hm (pa_cons ha (pa_cons hb (pa_cons hc pa_nil hs3) hs2) hs) hs (by rw [hs2, hs3]; rfl)) fun σ H R ⟨F, O, env, eo, hw⟩ => te_then eo hw fun r1 env1 v1 H1 q1 e1 c1 s1 a1 => te_then e1 q1 fun r2 env2 v2 H2 q2 e2 c2 s2 a2 => te_then e2 q2 fun r3 env3 v3 H3 q3 e3 c3 s3 a3 => by
    split at q3
    · rename_i m n s
      cases (show Dp X.K _ v1 (.int _) from s1)
      cases (show Dp X.K _ v2 (.int _) from s2)
      cases (show Dp X.K _ v3 (.int _) from s3)
      obtain ⟨⟨h1, h2, h3, h4, h5, h6, h7⟩, q⟩ := q3
      have hl : (rangeCL m n s).length ≤ sizeLine := by rw [rangeC_len]; omega
      exact ⟨m, n, s, rangeCn m n s, rfl, rgC_ok ⟨h1, h2, h3, h4, h5, h6⟩, q _ H3 e3 ((c1.trans c2).trans c3) wk_rangeC hl⟩
    · exact q3.elim
def rgVC (i c : Int) (n : Nat) : List V := (List.range n).map fun k => V.int (i + (k : Nat) * c)
theorem rgC_dp {K : PySem.W.Frag} {H : Hp} {lo hi c : Int} : DpAll K H (rgVC lo c (rangeCn lo hi c)) (rangeCL lo hi c) := by
  unfold rgVC rangeCL
  generalize List.range (rangeCn lo hi c) = l
  induction l with
  | nil => exact .nil
  | cons a l ih => exact .cons (.int _) ih
theorem vals_rgC {a c : Int} {n : Nat} {acc : Array Value} (h : ItemsOf (fun i v => ∃ t, v = .int (a + i * c) t) acc n) : Vals (rgVC a c n) acc.toList := by
  have e : acc.toList.length = n := by rw [Array.length_toList]; exact h.1
  unfold rgVC
  rw [← e]
  refine vals_of_get acc.toList _ fun j u hj => ?_
  obtain ⟨t, rfl⟩ := h.2 j u (by rw [← hj, Array.getElem?_toList])
  exact ⟨t, rfl⟩
def tLst3 (ta : TA) : TE := fun σ H Q => ta σ H fun vs H1 => ∃ (i j c : Int) (n : Nat), vs = [.int i, .int j, .int c] ∧ RgC i j c n ∧ n < sizeLine ∧ ∀ q, H1 q = none → Q (.ref q) (upd H1 q (.lst (rgVC i c n)))
theorem pe_lst3 {a b c : Expr} {ta : TA} {p2 pos2 : Pos} (hcm : X.calm = true) (hl : Gl X "list") (hlm : X.mg "list" = none) (hg : Gl X "range") (hm : X.mg "range" = none) (ha : PA X [a, b, c] ta) (hs : starEach [a, b, c] X.env = (false, eval a X.env) :: starEach [b, c] X.env) (hpl : (backTo pos2 (starEach [b, c] X.env)).any (·.1) = false)
    (na : starEach [.Call (.Name "range" p2) [a, b, c] [] pos2] X.env = (false, eval (.Call (.Name "range" p2) [a, b, c] [] pos2) X.env) :: starEach [] X.env) :
    PE X (.Call (.Name "list" p) [.Call (.Name "range" p2) [a, b, c] [] pos2] [] pos) (tLst3 ta) := by
  refine ⟨fun pins s σ H Q I h => ?_⟩
  refine Call_ (ld_blt I hl hlm boot_list (PyProof.Rows.callWith_type1 (args_cons ?_ na) na))
  refine Call_ (ld_blt I hg hm boot_range (PyProof.Rows.callWith_type1 (thn (ha.run pos2 pins s σ H _ I h) fun us s1 ⟨vs, H1, I1, r1, q1⟩ => ?_) hs hpl))
  obtain ⟨i, j, k, n, e, ⟨c0, c1, c2, c3⟩, hn, q⟩ := q1
  subst e
  cases r1 with
  | cons r rr =>
    cases rr with
    | cons r' rr =>
      cases rr with
      | cons r'' rr =>
        cases rr
        obtain ⟨t, rfl⟩ := r
        obtain ⟨t', rfl⟩ := r'
        obtain ⟨t'', rfl⟩ := r''
        refine call_range_3 c0 ?_ (.inl (PyProof.noPylong_small c1))
        refine args_nil ?_
        have I2 : Inv X pins σ H1 { s1 with heap := s1.heap.push { cls := .type "range", data := .fields #[.int i t, .int j t', .int k t''] } } := I1.kept (t' := s1.toks) fun b o e => Heap.get?_push_of_some _ e
        have h6 : sizeLine ≤ 2 ^ 24 := by decide +kernel
        refine call_list_range (n := n) (I2.ok.hd hcm) (IsRange.new ..) c2 c3 (by omega) fun h' tk acc c' hk e' hi => ?_
        refine ⟨.ref _, upd H1 _ (.lst (rgVC i k n)), I2.laid hk (Nat.le_refl _) (show ObjOk X.prog X.w _ _ _ (.lst (rgVC i k n)) from ⟨?_, acc.toList, c', vals_rgC hi, ?_⟩), rfl, q _ (I2.hok.fresh (Nat.le_refl _))⟩
        · unfold rgVC
          rw [List.length_map, List.length_range]; omega
        · rw [Array.toArray_toList]; exact e'
theorem te_lrg3 {a b c : Expr} {p2 pos2 : Pos} (hcm : X.calm = true) (hl : Gl X "list") (hlm : X.mg "list" = none) (hg : Gl X "range") (hm : X.mg "range" = none) (ha : PE X a (TEof X.K ea)) (hb : PE X b (TEof X.K eb)) (hc : PE X c (TEof X.K ec)) (hs : starEach [a, b, c] X.env = (false, eval a X.env) :: starEach [b, c] X.env) (hs2 : starEach [b, c] X.env = (false, eval b X.env) :: starEach [c] X.env) (hs3 : starEach [c] X.env = (false, eval c X.env) :: starEach [] X.env) :
    PE X (.Call (.Name "list" p) [.Call (.Name "range" p2) [a, b, c] [] pos2] [] pos) (TEof X.K (.lrg3 ea eb ec)) :=
  pe_weak (pe_lst3 hcm hl hlm hg hm (pa_cons ha (pa_cons hb (pa_cons hc pa_nil hs3) hs2) hs) hs (by rw [hs2, hs3]; rfl) star_call) fun σ H R ⟨F, O, env, eo, hw⟩ => te_then eo hw fun r1 env1 v1 H1 q1 e1 c1 s1 a1 => te_then e1 q1 fun r2 env2 v2 H2 q2 e2 c2 s2 a2 => te_then e2 q2 fun r3 env3 v3 H3 q3 e3 c3 s3 a3 => by
    split at q3
    · rename_i m n s
      cases (show Dp X.K _ v1 (.int _) from s1)
      cases (show Dp X.K _ v2 (.int _) from s2)
      cases (show Dp X.K _ v3 (.int _) from s3)
      obtain ⟨⟨h1, h2, h3, h4, h5, h6, h7⟩, q⟩ := q3
      have cc := (c1.trans c2).trans c3
      refine ⟨m, n, s, rangeCn m n s, rfl, rgC_ok ⟨h1, h2, h3, h4, h5, h6⟩, h7, fun p hp => ?_⟩
      exact q _ _ (e3.grow (same_new hp)) (cc.trans (chg_new hp)) (res_new e3 hp cc rgC_dp) (avR_new e3 hp)
    · exact q3.elim
/-! ### an item taken out -/
theorem dps_erase {K : PySem.W.Frag} {H : Hp} : ∀ {vs : List V} {ds : List PyData} (n : Nat), DpAll K H vs ds → DpAll K H (vs.eraseIdx n) (ds.eraseIdx n)
  | _, _, _, .nil => by simpa using .nil
  | _, _, 0, .cons _ t => t
  | _, _, n + 1, .cons r t => .cons r (dps_erase n t)
theorem pop_red {K : PySem.W.Frag} {j : Nat} {i : E} {σ : L2.St} {H : Hp} {Q : VK} (h : TEof K (.pop j i) σ H Q) : tBM K "list" rPopAt (tVar j) (tCons (TEof K i) tNil) σ H Q := by
  obtain ⟨F, O, env, eo, hw⟩ := h
  unfold wE at hw
  split at hw
  · rename_i ds0 hg
    obtain ⟨p, vs, h1, h2, h3, h4⟩ := eo.own j _ hg
    refine ⟨.ref p, h1, .inl ⟨rfl, vs, .inl (.inl h3)⟩, te_then eo hw fun r env1 v H1 q e1 c1 s1 a1 => ?_⟩
    split at q
    · rename_i n ds hg1
      cases (show Dp K _ v (.int _) from s1)
      obtain ⟨p', vs', g1, g2, g3, g4⟩ := e1.own j ds hg1
      rw [h1] at g1; cases g1
      obtain ⟨⟨b1, b2⟩, q⟩ := q
      split at q
      · rename_i x hx
        obtain ⟨y, hy, hd⟩ := dps_get g4 hx
        have hlt : n.toNat < vs'.length := (List.getElem?_eq_some_iff.mp hy).1
        have c2 : Chg O H1 (upd H1 p (.lst (vs'.eraseIdx n.toNat))) := fun a o z m => by
          rw [upd_ne (fun w => m (by rw [w]; exact g2))]
          exact z
        have hix : seqIndex? n vs'.length = some n.toNat := by
          have h5 : ¬ n < 0 := by omega
          have h6 : (0 : Int) ≤ n ∧ n < vs'.length := by omega
          simp [seqIndex?, h5, h6]
        refine ⟨p, vs', n, n.toNat, y, rfl, rfl, g3, by omega, b2, hix, hy, ?_⟩
        exact q y _ (e1.put hg1 h1 c2 (fun a o z ne => by rw [upd_ne ne]; exact z) upd_same (dps_mono c2.wo (dps_erase _ g4))) (c1.trans c2) (dp_mono c2.wo hd) trivial
      · exact q.elim
    · exact q.elim
  · exact hw.elim
/-! ### several names at once, the last ones get empty lists -/
def TNils : Nat → TA
  | 0 => tNil
  | n + 1 => tCons (tLst tNil) (TNils n)
def TNof (K : PySem.W.Frag) : Es → Nat → TA
  | .nil, n => TNils n
  | .cons e es, n => tCons (TEof K e) (TNof K es n)
inductive Frs : Nat → Hp → List V → Hp → Prop
  | nil {H : Hp} : Frs 0 H [] H
  | cons {n : Nat} {H H' : Hp} {p : Addr} {vs : List V} (h : H p = none) (t : Frs n (upd H p (.lst [])) vs H') : Frs (n + 1) H (.ref p :: vs) H'
theorem tnils {σ : L2.St} : ∀ {n : Nat} {H : Hp} {Q : List V → Hp → Prop}, (∀ vs H', Frs n H vs H' → Q vs H') → TNils n σ H Q
  | 0, H, Q, h => h [] H .nil
  | n + 1, H, Q, h => ⟨Nat.zero_le _, fun p hp => tnils (n := n) fun vs H' f => h _ _ (.cons hp f)⟩
theorem tn_then {K : PySem.W.Frag} {σ : L2.St} {O : List Addr} {n : Nat} : ∀ {es : Es} {H : Hp} {env : AEnv} {q : List AV → AEnv → Prop} {Q : List V → Hp → Prop}, EnvOk K F O H σ env → wEs es env q X0 →
    (∀ rs env1 vs H1, q rs env1 → EnvOk K F O H1 σ env1 → Chg O H H1 → ResAll K O H H1 σ vs rs → ∀ ws H2, Frs n H1 ws H2 → Q (vs ++ ws) H2) → TNof K es n σ H Q
  | .nil, H, env, q, Q, eo, hw, k => tnils (n := n) fun ws H2 f => k [] env [] H hw eo .refl trivial ws H2 f
  | .cons e es, H, env, q, Q, eo, hw, k => te_then eo hw fun r1 env1 v1 H1 q1 e1 c1 s1 a1 => tn_then (es := es) e1 q1 fun rs env2 vs H2 q2 e2 c2 s2 ws H3 f =>
      k (r1 :: rs) env2 (v1 :: vs) H2 q2 e2 (c1.trans c2) ⟨s1.chg c2, s2.back c1⟩ ws H3 f
theorem setsV_app : ∀ {is js : List Nat} {vs ws : List V} {σ : L2.St}, vs.length = is.length → setsV σ (is ++ js) (vs ++ ws) = setsV (setsV σ is vs) js ws
  | [], js, [], ws, σ, _ => rfl
  | [], js, _ :: _, ws, σ, h => by simp at h
  | _ :: _, js, [], ws, σ, h => by simp at h
  | i :: is, js, v :: vs, ws, σ, h => by
    show setsV (σ.set i (some v)) (is ++ js) (vs ++ ws) = setsV (setsV (σ.set i (some v)) is vs) js ws
    exact setsV_app (σ := σ.set i (some v)) (by simpa using h)
theorem frs_ok {K : PySem.W.Frag} : ∀ {js : List Nat} {O : List Addr} {H H' : Hp} {σ : L2.St} {env : AEnv} {ws : List V}, EnvOk K F O H σ env → Frs js.length H ws H' → (∀ i ∈ js, ∀ p, F.par i ≠ some p) → ∃ O', EnvOk K F O' H' (setsV σ js ws) (setNils js env) ∧ Ext O H O' H'
  | [], O, H, H', σ, env, ws, e, f, hp => by
    cases f
    exact ⟨O, e, .refl⟩
  | j :: js, O, H, H', σ, env, ws, e, f, hp => by
    cases f with
    | cons h t =>
      rename_i p vs
      have no := e.notO h
      have av := av_new (o := .lst []) e h
      have e1 := (e.grow (same_new (o := .lst []) h)).setO (hp j List.mem_cons_self) (e.fresh0 h) no upd_same (.nil : DpAll K _ [] []) (.inr trivial) av.dat av.own
      obtain ⟨O', e2, x⟩ := frs_ok (js := js) e1 t fun i hi => hp i (List.mem_cons_of_mem _ hi)
      refine ⟨O', e2, Ext.trans ⟨(chg_new h).d, fun a ha => ?_⟩ x⟩
      rcases List.mem_cons.mp ha with z | z
      · subst z; exact .inr h
      · exact .inl z
theorem frs_len : ∀ {n : Nat} {H H' : Hp} {vs : List V}, Frs n H vs H' → vs.length = n
  | _, _, _, _, .nil => rfl
  | _, _, _, _, .cons _ t => by rw [List.length_cons, frs_len t]
theorem parN_rd {K : PySem.W.Frag} {R : List Nat} {Wx : WX} {is js : List Nat} {es : Es} {D : Ends} {σ : L2.St} {H : Hp} (hsl : ∀ i ∈ is ++ js, i ∉ R) (h : TSof K Wx R (.parN is es js) D σ H) : TNof K es js.length σ H fun vs H1 => vs.length = (is ++ js).length ∧ D.nx (setsV σ (is ++ js) vs) H1 := by
  obtain ⟨F, O, env, fr, eo, hw⟩ := h
  refine tn_then eo hw fun rs env1 vs H1 q e1 c1 s1 ws H2 f => ?_
  obtain ⟨xs, ⟨hl, q⟩, hd⟩ := res_datas s1 q
  have hv : vs.length = is.length := by rw [dps_len hd]; exact hl
  refine ⟨by rw [List.length_append, List.length_append, hv, frs_len f], ?_⟩
  rw [setsV_app hv]
  have e2 : EnvOk K F O H1 (setsV σ is vs) (setMany is xs env1) := by
    have gen : ∀ {is : List Nat} {vs : List V} {xs : List PyData} {σ : L2.St} {env : AEnv}, EnvOk K F O H1 σ env → DpAll K (Wo H1 O) vs xs → xs.length = is.length → (∀ i ∈ is, ∀ p, F.par i ≠ some p) → EnvOk K F O H1 (setsV σ is vs) (setMany is xs env) := by
      intro is
      induction is with
      | nil =>
        intro vs xs σ env e d hl _
        cases d with
        | nil => exact e
        | cons _ _ => simp at hl
      | cons i is ih =>
        intro vs xs σ env e d hl hp
        cases d with
        | nil => simp at hl
        | cons h t => exact ih (e.setD (hp i List.mem_cons_self) h) t (by simpa using hl) fun j hj => hp j (List.mem_cons_of_mem _ hj)
    exact gen e1 hd hl fun i hi => fr.no (hsl i (List.mem_append_left _ hi))
  obtain ⟨O', e3, x⟩ := frs_ok (js := js) e2 f fun i hi => fr.no (hsl i (List.mem_append_right _ hi))
  exact q _ _ O' e3 (Ext.trans (.of c1) x)
/-! ### two names at once, the first one may get a new list -/
/-- a new list is held for its name -/
theorem EnvOk.adopt {K : PySem.W.Frag} {O : List Addr} {H0 H : Hp} {σ : L2.St} {env0 env : AEnv} (e0 : EnvOk K F O H0 σ env0) (e : EnvOk K F O H σ env) {p : Addr} {us : List V} (hf : H0 p = none) (hp : H p = some (.lst us)) (av : Av K O p H σ env) : EnvOk K F (p :: O) H σ env where
  len := e.len
  dat := av.dat
  own := fun i ds h => by
    obtain ⟨a, vs, h1, h2, h3, h4⟩ := av.own i ds h
    exact ⟨a, vs, h1, List.mem_cons_of_mem _ h2, h3, h4⟩
  nob := e.nob
  inj := e.inj
  live := fun a ha => by
    rcases List.mem_cons.mp ha with h | h
    · subst h; exact ⟨_, hp⟩
    · exact e.live a h
  sub := fun a ha => List.mem_cons_of_mem _ (e.sub a ha)
  new := fun a ha => by
    rcases List.mem_cons.mp ha with h | h
    · subst h; exact .inr (e0.fresh0 hf)
    · exact e.new a h
  keep := e.keep
  ownF := e.ownF
  par := e.par
  dic := e.dic.move (fun i kvs q => ⟨q, rfl⟩) (fun a us q n => ⟨q, fun z => by
    rcases List.mem_cons.mp z with z | z
    · rw [z, hp] at q; cases q
    · exact n z⟩) fun _ z => z
/-- a slot gets a list that is held already -/
theorem EnvOk.setP {K : PySem.W.Frag} {O : List Addr} {H : Hp} {σ : L2.St} {env : AEnv} (e : EnvOk K F O H σ env) {i : Nat} {p : Addr} {vs : List V} {ds : List PyData} (hi : ∀ a, F.par i ≠ some a) (hf : F.H0 p = none) (hO : p ∈ O) (hp : H p = some (.lst vs)) (hd : DpAll K (Wo H O) vs ds)
    (hn : ∀ j xs a, getE env j = some (.o xs) → σ[j]? = some (some (.ref a)) → a ≠ p) : EnvOk K F O H (σ.set i (some (.ref p))) (setE env i (some (.o ds))) := by
  have gs : ∀ j, j ≠ i → (σ.set i (some (V.ref p)))[j]? = σ[j]? := fun j hj => List.getElem?_set_ne (Ne.symm hj)
  have ge : ∀ j w, getE (setE env i (some (.o ds))) j = some w → (j = i ∧ i < env.length ∧ w = .o ds) ∨ (j ≠ i ∧ getE env j = some w) := fun j w q => by
    rw [get_set] at q
    split at q
    · split at q
      · cases q; exact .inl ⟨by assumption, by assumption, rfl⟩
      · cases q
    · exact .inr ⟨by assumption, q⟩
  have si : i < env.length → (σ.set i (some (V.ref p)))[i]? = some (some (.ref p)) := fun h => List.getElem?_set_self (by rw [e.len]; exact h)
  refine ⟨by rw [List.length_set, setE_len]; exact e.len, fun j y q => ?_, fun j xs q => ?_, fun j m q => ?_, fun j m xs ys a q1 q2 r1 r2 => ?_, e.live, e.sub, e.new, e.keep, fun j xs a q r => ?_, fun j a q => ?_, ?_⟩
  · rcases ge j _ q with ⟨h1, h2, h3⟩ | ⟨h1, h2⟩
    · cases h3
    · rw [gs j h1]
      exact e.dat j y h2
  · rcases ge j _ q with ⟨h1, h2, h3⟩ | ⟨h1, h2⟩
    · cases h3
      subst h1
      exact ⟨p, vs, si h2, hO, hp, hd⟩
    · rw [gs j h1]
      exact e.own j xs h2
  · rcases ge j _ q with ⟨h1, h2, h3⟩ | ⟨h1, h2⟩
    · cases h3
    · exact e.nob j m h2
  · rcases ge j _ q1 with ⟨h1, h2, h3⟩ | ⟨h1, h2⟩ <;> rcases ge m _ q2 with ⟨g1, g2, g3⟩ | ⟨g1, g2⟩
    · rw [h1, g1]
    · rw [h1, si h2] at r1; cases r1
      rw [gs m g1] at r2
      exact absurd rfl (hn m ys _ g2 r2)
    · rw [g1, si g2] at r2; cases r2
      rw [gs j h1] at r1
      exact absurd rfl (hn j xs _ h2 r1)
    · rw [gs j h1] at r1
      rw [gs m g1] at r2
      exact e.inj j m _ _ _ h2 g2 r1 r2
  · rcases ge j _ q with ⟨h1, h2, h3⟩ | ⟨h1, h2⟩
    · rw [h1, si h2] at r; cases r
      exact .inr hf
    · rw [gs j h1] at r
      exact e.ownF j xs a h2 r
  · have hj : j ≠ i := fun z => by subst z; exact hi a q
    rw [gs j hj, get_set_ne hj]
    exact e.par j a q
  · refine e.dic.move (fun j kvs q => ?_) (fun a us q n => ⟨q, n⟩) fun _ z => z
    rcases ge j _ q with ⟨_, _, z⟩ | ⟨h1, h2⟩
    · cases z
    · exact ⟨h2, gs j h1⟩
theorem parG_rd {K : PySem.W.Frag} {R : List Nat} {Wx : WX} {i j l : Nat} {a b c : E} {D : Ends} {σ : L2.St} {H : Hp} (hij : i ≠ j) (hsl : ∀ x ∈ [i, j, l], x ∉ R) (h : TSof K Wx R (.parG i j l a b c) D σ H) : tCons (TEof K a) (tCons (TEof K b) (tCons (TEof K c) tNil)) σ H fun vs H1 => ∃ u v w, vs = [u, v, w] ∧ D.nx (((σ.set i (some u)).set j (some v)).set l (some w)) H1 := by
  obtain ⟨F, O, env, fr, eo, hw⟩ := h
  refine te_then eo hw fun r0 env0 v0 H0 q0 e0 c0 s0 a0 => ?_
  obtain ⟨x0, q0, hx0⟩ := res_data s0 q0
  refine te_then e0 q0 fun r1 env1 v1 H1 q1 e1 c1 s1 a1 => ?_
  have sw : ∀ w : V, ((σ.set i (some v0)).set j (some v1)).set l (some w) = ((σ.set j (some v1)).set i (some v0)).set l (some w) := fun w => by rw [List.set_comm _ _ hij]
  cases r1 with
  | d x =>
    refine te_then e1 q1 fun r2 env2 v2 H2 q2 e2 c2 s2 a2 => ?_
    obtain ⟨y, q2, hy⟩ := res_data s2 q2
    have hx : Dp K (Wo H2 O) v1 x := dp_mono c2.wo s1
    have h0 : Dp K (Wo H2 O) v0 x0 := dp_mono (c1.trans c2).wo hx0
    refine ⟨v0, v1, v2, rfl, ?_⟩
    rw [sw]
    exact q2 _ _ O (((e2.setD (fr.no (hsl j (by simp))) hx).setD (fr.no (hsl i (by simp))) h0).setD (fr.no (hsl l (by simp))) hy) (.of (c0.trans (c1.trans c2)))
  | b m =>
    refine te_then e1 q1 fun r2 env2 v2 H2 q2 e2 c2 s2 a2 => ?_
    obtain ⟨y, q2, hy⟩ := res_data s2 q2
    exact q2.elim
  | m _ => exact s1.elim
  | p _ _ =>
    refine te_then e1 q1 fun r2 env2 v2 H2 q2 e2 c2 s2 a2 => ?_
    obtain ⟨y, q2, hy⟩ := res_data s2 q2
    exact q2.elim
  | o ds =>
    obtain ⟨p, us, rfl, hn, no, hp, hd⟩ := s1
    have av := a1 p rfl
    have ea := EnvOk.adopt e0 e1 hn hp av
    have hno : ∀ k xs q, getE env1 k = some (.o xs) → σ[k]? = some (some (.ref q)) → q ≠ p := fun k xs q h1 h2 z => by
      obtain ⟨a', vs', g1, g2, _⟩ := e1.own k xs h1
      rw [h2] at g1; cases g1
      subst z
      exact no g2
    have nH : H p = none := by
      cases hh : H p with
      | none => rfl
      | some o =>
        have := c0 p o hh no
        rw [hn] at this
        cases this
    refine te_then ea.rebase (wE_shp c q1) fun r2 env2 v2 H2 q2 e2 c2 s2 a2 => ?_
    obtain ⟨sh, q2⟩ := q2
    obtain ⟨y, q2, hy⟩ := res_data s2 q2
    have e3 := EnvOk.unbase ea e2 sh
    have hp2 : H2 p = some (.lst us) := now_keep e2 hp fun k xs h1 h2 => hno k xs p h1 h2 rfl
    have hn2 : ∀ k xs q, getE env2 k = some (.o xs) → σ[k]? = some (some (.ref q)) → q ≠ p := fun k xs q h1 h2 => by
      obtain ⟨xs', h3⟩ := sh.1.1 k xs h1
      exact hno k xs' q h3 h2
    have e4 := e3.setP (fr.no (hsl j (by simp))) (e0.fresh0 hn) List.mem_cons_self hp2 (dps_mono c2.wo hd) hn2
    have h0 : Dp K (Wo H2 (p :: O)) v0 x0 := by
      refine dp_mono (fun a o z => ?_) hx0
      obtain ⟨n, z⟩ := wo_some z
      have ne := ne_of_none z hn
      have no' : a ∉ p :: O := by simp only [List.mem_cons, not_or]; exact ⟨ne, n⟩
      rw [wo_out no']
      exact c2 a o (c1 a o z n) no'
    refine ⟨v0, .ref p, v2, rfl, ?_⟩
    rw [sw]
    refine q2 _ _ (p :: O) ((e4.setD (fr.no (hsl i (by simp))) h0).setD (fr.no (hsl l (by simp))) hy) ⟨fun x o hx hxO => ?_, fun q hq => ?_⟩
    · have h1 := c1 x o (c0 x o hx hxO) hxO
      refine .inl (c2 x o h1 fun z => ?_)
      rcases List.mem_cons.mp z with z | z
      · subst z; rw [nH] at hx; cases hx
      · exact hxO z
    · rcases List.mem_cons.mp hq with z | z
      · subst z; exact .inr nH
      · exact .inl z
theorem parH_rd {K : PySem.W.Frag} {R : List Nat} {Wx : WX} {i j l : Nat} {a b c : E} {D : Ends} {σ : L2.St} {H : Hp} (hij : i ≠ j) (hil : i ≠ l) (hjl : j ≠ l) (hsl : ∀ x ∈ [i, j, l], x ∉ R) (h : TSof K Wx R (.parH i j l a b c) D σ H) : tCons (TEof K a) (tCons (TEof K b) (tCons (TEof K c) tNil)) σ H fun vs H1 => ∃ u v w, vs = [u, v, w] ∧ D.nx (((σ.set i (some u)).set j (some v)).set l (some w)) H1 := by
  obtain ⟨F, O, env, fr, eo, hw⟩ := h
  refine te_then eo hw fun r0 env0 v0 H0 q0 e0 c0 s0 a0 => ?_
  obtain ⟨x0, q0, hx0⟩ := res_data s0 q0
  refine te_then e0 q0 fun r1 env1 v1 H1 q1 e1 c1 s1 a1 => ?_
  obtain ⟨x1, q1, hx1⟩ := res_data s1 q1
  refine te_then e1 q1 fun r2 env2 v2 H2 q2 e2 c2 s2 a2 => ?_
  have sw : ((σ.set i (some v0)).set j (some v1)).set l (some v2) = ((σ.set l (some v2)).set i (some v0)).set j (some v1) := by
    rw [List.set_comm _ _ hjl, List.set_comm _ _ hil]
  refine ⟨v0, v1, v2, rfl, ?_⟩
  rw [sw]
  cases r2 with
  | d x => exact q2 _ _ O (((e2.setD (fr.no (hsl l (by simp))) s2).setD (fr.no (hsl i (by simp))) (dp_mono (c1.trans c2).wo hx0)).setD (fr.no (hsl j (by simp))) (dp_mono c2.wo hx1)) (.of (c0.trans (c1.trans c2)))
  | b m => exact q2.elim
  | m _ => exact s2.elim
  | p _ _ => exact q2.elim
  | o ds =>
    obtain ⟨p, us, rfl, hn, no, hp, hd⟩ := s2
    have ea := EnvOk.adopt e1 e2 hn hp (a2 p rfl)
    have hno : ∀ k xs q, getE env2 k = some (.o xs) → σ[k]? = some (some (.ref q)) → q ≠ p := fun k xs q h1 h2 z => by
      obtain ⟨a', vs', g1, g2, _⟩ := e2.own k xs h1
      rw [h2] at g1; cases g1
      subst z
      exact no g2
    have nH : H p = none := by
      cases hh : H p with
      | none => rfl
      | some o =>
        have := c1 p o (c0 p o hh no) no
        rw [hn] at this
        cases this
    have e4 := ea.setP (fr.no (hsl l (by simp))) (e1.fresh0 hn) List.mem_cons_self hp hd hno
    have up : ∀ {w : V} {x : PyData}, Dp K (Wo H1 O) w x → Dp K (Wo H2 (p :: O)) w x := fun h => dp_mono (fun a o z => by
      obtain ⟨n, z⟩ := wo_some z
      have no' : a ∉ p :: O := by simp only [List.mem_cons, not_or]; exact ⟨ne_of_none z hn, n⟩
      rw [wo_out no']
      exact c2 a o z n) h
    refine q2 _ _ (p :: O) ((e4.setD (fr.no (hsl i (by simp))) (up (dp_mono c1.wo hx0))).setD (fr.no (hsl j (by simp))) (up hx1)) ⟨fun x o hx hxO => ?_, fun q hq => ?_⟩
    · exact .inl (c2 x o (c1 x o (c0 x o hx hxO) hxO) hxO)
    · rcases List.mem_cons.mp hq with z | z
      · subst z; exact .inr nH
      · exact .inl z
theorem parI_rd {K : PySem.W.Frag} {R : List Nat} {Wx : WX} {i j : Nat} {a b : E} {D : Ends} {σ : L2.St} {H : Hp} (hij : i ≠ j) (hsl : ∀ x ∈ [i, j], x ∉ R) (h : TSof K Wx R (.parI i j a b) D σ H) : tCons (TEof K a) (tCons (TEof K b) tNil) σ H fun vs H1 => ∃ v w, vs = [v, w] ∧ D.nx ((σ.set i (some v)).set j (some w)) H1 := by
  obtain ⟨F, O, env, fr, eo, hw⟩ := h
  refine te_then eo hw fun r0 env0 v0 H0 q0 e0 c0 s0 a0 => ?_
  obtain ⟨x0, q0, hx0⟩ := res_data s0 q0
  refine te_then e0 q0 fun r2 env2 v2 H2 q2 e2 c2 s2 a2 => ?_
  have sw : (σ.set i (some v0)).set j (some v2) = (σ.set j (some v2)).set i (some v0) := List.set_comm _ _ hij
  refine ⟨v0, v2, rfl, ?_⟩
  rw [sw]
  cases r2 with
  | d x => exact q2 _ _ O ((e2.setD (fr.no (hsl j (by simp))) s2).setD (fr.no (hsl i (by simp))) (dp_mono c2.wo hx0)) (.of (c0.trans c2))
  | b m => exact q2.elim
  | m _ => exact s2.elim
  | p _ _ => exact q2.elim
  | o ds =>
    obtain ⟨p, us, rfl, hn, no, hp, hd⟩ := s2
    have ea := EnvOk.adopt e0 e2 hn hp (a2 p rfl)
    have hno : ∀ k xs q, getE env2 k = some (.o xs) → σ[k]? = some (some (.ref q)) → q ≠ p := fun k xs q h1 h2 z => by
      obtain ⟨a', vs', g1, g2, _⟩ := e2.own k xs h1
      rw [h2] at g1; cases g1
      subst z
      exact no g2
    have nH : H p = none := by
      cases hh : H p with
      | none => rfl
      | some o =>
        have := c0 p o hh no
        rw [hn] at this
        cases this
    have e4 := ea.setP (fr.no (hsl j (by simp))) (e0.fresh0 hn) List.mem_cons_self hp hd hno
    have up : ∀ {w : V} {x : PyData}, Dp K (Wo H0 O) w x → Dp K (Wo H2 (p :: O)) w x := fun h => dp_mono (fun a o z => by
      obtain ⟨n, z⟩ := wo_some z
      have no' : a ∉ p :: O := by simp only [List.mem_cons, not_or]; exact ⟨ne_of_none z hn, n⟩
      rw [wo_out no']
      exact c2 a o z n) h
    refine q2 _ _ (p :: O) (e4.setD (fr.no (hsl i (by simp))) (up hx0)) ⟨fun x o hx hxO => ?_, fun q hq => ?_⟩
    · exact .inl (c2 x o (c0 x o hx hxO) hxO)
    · rcases List.mem_cons.mp hq with z | z
      · subst z; exact .inr nH
      · exact .inl z
theorem parF_rd {K : PySem.W.Frag} {R : List Nat} {Wx : WX} {i j : Nat} {a b : E} {D : Ends} {σ : L2.St} {H : Hp} (hsl : ∀ x ∈ [i, j], x ∉ R) (h : TSof K Wx R (.parF i j a b) D σ H) : tCons (TEof K a) (tCons (TEof K b) tNil) σ H fun vs H1 => ∃ v w, vs = [v, w] ∧ D.nx ((σ.set i (some v)).set j (some w)) H1 := by
  obtain ⟨F, O, env, fr, eo, hw⟩ := h
  refine te_then eo hw fun r1 env1 v1 H1 q1 e1 c1 s1 a1 => ?_
  cases r1 with
  | d x =>
    refine te_then e1 q1 fun r2 env2 v2 H2 q2 e2 c2 s2 a2 => ?_
    obtain ⟨y, q2, hy⟩ := res_data s2 q2
    have hx : Dp K (Wo H2 O) v1 x := dp_mono c2.wo s1
    exact ⟨v1, v2, rfl, q2 _ _ O ((e2.setD (fr.no (hsl i (by simp))) hx).setD (fr.no (hsl j (by simp))) hy) (.of (c1.trans c2))⟩
  | b m =>
    refine te_then e1 q1 fun r2 env2 v2 H2 q2 e2 c2 s2 a2 => ?_
    obtain ⟨y, q2, hy⟩ := res_data s2 q2
    exact q2.elim
  | m _ => exact s1.elim
  | p _ _ =>
    refine te_then e1 q1 fun r2 env2 v2 H2 q2 e2 c2 s2 a2 => ?_
    obtain ⟨y, q2, hy⟩ := res_data s2 q2
    exact q2.elim
  | o ds =>
    obtain ⟨p, us, rfl, hn, no, hp, hd⟩ := s1
    have av := a1 p rfl
    have ea := EnvOk.adopt eo e1 hn hp av
    have hno : ∀ k xs q, getE env1 k = some (.o xs) → σ[k]? = some (some (.ref q)) → q ≠ p := fun k xs q h1 h2 z => by
      obtain ⟨a', vs', g1, g2, _⟩ := e1.own k xs h1
      rw [h2] at g1; cases g1
      subst z
      exact no g2
    refine te_then ea.rebase (wE_shp b q1) fun r2 env2 v2 H2 q2 e2 c2 s2 a2 => ?_
    obtain ⟨sh, q2⟩ := q2
    obtain ⟨y, q2, hy⟩ := res_data s2 q2
    have e3 := EnvOk.unbase ea e2 sh
    have hp2 : H2 p = some (.lst us) := now_keep e2 hp fun k xs h1 h2 => hno k xs p h1 h2 rfl
    have hn2 : ∀ k xs q, getE env2 k = some (.o xs) → σ[k]? = some (some (.ref q)) → q ≠ p := fun k xs q h1 h2 => by
      obtain ⟨xs', h3⟩ := sh.1.1 k xs h1
      exact hno k xs' q h3 h2
    have e4 := e3.setP (fr.no (hsl i (by simp))) (eo.fresh0 hn) List.mem_cons_self hp2 (dps_mono c2.wo hd) hn2
    refine ⟨.ref p, v2, rfl, q2 _ _ (p :: O) (e4.setD (fr.no (hsl j (by simp))) hy) ⟨fun x o hx hxO => ?_, fun q hq => ?_⟩⟩
    · have h1 := c1 x o hx hxO
      refine .inl (c2 x o h1 fun z => ?_)
      rcases List.mem_cons.mp z with z | z
      · subst z; rw [hn] at hx; cases hx
      · exact hxO z
    · rcases List.mem_cons.mp hq with z | z
      · subst z; exact .inr hn
      · exact .inl z
end
end PF

set_option maxRecDepth 100000
set_option maxHeartbeats 1000000
namespace PF
open PySem PySem.Spec PyProof.Rows L2
/-! ### dicts with tuple keys -/
theorem keysOf_eq : ∀ {xs : List PyData} {ks : Ky}, keysOf xs = some ks → xs = ks.map keyD
  | [], ks, h => by cases h; rfl
  | .int i :: r, ks, h => by
    unfold keysOf at h
    cases q : keysOf r with
    | none => rw [q] at h; cases h
    | some k => rw [q] at h; cases h; rw [keysOf_eq q]; rfl
  | .str i :: r, ks, h => by
    unfold keysOf at h
    cases q : keysOf r with
    | none => rw [q] at h; cases h
    | some k => rw [q] at h; cases h; rw [keysOf_eq q]; rfl
  | .none :: r, ks, h => by cases h
  | .bool _ :: r, ks, h => by cases h
  | .list _ :: r, ks, h => by cases h
  | .tuple _ :: r, ks, h => by cases h
  | .dict _ :: r, ks, h => by cases h
theorem keyK_eq {x : PyData} {k : Ky → Prop} (h : keyK x k) : ∃ ks, x = kyD ks ∧ k ks := by
  unfold keyK at h
  split at h
  · split at h
    · rename_i ks e
      exact ⟨ks, by rw [keysOf_eq e]; rfl, h⟩
    · exact h.elim
  · exact h.elim
section
variable {K : PySem.W.Frag} {F : Fi} {O : List Addr} {H H' : Hp} {σ : L2.St} {env : AEnv} {v : V}
theorem dp_key {k : Sum Int Str} (h : Dp K H v (keyD k)) : v = kV k := by
  cases k with
  | inl i =>
    have h : Dp K H v (.int i) := h
    cases h; rfl
  | inr i =>
    have h : Dp K H v (.str i) := h
    cases h; rfl
theorem dps_key : ∀ {vs : List V} {ks : Ky}, DpAll K H vs (ks.map keyD) → vs = ks.map kV
  | _, [], .nil => rfl
  | _, k :: ks, .cons h t => by rw [dp_key h, dps_key t]; rfl
theorem key_dp (k : Sum Int Str) : Dp K H (kV k) (keyD k) := by
  cases k with
  | inl i => exact .int i
  | inr i => exact .str i
theorem key_dps : ∀ ks : Ky, DpAll K H (ks.map kV) (ks.map keyD)
  | [] => .nil
  | k :: ks => .cons (key_dp k) (key_dps ks)
theorem rd_key {ks : Ky} (h : RdD K O H v (kyD ks)) : ∃ b, v = .ref b ∧ b ∉ O ∧ H b = some (.tup (ks.map kV)) := by
  obtain ⟨p, vs, rfl, h1, h2⟩ := h
  obtain ⟨n, h1⟩ := wo_some h1
  rw [dps_key h2] at h1
  exact ⟨p, rfl, n, h1⟩
theorem has_val (kvs : List (Ky × PyData)) (ks : Ky) : (valV (dcE kvs) ks).isSome = hasKy kvs ks := by
  rw [← valV_any]
  unfold dcE hasKy
  rw [List.any_map]
  rfl
theorem put_dc (kvs : List (Ky × PyData)) (ks : Ky) (y : PyData) : putK (dcE kvs) ks (flV y) = dcE (putKy kvs ks y) := by
  have e : ((dcE kvs).any fun kv => decide (kv.1 = ks)) = hasKy kvs ks := by rw [valV_any, has_val]
  unfold putK putKy
  rw [e]
  split
  · unfold dcE
    rw [List.map_map, List.map_map]
    refine List.map_congr_left fun kv _ => ?_
    show (if kv.1 = ks then (kv.1, flV y) else (kv.1, flV kv.2)) = _
    simp only [Function.comp]
    split <;> rfl
  · unfold dcE
    rw [List.map_append]
    rfl
theorem flat_fl {y : PyData} (h : Dp K H v y) (f : flatD y = true) : v = flV y := by
  cases h with
  | non => rfl
  | bl b => rfl
  | int b => rfl
  | str b => rfl
  | _ => cases f
end
section
variable {X : Cx} {a : Expr} {pos np : Pos} {ea : E} {x : Str} {j : Nat}
/-- key in d, key not in d -/
theorem din_red {neg : Bool} {σ : L2.St} {H : Hp} {Q : VK} (h : TEof X.K (.din neg j ea) σ H Q) : TEof X.K ea σ H fun y H1 => ∃ v, σ[j]? = some (some v) ∧ ∃ a o, v = .ref a ∧ DGet H1 a y o ∧ Q (.bl (if neg = true then !o.isSome else o.isSome)) H1 := by
  obtain ⟨F, O, env, eo, hw⟩ := h
  refine te_then eo hw fun r1 env1 v1 H1 q1 e1 c1 s1 a1 => ?_
  obtain ⟨dx, q1, hx⟩ := res_rd e1 s1 q1
  obtain ⟨ks, rfl, q2⟩ := keyK_eq q1
  clear q1
  split at q2
  · rename_i kvs hg
    obtain ⟨p, c⟩ := e1.dic j kvs hg
    obtain ⟨b, rfl, nb, hb⟩ := rd_key hx
    refine ⟨_, c.at_, p, _, rfl, DGet.t c.has hb, ?_⟩
    rw [has_val]
    exact q2 _ _ e1 c1 (.bl _) trivial
  · exact q2.elim
theorem te_din (hu : X.A.units + 1 < cLine) (ha : PE X a (TEof X.K ea)) (hN : X.N[j]? = some x) (hv : Vis X.env.scope x) (hd : (x == ("__debug__" : Str)) = false) (hcd : (x == ("__classdict__" : Str)) = false) :
    PE X (.Compare a [.In] [.Name x np] pos) (TEof X.K (.din false j ea)) :=
  pe_weak (pe_cmp (pc_din hu ha (pe_var hN hv hd hcd)) rfl) fun σ H Q h => din_red h
theorem te_dnotin (hu : X.A.units + 1 < cLine) (ha : PE X a (TEof X.K ea)) (hN : X.N[j]? = some x) (hv : Vis X.env.scope x) (hd : (x == ("__debug__" : Str)) = false) (hcd : (x == ("__classdict__" : Str)) = false) :
    PE X (.Compare a [.NotIn] [.Name x np] pos) (TEof X.K (.din true j ea)) :=
  pe_weak (pe_cmp (pc_dnotin hu ha (pe_var hN hv hd hcd)) rfl) fun σ H Q h => din_red h
theorem din_te {neg : Bool} {σ : L2.St} {H : Hp} {Q : Bool → Hp → Prop} (h : TTof X.K (.din neg j ea) σ H Q) : TEof X.K (.din neg j ea) σ H fun x H' => ∃ k, x = .bl k ∧ Q k H' := by
  obtain ⟨F, O, env, eo, hw⟩ := h
  refine ⟨F, O, env, eo, ?_⟩
  unfold wE at hw ⊢
  refine wE_mono ea (fun r1 env1 q => rdK_mono (fun dx q => keyK_mono (fun ks q => ?_) q) q) hw
  split at q
  · intro v H' e c s _
    cases (show Dp X.K _ v (.bool _) from s)
    exact ⟨_, rfl, q _ e c⟩
  · exact q
theorem tt_din (hu : X.A.units + 1 < cLine) (ha : PE X a (TEof X.K ea)) (hN : X.N[j]? = some x) (hv : Vis X.env.scope x) (hd : (x == ("__debug__" : Str)) = false) (hcd : (x == ("__classdict__" : Str)) = false) :
    PT X (.Compare a [.In] [.Name x np] pos) (TTof X.K (.din false j ea)) :=
  pt_weak (pt_cmp (pc_din hu ha (pe_var hN hv hd hcd)) rfl) fun σ H Q h => din_red (din_te h)
theorem tt_dnotin (hu : X.A.units + 1 < cLine) (ha : PE X a (TEof X.K ea)) (hN : X.N[j]? = some x) (hv : Vis X.env.scope x) (hd : (x == ("__debug__" : Str)) = false) (hcd : (x == ("__classdict__" : Str)) = false) :
    PT X (.Compare a [.NotIn] [.Name x np] pos) (TTof X.K (.din true j ea)) :=
  pt_weak (pt_cmp (pc_dnotin hu ha (pe_var hN hv hd hcd)) rfl) fun σ H Q h => din_red (din_te h)
/-- list(d) -/
theorem keys_dps {K : PySem.W.Frag} {H : Hp} : ∀ {kvs : List (Ky × PyData)} {bs : List Addr}, IsKeys H (dcE kvs) bs → DpAll K H (bs.map V.ref) (kvs.map fun kv => kyD kv.1)
  | [], _, .nil => .nil
  | kv :: kvs, _, .cons h t => .cons (.tup h (key_dps kv.1)) (keys_dps t)
theorem te_dkeys {p : Pos} (hc : X.calm = true) (hg : Gl X "list") (hm : X.mg "list" = none) (hN : X.N[j]? = some x) (hv : Vis X.env.scope x) (hd : (x == ("__debug__" : Str)) = false) (hcd : (x == ("__classdict__" : Str)) = false) : PE X (.Call (.Name "list" p) [.Name x np] [] pos) (TEof X.K (.dkeys j)) :=
  pe_weak (pe_callTy (call_list_dT hc) hg hm (by decide +kernel) (pa_cons (pe_var hN hv hd hcd) pa_nil rfl) (by decide +kernel) (by decide +kernel) rfl rfl) fun σ H Q ⟨F, O, env, eo, hw⟩ => by
    unfold wE at hw
    split at hw
    · rename_i kvs hg
      obtain ⟨p, c⟩ := eo.dic j kvs hg
      refine ⟨.ref p, c.at_, p, dcE kvs, rfl, .inl c.has, fun q bs hq hk => ?_⟩
      refine hw _ _ (eo.grow (same_new hq)) (chg_new hq) (res_new eo hq .refl (keys_dps ?_)) (avR_new eo hq)
      exact Paired.mapP hk fun a b h => by
        have h : H b = some (.tup (a.1.map kV)) := h
        show Wo H O b = _
        rw [wo_out (eo.notT h)]
        exact h
    · exact hw.elim
theorem kyI_eq : ∀ {ks : Ky} {ns : List Int}, kyI ks = some ns → ks = ns.map Sum.inl
  | [], _, h => by cases h; rfl
  | .inl i :: r, ns, h => by
    unfold kyI at h
    cases q : kyI r with
    | none => rw [q] at h; cases h
    | some m => rw [q] at h; cases h; rw [kyI_eq q]; rfl
  | .inr _ :: r, ns, h => by cases h
theorem kysI_eq : ∀ {kss : List Ky} {nss : List (List Int)}, kysI kss = some nss → kss = nss.map (List.map Sum.inl)
  | [], _, h => by cases h; rfl
  | k :: r, nss, h => by
    unfold kysI at h
    split at h
    · rename_i ns ms e1 e2
      cases h
      rw [kyI_eq e1, kysI_eq e2]
      rfl
    · cases h
theorem te_dsort {p : Pos} (hc : X.calm = true) (hg : Gl X "sorted") (hm : X.mg "sorted" = none) (hN : X.N[j]? = some x) (hv : Vis X.env.scope x) (hd : (x == ("__debug__" : Str)) = false) (hcd : (x == ("__classdict__" : Str)) = false) : PE X (.Call (.Name "sorted" p) [.Name x np] [] pos) (TEof X.K (.dsort j)) :=
  pe_weak (pe_callB (SG.cr_sortTd hc) hg hm (by decide +kernel) (pa_cons (pe_var hN hv hd hcd) pa_nil rfl) (by decide +kernel) (by decide +kernel) rfl rfl) fun σ H Q ⟨F, O, env, eo, hw⟩ => by
    unfold wE at hw
    split at hw
    · rename_i kvs hg
      obtain ⟨p, c⟩ := eo.dic j kvs hg
      split at hw
      · rename_i nss hk
        refine ⟨.ref p, c.at_, p, dcE kvs, nss, rfl, c.has, ?_, hw.1, fun nss' ys q h1 h2 h3 h4 hq => ?_⟩
        · have e := kysI_eq hk
          unfold dcE
          rw [List.map_map]
          exact e
        · refine hw.2 nss' h2 h1 _ _ (eo.grow (same_new hq)) (chg_new hq) (res_new eo hq .refl (dps_tups h3 fun i y ns a b => ?_)) (avR_new eo hq)
          obtain ⟨t, e, ht⟩ := h4 i y ns a b
          exact ⟨t, e, by rw [wo_out (eo.notT ht)]; exact ht⟩
      · exact hw.elim
    · exact hw.elim
/-! ### {k: v} -/
def tDispT (tk tv : TE) : TE := fun σ H Q => ∀ p, H p = none → tk σ (upd H p (.dT [])) fun x H1 => tv σ H1 fun y H2 => H2 p = some (.dT []) ∧ ∃ b ks, x = .ref b ∧ H2 b = some (.tup (ks.map kV)) ∧ Q (.ref p) (upd H2 p (.dT [(ks, y)]))
theorem pe_dispT {k v : Expr} {tk tv : TE} (hu : X.A.units + 1 < cLine) (hk : PE X k tk) (hv : PE X v tv) : PE X (.Dict [some k] [v] pos) (tDispT tk tv) := by
  refine ⟨fun pins s σ H Q I q => ?_⟩
  have hn := I.hok.fresh (Nat.le_refl s.heap.objs.size)
  have I1 := I.laid (a := s.heap.objs.size) (o := .dT []) (h' := s.heap.push { cls := .type "dict", data := .dict #[] }) (t' := s.toks) (fun _ _ z => Heap.get?_push_of_some _ z) (Nat.le_refl _) (dt_empty s.heap I.big)
  have hn1 : (pairTrees [some k] [v] X.env pos).length = 1 := pairTrees_length [some k] [v] X.env pos rfl rfl
  rw [arm_eval_Dict, zip_pairTrees [some k] [v] X.env pos rfl rfl, dictDisplay_pairs _ (fun z => by rw [z] at hn1; cases hn1) (by omega)]
  refine wpAny_bind (wpAny_standAt (wpAny_bind (wpAny_subDictH (knd := tupleKind (mixKind X.prog X.w)) (show X.A.units < cLine by omega) (by omega) ?_)))
  refine pairTrees_cons_walk (thn (hk.run pins _ σ _ _ I1 (q _ hn)) fun u s1 ⟨x, H1, I2, rx, q1⟩ => thn (hv.run pins s1 σ H1 _ I2 q1) fun u2 s2 ⟨y, H2, I3, ry, he, b, ks, ex, hb, q2⟩ => pairTrees_nil_walk ?_)
  subst ex
  obtain rfl : u = Value.ref b := rx
  obtain ⟨z, hd, xs, rel, dd⟩ := dt_of I3.hok he
  cases rel
  refine ⟨[(ks, b, u2)], ⟨rfl, rfl, key_of I3.hok hb, trivial⟩, dd, fun h' tk dd' sb => wpAny_pure ⟨.ref s.heap.objs.size, upd H2 s.heap.objs.size (.dT [(ks, y)]), ?_, rfl, q2⟩⟩
  obtain ⟨o, es, ep, hq, h2, h3, h4, _, h5⟩ := dd'
  refine d_write I3 (by rw [he]; exact True.intro) sb ⟨o, hq⟩ ⟨by rw [sizeLine_eq]; simp, hd, [(ks, b, u2)], .cons ⟨rfl, ?_, ry⟩ .nil, o, es, ep, hq, h2, h3, h4, h5⟩
  rw [upd_ne (ne_of hb he (fun z => nomatch z))]
  exact hb
end
/-- a slot gets a new dict -/
theorem EnvOk.setM {K : PySem.W.Frag} {F : Fi} {O : List Addr} {H : Hp} {σ : L2.St} {env : AEnv} (e : EnvOk K F O H σ env) {i : Nat} {p : Addr} {kvs : List (Ky × PyData)} (hi : ∀ a, F.par i ≠ some a) (hl : i < env.length) (hf : F.H0 p = none) (hO : p ∉ O) (hp : H p = some (.dT (dcE kvs))) (fl : ∀ kv ∈ kvs, flatD kv.2 = true)
    (ho : ∀ j kvs', getE env j = some (.m kvs') → σ[j]? ≠ some (some (.ref p))) : EnvOk K F O H (σ.set i (some (.ref p))) (setE env i (some (.m kvs))) := by
  have gs : ∀ j, j ≠ i → (σ.set i (some (V.ref p)))[j]? = σ[j]? := fun j hj => List.getElem?_set_ne (Ne.symm hj)
  have si : (σ.set i (some (V.ref p)))[i]? = some (some (.ref p)) := List.getElem?_set_self (by rw [e.len]; exact hl)
  have ge : ∀ j w, getE (setE env i (some (.m kvs))) j = some w → (j = i ∧ w = .m kvs) ∨ (j ≠ i ∧ getE env j = some w) := fun j w q => by
    by_cases hj : j = i
    · rw [hj, get_set_same hl] at q; cases q; exact .inl ⟨hj, rfl⟩
    · rw [get_set_ne hj] at q; exact .inr ⟨hj, q⟩
  have gn : ∀ j w, (∀ k, w ≠ AV.m k) → getE (setE env i (some (.m kvs))) j = some w → j ≠ i ∧ getE env j = some w := fun j w h q => by
    rcases ge j w q with ⟨_, z⟩ | z
    · exact (h _ z).elim
    · exact z
  refine ⟨by rw [List.length_set, setE_len]; exact e.len, fun j x q => ?_, fun j ds q => ?_, fun j k q => ?_, fun j k ds ds' a q1 q2 r1 r2 => ?_, e.live, e.sub, e.new, e.keep, fun j ds a q r => ?_, fun j a q => ?_, fun j kvs' q => ?_⟩
  · obtain ⟨h1, h2⟩ := gn j _ (fun _ z => by cases z) q
    rw [gs j h1]; exact e.dat j x h2
  · obtain ⟨h1, h2⟩ := gn j _ (fun _ z => by cases z) q
    rw [gs j h1]; exact e.own j ds h2
  · exact e.nob j k (gn j _ (fun _ z => by cases z) q).2
  · obtain ⟨h1, h2⟩ := gn j _ (fun _ z => by cases z) q1
    obtain ⟨h3, h4⟩ := gn k _ (fun _ z => by cases z) q2
    rw [gs j h1] at r1
    rw [gs k h3] at r2
    exact e.inj j k _ _ a h2 h4 r1 r2
  · obtain ⟨h1, h2⟩ := gn j _ (fun _ z => by cases z) q
    rw [gs j h1] at r
    exact e.ownF j ds a h2 r
  · have hj : j ≠ i := fun z => by subst z; exact hi a q
    rw [gs j hj, get_set_ne hj]
    exact e.par j a q
  · rcases ge j _ q with ⟨rfl, z⟩ | ⟨h1, h2⟩
    · cases z
      refine ⟨p, si, hO, .inr hf, hp, fl, fun k kvs' q r => ?_⟩
      rcases ge k _ q with ⟨z, _⟩ | ⟨h1, h2⟩
      · exact z
      · rw [gs k h1] at r
        exact (ho k kvs' h2 r).elim
    · obtain ⟨a, c⟩ := e.dic j kvs' h2
      refine ⟨a, by rw [gs j h1]; exact c.at_, c.out, c.ent, c.has, c.flat, fun k kvs2 q r => ?_⟩
      rcases ge k _ q with ⟨rfl, _⟩ | ⟨h3, h4⟩
      · rw [si] at r
        cases r
        exact (ho j kvs' h2 c.at_).elim
      · rw [gs k h3] at r
        exact c.one k kvs2 h4 r
/-- the dict of a slot is another one -/
theorem EnvOk.putM {K : PySem.W.Frag} {F : Fi} {O : List Addr} {H : Hp} {σ : L2.St} {env : AEnv} (e : EnvOk K F O H σ env) {j : Nat} {p : Addr} {kvs kvs' : List (Ky × PyData)} (hj : getE env j = some (.m kvs)) (c : Dc F O H σ env j kvs p) (hcm : F.cm = false) (fl : ∀ kv ∈ kvs', flatD kv.2 = true) :
    EnvOk K F O (upd H p (.dT (dcE kvs'))) σ (setE env j (some (.m kvs'))) := by
  have hl := getE_len hj
  have hf : F.H0 p = none := by
    rcases c.ent with z | z
    · rw [hcm] at z; cases z
    · exact z
  have frm : ∀ a o, H a = some o → a ≠ p → upd H p (.dT (dcE kvs')) a = some o := fun a o z n => by rw [upd_ne n]; exact z
  have nl : ∀ {a : Addr} {vs : List V}, H a = some (.lst vs) → a ≠ p := fun {a vs} z n => by rw [n, c.has] at z; cases z
  have sm : SameD (Wo H O) (Wo (upd H p (.dT (dcE kvs'))) O) := fun a o hn h => by
    obtain ⟨n, h⟩ := wo_some h
    rw [wo_out n]
    exact frm a o h fun z => by rw [z, c.has] at h; cases h; exact hn _ rfl
  have ge : ∀ i w, getE (setE env j (some (.m kvs'))) i = some w → (i = j ∧ w = .m kvs') ∨ (i ≠ j ∧ getE env i = some w) := fun i w q => by
    by_cases hi : i = j
    · rw [hi, get_set_same hl] at q; cases q; exact .inl ⟨hi, rfl⟩
    · rw [get_set_ne hi] at q; exact .inr ⟨hi, q⟩
  have gn : ∀ i w, (∀ k, w ≠ AV.m k) → getE (setE env j (some (.m kvs'))) i = some w → i ≠ j ∧ getE env i = some w := fun i w h q => by
    rcases ge i w q with ⟨_, z⟩ | z
    · exact (h _ z).elim
    · exact z
  refine ⟨by rw [setE_len]; exact e.len, fun i x q => ?_, fun i ds q => ?_, fun i k q => ?_, fun i k ds ds' a q1 q2 r1 r2 => ?_, fun a ha => ?_, e.sub, e.new, fun a o q n => ?_, fun i ds a q r => ?_, fun i a q => ?_, fun i us q => ?_⟩
  · obtain ⟨v, h1, h2⟩ := e.dat i x (gn i _ (fun _ z => by cases z) q).2
    exact ⟨v, h1, dp_sameD sm h2⟩
  · obtain ⟨a, vs, h1, h2, h3, h4⟩ := e.own i ds (gn i _ (fun _ z => by cases z) q).2
    exact ⟨a, vs, h1, h2, frm _ _ h3 (nl h3), dps_sameD sm h4⟩
  · exact e.nob i k (gn i _ (fun _ z => by cases z) q).2
  · exact e.inj i k _ _ a (gn i _ (fun _ z => by cases z) q1).2 (gn k _ (fun _ z => by cases z) q2).2 r1 r2
  · obtain ⟨vs, h⟩ := e.live a ha
    exact ⟨vs, frm _ _ h (nl h)⟩
  · exact frm _ _ (e.keep a o q n) fun z => by rw [z, hf] at q; cases q
  · exact e.ownF i ds a (gn i _ (fun _ z => by cases z) q).2 r
  · obtain ⟨h1, ds, h2⟩ := e.par i a q
    refine ⟨h1, ds, ?_⟩
    rw [get_set_ne]
    · exact h2
    · intro z
      rw [z, hj] at h2
      cases h2
  · rcases ge i _ q with ⟨rfl, z⟩ | ⟨h1, h2⟩
    · cases z
      refine ⟨p, c.at_, c.out, .inr hf, upd_same, fl, fun k us2 q r => ?_⟩
      rcases ge k _ q with ⟨z, _⟩ | ⟨_, h2⟩
      · exact z
      · exact c.one k us2 h2 r
    · obtain ⟨a, d⟩ := e.dic i us h2
      have na : a ≠ p := fun z => by
        rw [z] at d
        exact h1 (c.one i us h2 d.at_)
      refine ⟨a, d.at_, d.out, d.ent, frm _ _ d.has na, d.flat, fun k us2 q r => ?_⟩
      rcases ge k _ q with ⟨z, _⟩ | ⟨_, h3⟩
      · rw [z, c.at_] at r
        cases r
        exact absurd rfl na
      · exact d.one k us2 h3 r
section
variable {X : Cx} {R : List Nat} {Wx : WX} {pos px dp : Pos} {k v : Expr} {ke ve : E} {x : Str} {i j : Nat}
theorem setE_ge : ∀ {env : AEnv} {i : Nat} {v : Option AV}, env.length ≤ i → setE env i v = env
  | [], _, _, _ => rfl
  | _ :: _, 0, _, h => by simp at h
  | x :: l, i + 1, v, h => by
    show x :: setE l i v = x :: l
    rw [setE_ge (by simpa using h)]
theorem dnew_red (hi : i ∉ R) {D : Ends} {σ : L2.St} {H : Hp} (h : TSof X.K Wx R (.dnew i ke ve) D σ H) : tAsg (tDispT (TEof X.K ke) (TEof X.K ve)) (gName i) D σ H := by
  obtain ⟨F, O, env, fr, eo, hw⟩ := h
  intro p hp
  have eg := eo.grow (same_new (o := .dT []) hp)
  have nO := eo.notO hp
  refine te_then eg (wE_shp ke hw) fun r1 env1 v1 H1 q1 e1 c1 s1 a1 => te_then e1 (wE_shp ve q1.2) fun r2 env2 v2 H2 q2 e2 c2 s2 a2 => ?_
  have sh := q1.1.trans q2.1
  obtain ⟨dx, q3, hx⟩ := res_rd e2 (s1.chg c2) q2.2
  obtain ⟨ks, rfl, q4⟩ := keyK_eq q3
  obtain ⟨y, q5, hy⟩ := res_data s2 q4
  obtain ⟨fy, q6⟩ := q5
  have h2 : H2 p = some (.dT []) := c2 _ _ (c1 _ _ upd_same nO) nO
  obtain ⟨b, rfl, nb, hb⟩ := rd_key hx
  refine ⟨h2, b, ks, rfl, hb, ?_⟩
  obtain rfl : v2 = flV y := flat_fl hy fy
  -- the dict as it stands, beside the slots
  have frm : ∀ a o, H2 a = some o → a ≠ p → upd H2 p (.dT [(ks, flV y)]) a = some o := fun a o z n => by rw [upd_ne n]; exact z
  have sm : SameD (Wo H2 O) (Wo (upd H2 p (.dT [(ks, flV y)])) O) := fun a o hn h => by
    obtain ⟨n, h⟩ := wo_some h
    rw [wo_out n]
    exact frm a o h fun z => by rw [z, h2] at h; cases h; exact hn _ rfl
  have nl : ∀ {a : Addr} {vs : List V}, H2 a = some (.lst vs) → a ≠ p := fun {a vs} z n => by rw [n, h2] at z; cases z
  have nd : ∀ j kvs', getE env2 j = some (.m kvs') → σ[j]? ≠ some (some (.ref p)) := fun j kvs' q z => by
    obtain ⟨a, c⟩ := eo.dic j kvs' (sh.1.2 j kvs' q)
    rw [c.at_] at z
    cases z
    rw [c.has] at hp
    cases hp
  have hf := eo.fresh0 hp
  have chg : Chg O H (upd H2 p (.dT [(ks, flV y)])) := fun a o z n => by
    have na : a ≠ p := ne_of_none z hp
    rw [upd_ne na]
    exact c2 _ _ (c1 _ _ (by rw [upd_ne na]; exact z) n) n
  have e3 : EnvOk X.K F O (upd H2 p (.dT [(ks, flV y)])) σ env2 := ⟨e2.len, fun j x q => by
      obtain ⟨v, g1, g2⟩ := e2.dat j x q
      exact ⟨v, g1, dp_sameD sm g2⟩, fun j ds q => by
      obtain ⟨a, vs, g1, g2, g3, g4⟩ := e2.own j ds q
      exact ⟨a, vs, g1, g2, frm _ _ g3 (nl g3), dps_sameD sm g4⟩, e2.nob, e2.inj, fun a ha => by
      obtain ⟨vs, g⟩ := e2.live a ha
      exact ⟨vs, frm _ _ g (nl g)⟩, e2.sub, e2.new, fun a o q n => frm _ _ (e2.keep a o q n) (ne_of_none q hf), e2.ownF, e2.par, fun j us q => by
      obtain ⟨a, d⟩ := e2.dic j us q
      have na : a ≠ p := fun z => nd j us q (by rw [d.at_, z])
      exact ⟨a, d.at_, d.out, d.ent, frm _ _ d.has na, d.flat, d.one⟩⟩
  by_cases hl : i < env2.length
  · exact q6 _ _ O (e3.setM (fr.no hi) hl hf nO upd_same (fun kv hkv => by
      simp only [List.mem_cons, List.not_mem_nil, or_false] at hkv
      rw [hkv]
      exact fy) nd) (.of chg)
  · have hl : env2.length ≤ i := by omega
    rw [setE_ge hl] at q6
    show D.nx (σ.set i (some (.ref p))) _
    rw [List.set_eq_of_length_le (by rw [e3.len]; exact hl)]
    exact q6 _ _ O e3 (.of chg)
theorem ts_dnew (hu : X.A.units + 1 < cLine) (hi' : i ∉ R) (hN : X.N.Nodup) (hi : X.N[i]? = some x) (hx : Loc X.env.scope x) (hk : PE X k (TEof X.K ke)) (hv : PE X v (TEof X.K ve)) (hf : X.fn x = true ∨ X.env.scope.names.lookup x = some .local) :
    PS X (.Assign [.Name x px] (.Dict [some k] [v] dp) pos) (TSof X.K Wx R (.dnew i ke ve)) := ps_weak (ps_set hN hi hx (pe_dispT hu hk hv) rfl hf) fun D σ H h => dnew_red hi' h
theorem dset_red {D : Ends} {σ : L2.St} {H : Hp} (h : TSof X.K Wx R (.dset j ke ve) D σ H) : sDPut (tVar j) (TEof X.K ke) (TEof X.K ve) D σ H := by
  obtain ⟨F, O, env, fr, eo, hw⟩ := h
  refine te_then eo hw fun r1 env1 v1 H1 q1 e1 c1 s1 a1 => ?_
  obtain ⟨y, q2, hy⟩ := res_data s1 q1
  split at q2
  · rename_i kv0 hg0
    obtain ⟨p, c0⟩ := e1.dic j kv0 hg0
    refine ⟨_, c0.at_, te_then e1 q2 fun r2 env2 v2 H2 q3 e2 c2 s2 a2 => ?_⟩
    obtain ⟨dx, q4, hx⟩ := res_rd e2 s2 q3
    obtain ⟨ks, rfl, q5⟩ := keyK_eq q4
    split at q5
    · rename_i kvs hg
      obtain ⟨p2, c⟩ := e2.dic j kvs hg
      have ep : p2 = p := by
        have a := c.at_
        rw [c0.at_] at a
        cases a
        rfl
      subst ep
      obtain ⟨b, rfl, nb, hb⟩ := rd_key hx
      obtain ⟨⟨hz, fy⟩, q5⟩ := q5
      obtain rfl : v1 = flV y := flat_fl hy fy
      refine ⟨p2, _, rfl, DPut.t c.has hb (by unfold dcE; rw [List.length_map]; exact hz), ?_⟩
      rw [put_dc]
      have c3 : ChgD O H (upd H2 p2 (.dT (dcE (putKy kvs ks y)))) := fun a o z n => by
        have c9 := c1.trans c2 a o z n
        by_cases na : a = p2
        · rw [na, c.has] at c9
          cases c9
          exact .inr ⟨_, _, rfl, by rw [na, upd_same]⟩
        · exact .inl (by rw [upd_ne na]; exact c9)
      refine q5 _ _ O (e2.putM hg c fr.cm fun kv hkv => ?_) ⟨c3, fun _ h => .inl h⟩
      unfold putKy at hkv
      split at hkv
      · obtain ⟨kv', h1, h2⟩ := List.mem_map.mp hkv
        split at h2
        · rw [← h2]; exact fy
        · rw [← h2]; exact c.flat _ h1
      · rcases List.mem_append.mp hkv with h1 | h1
        · exact c.flat _ h1
        · simp only [List.mem_cons, List.not_mem_nil, or_false] at h1
          rw [h1]; exact fy
    · exact q5.elim
  · exact q2.elim
end
end PF

set_option maxRecDepth 100000
set_option maxHeartbeats 1000000
namespace PF
open PySem PySem.Spec PyProof.Rows L2
/-! ### the text is what it is said to be -/
def isVis (sc : Scope) (x : Str) : Bool := match sc.names.lookup x with
  | some .local => true
  | some .cell => true
  | some .free => true
  | _ => false
def plainNm (x : Str) : Bool := !(x == ("__debug__" : Str)) && !(x == ("__classdict__" : Str))
def nameIs (Z : Sc) (i : Nat) (x : Str) : Bool := decide (Z.N[i]? = some x) && isVis Z.sc x && plainNm x
def glIs (Z : Sc) (x : Str) : Bool := decide (Z.sc.names.lookup x = some .globalImplicit) && plainNm x
def storeIs (Z : Sc) (i : Nat) (x : Str) : Bool := decide (Z.N[i]? = some x) && (decide (Z.sc.names.lookup x = some .local) || (decide (Z.sc.names.lookup x = some .cell) && Z.fn x))
def noStar : Expr → Bool
  | .Starred _ _ => false
  | _ => true
def noSlice : Expr → Bool
  | .Slice _ _ _ _ => false
  | _ => true
def noComp : Expr → Bool
  | .ListComp _ _ _ _ => false
  | .SetComp _ _ _ _ => false
  | .DictComp _ _ _ _ _ => false
  | _ => true
def noSet : Expr → Bool
  | .Set _ _ _ => false
  | _ => true
def plainTest : Expr → Bool
  | .UnaryOp .Not _ _ => false
  | .BoolOp _ _ _ => false
  | .IfExp _ _ _ _ => false
  | .Compare _ _ _ _ => false
  | _ => true
def plainBase : Expr → Bool
  | .Name _ _ => true
  | .ListComp _ _ _ _ => true
  | .Subscript _ _ _ => true
  | _ => false
theorem base_ok {e : Expr} {m : Str} {env : Env} (h : plainBase e = true) : attributeBase e m env (eval e env) = eval e env := by
  cases e <;> first | rfl | cases h
def bnames : List Str := ["len", "abs", "max", "min", "int", "sum", "any", "all", "list", "tuple", "sorted", "repr", "bool", "isinstance", "range", "enumerate", "zip", "str", "dict", "set", "ValueError", "super"]
theorem star_no {e : Expr} {es : List Expr} {env : Env} (h : noStar e = true) : starEach (e :: es) env = (false, eval e env) :: starEach es env := by
  cases e <;> first | rfl | cases h
def tyStr : Ty → Str
  | .int => "int" | .bool => "bool" | .str => "str" | .list => "list" | .tuple => "tuple"
def chkTgs (Z : Sc) : List Nat → List Expr → Bool
  | [], [] => true
  | i :: is, .Name x _ :: es => storeIs Z i x && chkTgs Z is es
  | _, _ => false
def chkTg (Z : Sc) : Tg → Expr → Bool
  | .nm i, .Name x _ => storeIs Z i x
  | .tp is, .Tuple es _ _ => chkTgs Z is es
  | _, _ => false
def arity : BI → Nat
  | .max2 => 2
  | .min2 => 2
  | _ => 1
def Sc.blk (Z : Sc) (scope : Scope) : Sc := { Z with sc := relS scope Z.sc, fn := fun x => scope.names.lookup x == some .cell }
def inSlots (tg : Tg) (own : List (Str × Nat)) : Bool := (tgSlots tg).all fun i => (own.map (·.2)).contains i
mutual
def chkE (Z : Sc) : E → Expr → Bool
  | .var i, e => match e with | .Name x _ => nameIs Z i x | _ => false
  | .int i, e => match e with | .Constant (.int j) _ _ => decide (i = j) | _ => false
  | .bool b, e => match e with | .Constant (.bool c) _ _ => decide (b = c) | _ => false
  | .none, e => match e with | .Constant .none _ _ => true | _ => false
  | .str s, e => match e with | .Constant (.str t) _ _ => decide (s = t) | _ => false
  | .glob x _, e => match e with | .Name y _ => decide (x = y) && glIs Z x | _ => false
  | .bin op a b, e => match e with | .BinOp l o r _ => decide (opOf op = o) && chkE Z a l && chkE Z b r | _ => false
  | .neg a, e => match e with | .UnaryOp .USub x _ => chkE Z a x | _ => false
  | .rep a n, e => match e with | .BinOp l .Mult r _ => chkE Z a l && chkE Z n r | _ => false
  | .not a, e => match e with | .UnaryOp .Not x _ => chkE Z a x | _ => false
  | .and a b, e => match e with
    | .BoolOp .And (l :: l2 :: rest) pos => chkE Z a l && (match rest with | [] => chkE Z b l2 | r :: rs => chkE Z b (.BoolOp .And (l2 :: r :: rs) pos))
    | _ => false
  | .or a b, e => match e with
    | .BoolOp .Or (l :: l2 :: rest) pos => chkE Z a l && (match rest with | [] => chkE Z b l2 | r :: rs => chkE Z b (.BoolOp .Or (l2 :: r :: rs) pos))
    | _ => false
  | .cmp op a b, e => match e with | .Compare l [o] [r] _ => decide (copOf op = o) && !behindInMarks o r && chkE Z a l && chkE Z b r | _ => false
  | .chain o1 o2 a b c, e => match e with | .Compare l [p1, p2] [r, r2] _ => decide (copOf o1 = p1) && decide (copOf o2 = p2) && !behindInMarks p2 r2 && chkE Z a l && chkE Z b r && chkE Z c r2 | _ => false
  | .ife c a b, e => match e with | .IfExp t x y _ => chkE Z c t && okT c && chkE Z a x && chkE Z b y | _ => false
  | .tup es, e => match e with | .Tuple xs _ _ => chkEs Z es xs && decide (xs.length ≤ 1000) | _ => false
  | .lst es, e => match e with | .List xs _ => chkEs Z es xs && decide (xs.length ≤ 1000) | _ => false
  | .ix a i, e => match e with | .Subscript x y _ => noSlice y && chkE Z a x && chkE Z i y | _ => false
  | .slL a lo, e => match e with | .Subscript x (.Slice (some l) none none _) _ => chkE Z a x && chkE Z lo l | _ => false
  | .slU a hi, e => match e with | .Subscript x (.Slice none (some l) none _) _ => chkE Z a x && chkE Z hi l | _ => false
  | .slLU a lo hi, e => match e with | .Subscript x (.Slice (some l) (some u) none _) _ => chkE Z a x && chkE Z lo l && chkE Z hi u | _ => false
  | .slRev a, e => match e with | .Subscript x (.Slice none none (some (.UnaryOp .USub (.Constant (.int 1) _ _) _)) _) _ => chkE Z a x | _ => false
  | .call x _ es, e => match e with | .Call (.Name y _) xs [] _ => decide (x = y) && glIs Z x && chkEs Z es xs | _ => false
  | .callK x _ _ ks es, e => match e with | .Call (.Name y _) [] kws _ => decide (x = y) && glIs Z x && chkK Z ks es kws | _ => false
  | .callO x _ a, e => match e with | .Call (.Name y _) [z] [] _ => decide (x = y) && glIs Z x && noStar z && chkE Z a z | _ => false
  | .un f a, e => match f, e with
    | .att n, .Attribute x m _ => decide (n = m) && plainBase x && chkE Z a x
    | .instV, .Call (.Name y _) [x, .Name t _] [] _ => decide (y = "isinstance") && glIs Z y && decide (t = "ValueError") && glIs Z t && noStar x && chkE Z a x
    | .join, .Call (.Attribute (.Constant (.str s) _ _) m ap) [x] [] cp => decide (s = Str.empty) && decide (m = "join") && noStar x && (ap.endLine == cp.line) && chkE Z a x
    | .lenS, .Call (.Name y _) [x] [] _ => decide (y = "len") && glIs Z y && noStar x && chkE Z a x
    | .mkV c, .Call (.Name y _) [x] [] _ => decide (c = y) && glIs Z c && noStar x && chkE Z a x
    | _, _ => false
  | .mkA c f kw a, e => match kw, e with
    | false, .Call (.Name y _) [x] [] _ => decide (c = y) && glIs Z c && noStar x && chkE Z a x
    | true, .Call (.Name y _) [] [⟨some n, x, _⟩] _ => decide (c = y) && glIs Z c && decide (n = f) && chkE Z a x
    | _, _ => false
  | .ixS a i, e => match e with | .Subscript x y _ => noSlice y && chkE Z a x && chkE Z i y | _ => false
  | .mkE c s, e => match e with | .Call (.Name y _) [.Constant (.str t) _ _] [] _ => decide (c = y) && glIs Z c && decide (s = t) | _ => false
  | .callM x _ es, e => match e with | .Call (.Name y _) (z :: xs) [] _ => decide (x = y) && glIs Z x && chkEs Z es (z :: xs) | _ => false
  | .callR x _ es, e => match e with | .Call (.Name y _) (z :: xs) [] _ => decide (x = y) && glIs Z x && chkEs Z es (z :: xs) | _ => false
  | .bi f es, e => match e with | .Call (.Name y _) (a :: as) [] _ => decide (biName f = y) && decide (f ≠ .bool) && decide ((a :: as).length = arity f) && glIs Z y && chkEs Z es (a :: as) | _ => false
  | .instC a c _, e => match e with | .Call (.Name y _) [x, .Name t _] [] _ => decide (y = "isinstance") && glIs Z y && decide (t = c) && glIs Z t && noStar x && chkE Z a x | _ => false
  | .inst a ts, e => match e, ts with | .Call (.Name y _) [x, .Name t _] [] _, [ty] => decide (y = "isinstance") && glIs Z y && decide (t = tyStr ty) && glIs Z t && noStar x && chkE Z a x | _, _ => false
  | .lrg1 a, e => match e with | .Call (.Name l _) [.Call (.Name y _) [x] [] _] [] _ => decide (l = "list") && glIs Z l && decide (y = "range") && glIs Z y && noStar x && chkE Z a x | _ => false
  | .lrg2 a b, e => match e with | .Call (.Name l _) [.Call (.Name y _) [x, x2] [] _] [] _ => decide (l = "list") && glIs Z l && decide (y = "range") && glIs Z y && noStar x && noStar x2 && chkE Z a x && chkE Z b x2 | _ => false
  | .lrg3 a b c, e => match e with | .Call (.Name l _) [.Call (.Name y _) [x, x2, x3] [] _] [] _ => decide (l = "list") && glIs Z l && decide (y = "range") && glIs Z y && noStar x && noStar x2 && noStar x3 && chkE Z a x && chkE Z b x2 && chkE Z c x3 | _ => false
  | .pop j i, e => match e with | .Call (.Attribute (.Name x _) m ap) [y] [] cp => decide (m = "pop") && nameIs Z j x && noStar y && (ap.endLine == cp.line) && chkE Z i y | _ => false
  | .ssort a, e => match e with | .Call (.Name y _) [.Call (.Name y2 _) [x] [] _] [] _ => decide (y = "sorted") && glIs Z y && decide (y2 = "set") && glIs Z y2 && noStar x && chkE Z a x | _ => false
  | .ixOf a b, e => match e with | .Call (.Attribute x m ap) [y] [] cp => decide (m = "index") && plainBase x && noStar y && (ap.endLine == cp.line) && chkE Z a x && chkE Z b y | _ => false
  | .din neg j ke, e => match e with | .Compare l [o] [.Name x _] _ => decide (o = if neg = true then CmpOp.NotIn else CmpOp.In) && nameIs Z j x && chkE Z ke l | _ => false
  | .dkeys j, e => match e with | .Call (.Name y _) [.Name x _] [] _ => decide (y = "list") && glIs Z y && nameIs Z j x | _ => false
  | .dsort j, e => match e with | .Call (.Name y _) [.Name x _] [] _ => decide (y = "sorted") && glIs Z y && nameIs Z j x | _ => false
  | .comp elt cond c tg it own, e => match e with
    | .ListComp x [⟨t, i, ifs, 0⟩] scope _ => blkC Z.N Z.sc scope own && chkIt Z it tg t i && chkTg (Z.blk scope) tg t && inSlots tg own && noSet i &&
        (match cond, ifs with | none, [] => true | some _, [y] => chkE (Z.blk scope) c y && okT c | _, _ => false) && chkE (Z.blk scope) elt x
    | _ => false
def chkEs (Z : Sc) : Es → List Expr → Bool
  | .nil, es => match es with | [] => true | _ => false
  | .cons e es, xs => match xs with | x :: xs => noStar x && chkE Z e x && chkEs Z es xs | _ => false
def chkK (Z : Sc) (ks : List Str) : Es → List Keyword → Bool
  | .nil, kws => match kws, ks with | [], [] => true | _, _ => false
  | .cons e es, kws => match kws, ks with | ⟨some n, x, _⟩ :: kws, k :: ks => decide (n = k) && chkE Z e x && chkK Z ks es kws | _, _ => false
def chkIt (Z : Sc) : PF.It → Tg → Expr → Expr → Bool
  | .seq e, _, _, i => chkE Z e i
  | .range1 a, _, _, i => match i with | .Call (.Name y _) [x] [] _ => decide (y = "range") && glIs Z y && noStar x && chkE Z a x | _ => false
  | .range2 a b, _, _, i => match i with | .Call (.Name y _) [x, x2] [] _ => decide (y = "range") && glIs Z y && noStar x && noStar x2 && chkE Z a x && chkE Z b x2 | _ => false
  | .range3 a b c, _, _, i => match i with | .Call (.Name y _) [x, x2, x3] [] _ => decide (y = "range") && glIs Z y && noStar x && noStar x2 && noStar x3 && chkE Z a x && chkE Z b x2 && chkE Z c x3 | _ => false
  | .enum e, tg, t, i => match i, tg with | .Call (.Name y _) [x] [] _, .tp _ => decide (y = "enumerate") && glIs Z y && noStar x && chkE Z e x | _, _ => false
  | .zip3 a b c, tg, t, i => match i, tg with | .Call (.Name y _) [x, x2, x3] [] _, .tp _ => decide (y = "zip") && glIs Z y && noStar x && noStar x2 && noStar x3 && chkE Z a x && chkE Z b x2 && chkE Z c x3 | _, _ => false
  | .zip a b, tg, t, i => match i, tg with | .Call (.Name y _) [x, x2] [] _, .tp _ => decide (y = "zip") && glIs Z y && noStar x && noStar x2 && chkE Z a x && chkE Z b x2 | _, _ => false
/-- a test may be taken apart -/
def okT : E → Bool
  | .not a => okT a
  | .and a b => okT a && okT b
  | .or a b => okT a && okT b
  | .ife _ _ _ => false
  | _ => true
end
end PF

set_option maxRecDepth 100000
set_option maxHeartbeats 1000000
/-! dict(pairs), the keys tuples, all apart -/
namespace PF
open PySem PySem.Spec PyProof.Rows L2
/-- a pair: its tuple, its key's tuple, the key, the value -/
structure Pr where
  t : Addr
  k : Addr
  ks : Ky
  v : V
def rDictP (K : PySem.W.Frag) : List V → Hp → VK → Prop := fun xs H Q => ∃ (l : Addr) (ps : List Pr), xs = [V.ref l] ∧ SqL K H l (ps.map fun p => V.ref p.t) ∧ (∀ p ∈ ps, H p.t = some (.tup [V.ref p.k, p.v])) ∧ (∀ p ∈ ps, H p.k = some (.tup (p.ks.map kV))) ∧ (ps.map Pr.ks).Nodup ∧ ps.length ≤ sizeLine ∧
  ∀ a, H a = none → Q (.ref a) (upd H a (.dT (ps.map fun p => (p.ks, p.v))))
theorem refs_eq : ∀ {ps : List Pr} {us : List Value}, Vals (ps.map fun p => V.ref p.t) us → us = ps.map fun p => Value.ref p.t
  | [], _, .nil => rfl
  | p :: ps, _, .cons r t => by
    cases r
    rw [refs_eq t] <;> rfl
theorem all_new {P : Program} {w : World} : ∀ (qs xs : List (List L2.Key × Addr × Value)), ((xs ++ qs).map (·.1)).Nodup → storedAllH xs qs = xs ++ qs
  | [], xs, _ => by simp [storedAllH]
  | q :: qs, xs, h => by
    have e : storedAllH xs (q :: qs) = storedAllH (storedH xs q.1 q.2.1 q.2.2) qs := rfl
    have hn : atKey xs q.1 = none := by
      rw [List.map_append, List.map_cons] at h
      have h2 := (List.nodup_append.mp h).2.2
      unfold atKey
      rw [Option.map_eq_none_iff, List.find?_eq_none]
      intro x hx
      have := h2 x.1 (List.mem_map.mpr ⟨x, hx, rfl⟩) q.1 List.mem_cons_self
      simpa using this
    rw [e, storedH_new hn, all_new (P := P) (w := w) qs _ (by rw [List.append_assoc]; exact h), List.append_assoc]
    rfl
section
variable {X : Cx}
theorem pairs_at {pins : List (Addr × Obj)} {σ : L2.St} {H : Hp} {s : Shared} (I : Inv X pins σ H s) : ∀ {ps : List Pr}, (∀ p ∈ ps, H p.t = some (.tup [V.ref p.k, p.v])) → ∃ qs : List (List L2.Key × Addr × Value), qs.length = ps.length ∧ ∀ (i : Nat) p, ps[i]? = some p → ∃ u, qs[i]? = some (p.ks, p.k, u) ∧ RelV p.v u ∧ s.heap.IsTuple p.t #[.ref p.k, u]
  | [], _ => ⟨[], rfl, fun i p h => by simp at h⟩
  | p :: ps, h => by
    obtain ⟨qs, h1, h2⟩ := pairs_at I (ps := ps) fun r hr => h r (List.mem_cons_of_mem _ hr)
    obtain ⟨its, rv, pl, _⟩ := I.tuple (xs := [V.ref p.k, p.v]) (.inl (.inl (h p List.mem_cons_self)))
    obtain ⟨u, u2, rfl, r1, r2⟩ := rv.two
    cases r1
    refine ⟨(p.ks, p.k, u2) :: qs, by simp [h1], fun i r hr => ?_⟩
    cases i with
    | zero => cases hr; exact ⟨_, rfl, r2, pl⟩
    | succ i => exact h2 i r (by simpa using hr)
theorem cr_dictP (hc : X.calm = true) (hu : X.A.units + 64 < cLine) : CallR X (.type "dict") (rDictP X.K) := by
  intro pins s σ H xs us Q I r h
  obtain ⟨l, ps, rfl, hl, hp, hk, nd, hz, q⟩ := h
  rw [Vals.ref1 r]
  obtain ⟨its, rv, pl, _⟩ := I.list hl
  have ei := refs_eq rv
  obtain ⟨qs, ql, qa⟩ := pairs_at I hp
  have back : ∀ (i : Nat) (x : List L2.Key × Addr × Value), qs[i]? = some x → ∃ p, ps[i]? = some p ∧ x.1 = p.ks ∧ x.2.1 = p.k ∧ RelV p.v x.2.2 ∧ s.heap.IsTuple p.t #[.ref p.k, x.2.2] := fun i x hx => by
    have hi : i < ps.length := by rw [← ql]; exact (List.getElem?_eq_some_iff.mp hx).1
    obtain ⟨u, h1, h2, h3⟩ := qa i _ (List.getElem?_eq_getElem hi)
    rw [h1] at hx
    cases hx
    exact ⟨_, List.getElem?_eq_getElem hi, rfl, rfl, h2, h3⟩
  have lt : ∀ {b : Addr} {o : Obj}, s.heap.get? b = some o → b ≠ s.heap.objs.size := fun e => Nat.ne_of_lt (Heap.lt_size e)
  refine call_dict_pairsH (knd := tupleKind (mixKind X.prog X.w)) (ps := qs) (PairArg.list l its.toArray (fun j => ((ps[j]?).map Pr.t).getD 0) (qs.map fun x => (Value.ref x.2.1, x.2.2))) (I.ok.hd hc) (show X.A.in1.in1.units < cLine by show X.A.units + 1 + 1 < cLine; omega) ⟨?_, ?_, ?_⟩ ⟨by rw [List.length_map], fun i key v hkv => ?_⟩ (fun h' kp x hx => ?_) (by rw [List.length_map, ql]; exact hz) fun h' tk dd kp => ?_
  · obtain ⟨o, n, h1, h2, h3, h4⟩ := pl
    exact ⟨o, n, h1, h2, h3, h4⟩
  · rw [ei]; simp [ql]
  · intro j k v hj
    rw [List.getElem?_map] at hj
    cases hx : qs[j]? with
    | none => rw [hx] at hj; cases hj
    | some x =>
      rw [hx] at hj
      cases hj
      obtain ⟨p, h1, h2, h3, h4, h5⟩ := back j x hx
      have et : ((ps[j]?).map Pr.t).getD 0 = p.t := by rw [h1]; rfl
      refine ⟨?_, .inl ?_⟩
      · show _ = some (Value.ref (((ps[j]?).map Pr.t).getD 0))
        rw [et, ei, List.getElem?_toArray, List.getElem?_map, h1]
        rfl
      · show s.heap.IsTuple (((ps[j]?).map Pr.t).getD 0) _
        rw [et, h3]
        exact h5
  · have hkv : (qs.map fun x => (Value.ref x.2.1, x.2.2))[i]? = some (key, v) := hkv
    rw [List.getElem?_map] at hkv
    cases hx : qs[i]? with
    | none => rw [hx] at hkv; cases hkv
    | some x =>
      rw [hx] at hkv
      cases hkv
      exact ⟨x.1, x.2.1, rfl, rfl⟩
  · obtain ⟨i, hi, e⟩ := List.mem_iff_getElem.mp hx
    obtain ⟨p, h1, h2, h3, _, _⟩ := back i x (by rw [← e]; exact List.getElem?_eq_getElem hi)
    obtain ⟨o, arr, n, g1, g2, g3, g4⟩ := key_of I.hok (hk p (List.mem_of_getElem? h1))
    rw [h2, h3]
    exact ⟨o, arr, n, kp _ o (lt g1) (fun z => nomatch z) g1, g2, g3, g4⟩
  · have hn : H s.heap.objs.size = none := I.hok.fresh (Nat.le_refl _)
    have ek : qs.map (·.1) = ps.map Pr.ks := by
      apply List.ext_getElem? 
      intro i
      rw [List.getElem?_map, List.getElem?_map]
      cases hx : qs[i]? with
      | none =>
        have : ps[i]? = none := by
          rw [List.getElem?_eq_none_iff] at hx ⊢
          omega
        rw [this]
        rfl
      | some x =>
        obtain ⟨p, h1, h2, _⟩ := back i x hx
        rw [h1]
        show some x.1 = some p.ks
        rw [h2]
    rw [all_new (P := X.prog) (w := X.w) qs [] (by rw [List.nil_append, ek]; exact nd), List.nil_append] at dd
    obtain ⟨o, es, ep, d1, d2, d3, d4, _, d5⟩ := dd
    have big := I.big
    have ok : ObjOk X.prog X.w (upd H s.heap.objs.size (.dT (ps.map fun p => (p.ks, p.v)))) h' s.heap.objs.size (.dT (ps.map fun p => (p.ks, p.v))) := by
      have hk2 : ∀ p ∈ ps, upd H s.heap.objs.size (.dT (ps.map fun p => (p.ks, p.v))) p.k = some (.tup (p.ks.map kV)) := fun p hp => by
        rw [upd_ne (fun z => by have := hk p hp; rw [z, hn] at this; cases this)]
        exact hk p hp
      generalize upd H s.heap.objs.size (.dT (ps.map fun p => (p.ks, p.v))) = H2 at hk2 ⊢
      refine ⟨by rw [List.length_map]; exact hz, ?_, qs, ?_, o, es, ep, d1, d2, d3, d4, d5⟩
      · rw [beq_eq_false_iff_ne]
        exact fun z => absurd big (by rw [← z]; exact Nat.lt_irrefl _)
      · have go : ∀ {ps : List Pr} {qs : List (List L2.Key × Addr × Value)}, qs.length = ps.length → (∀ p ∈ ps, H2 p.k = some (.tup (p.ks.map kV))) → (∀ (i : Nat) (x : List L2.Key × Addr × Value), qs[i]? = some x → ∃ p, ps[i]? = some p ∧ x.1 = p.ks ∧ x.2.1 = p.k ∧ RelV p.v x.2.2) →
            Paired (fun (p : List L2.Key × V) (q : List L2.Key × Addr × Value) => p.1 = q.1 ∧ H2 q.2.1 = some (.tup (p.1.map kV)) ∧ RelV p.2 q.2.2) (ps.map fun p => (p.ks, p.v)) qs := by
          intro ps
          induction ps with
          | nil =>
            intro qs hl _ _
            have : qs = [] := List.length_eq_zero_iff.mp hl
            subst this
            exact .nil
          | cons p ps ih =>
            intro qs hl hk hb
            cases qs with
            | nil => simp at hl
            | cons x qs =>
              obtain ⟨p', e, h1, h2, h3⟩ := hb 0 x rfl
              cases e
              refine .cons ⟨h1.symm, ?_, h3⟩ (ih (by simpa using hl) (fun r hr => hk r (List.mem_cons_of_mem _ hr)) fun i y hy => ?_)
              · rw [h2]; exact hk p List.mem_cons_self
              · obtain ⟨p', e, h⟩ := hb (i + 1) y (by simpa using hy)
                exact ⟨p', by simpa using e, h⟩
        exact go ql hk2 fun i x hx => by
          obtain ⟨p, h1, h2, h3, h4, _⟩ := back i x hx
          exact ⟨p, h1, h2, h3, h4⟩
    exact ⟨.ref s.heap.objs.size, _, I.laid (t' := tk) (fun b o e => kp b o (fun z => nomatch z) e) (Nat.le_refl _) ok, rfl, q _ hn⟩
end
section
variable {K : PySem.W.Frag} {H : Hp}
theorem two_dp {vs : List V} {a b : PyData} (h : DpAll K H vs [a, b]) : ∃ v w, vs = [v, w] ∧ Dp K H v a ∧ Dp K H w b := by
  cases h with
  | cons h1 t => cases t with
    | cons h2 t => cases t with
      | nil => exact ⟨_, _, rfl, h1, h2⟩
theorem tup_inv {v : V} {xs : List PyData} (h : Dp K H v (.tuple xs)) : ∃ a vs, v = .ref a ∧ H a = some (.tup vs) ∧ DpAll K H vs xs := by
  cases h with
  | tup h1 h2 => exact ⟨_, _, rfl, h1, h2⟩
theorem prs_of : ∀ {ds : List PyData} {vs : List V} {kvs : List (Ky × PyData)}, DpAll K H vs ds → pairsOf ds = some kvs → (∀ kv ∈ kvs, flatD kv.2 = true) →
    ∃ ps : List Pr, vs = (ps.map fun p => V.ref p.t) ∧ (ps.map fun p => (p.ks, p.v)) = dcE kvs ∧ (ps.map Pr.ks) = kvs.map (·.1) ∧ ∀ p ∈ ps, H p.t = some (.tup [V.ref p.k, p.v]) ∧ H p.k = some (.tup (p.ks.map kV))
  | [], _, _, .nil, e, _ => by cases e; exact ⟨[], rfl, rfl, rfl, fun p hp => absurd hp (by simp)⟩
  | .tuple [.tuple xs, y] :: r, _, kvs, .cons h t, e, fl => by
    have e : (match keysOf xs, pairsOf r with | some ks, some kvs => some ((ks, y) :: kvs) | _, _ => Option.none) = some kvs := e
    cases e1 : keysOf xs with
    | none => rw [e1] at e; cases e
    | some ks =>
      cases e2 : pairsOf r with
      | none => rw [e1, e2] at e; cases e
      | some kvs' =>
        rw [e1, e2] at e
        cases e
        obtain ⟨ps, g1, g2, g3, g4⟩ := prs_of t e2 fun kv hkv => fl kv (List.mem_cons_of_mem _ hkv)
        obtain ⟨a, vs2, rfl, h1, h2⟩ := tup_inv h
        obtain ⟨v, w, rfl, d1, d2⟩ := two_dp h2
        obtain ⟨b, vs3, rfl, h3, h4⟩ := tup_inv d1
        rw [keysOf_eq e1] at h4
        rw [dps_key h4] at h3
        have ew := flat_fl d2 (fl (ks, y) List.mem_cons_self)
        subst ew
        refine ⟨⟨a, b, ks, flV y⟩ :: ps, ?_, ?_, ?_, fun p hp => ?_⟩
        · rw [g1]; rfl
        · rw [List.map_cons, g2]; rfl
        · rw [List.map_cons, g3]; rfl
        · rcases List.mem_cons.mp hp with z | z
          · rw [z]; exact ⟨h1, h3⟩
          · exact g4 p z
end
section
variable {X : Cx} {R : List Nat} {Wx : WX} {pos px dp cp : Pos} {v : Expr} {e : E} {x : Str} {i : Nat}
theorem dnewP_red (hi : i ∉ R) {D : Ends} {σ : L2.St} {H : Hp} (h : TSof X.K Wx R (.dnewP i e) D σ H) : tAsg (tCB (rDictP X.K) (tCons (TEof X.K e) tNil)) (gName i) D σ H := by
  obtain ⟨F, O, env, fr, eo, hw⟩ := h
  refine te_then eo hw fun r1 env1 v1 H1 q1 e1 c1 s1 a1 => ?_
  obtain ⟨dx, q2, hx⟩ := res_rd e1 s1 q1
  unfold pairsK at q2
  split at q2
  · rename_i ds
    split at q2
    · rename_i kvs hk
      obtain ⟨⟨nd, hz, fl⟩, q3⟩ := q2
      obtain ⟨p, vs, rfl, hl, hd⟩ := hx
      obtain ⟨ps, g1, g2, g3, g4⟩ := prs_of hd hk fl
      refine ⟨p, ps, rfl, by rw [← g1]; exact hl, fun p hp => (wo_some (g4 p hp).1).2, fun p hp => (wo_some (g4 p hp).2).2, by rw [g3]; exact nd, ?_, fun a ha => ?_⟩
      · have := congrArg List.length g3
        simp only [List.length_map] at this
        omega
      · rw [g2]
        have e2 := e1.grow (same_new (o := .dT (dcE kvs)) ha)
        have nO := e1.notO ha
        have hf := e1.fresh0 ha
        have chg : Chg O H (upd H1 a (.dT (dcE kvs))) := fun b o z n => by
          have h1 := c1 b o z n
          rw [upd_ne (ne_of_none h1 ha)]
          exact h1
        have ndd : ∀ j kvs', getE env1 j = some (.m kvs') → σ[j]? ≠ some (some (.ref a)) := fun j kvs' q z => by
          obtain ⟨b, c⟩ := e1.dic j kvs' q
          rw [c.at_] at z
          cases z
          rw [c.has] at ha
          cases ha
        by_cases hlen : i < env1.length
        · exact q3 _ _ O (e2.setM (fr.no hi) hlen hf nO upd_same fl ndd) (.of chg)
        · have hlen : env1.length ≤ i := by omega
          rw [setE_ge hlen] at q3
          show D.nx (σ.set i (some (.ref a))) _
          rw [List.set_eq_of_length_le (by rw [e2.len]; exact hlen)]
          exact q3 _ _ O e2 (.of chg)
    · exact q2.elim
  · exact q2.elim
end
end PF

set_option maxRecDepth 100000
set_option maxHeartbeats 1000000
/-! PB: defs that may raise -/
namespace PF
open PySem PySem.Spec PyProof.Rows L2
structure FnX (P : Program) (w : World) (K : PySem.W.Frag) (mg : Str → Option Value) (base : Heap) (k : Nat) (f : Addr) (fd : FuncData) (ps : List Str) (sp : Sp) : Prop where
  len : ∀ vs H Q E, sp vs H Q E → vs.length = ps.length
  run : ∀ (A : Around) (outer : List Env) (s : Shared) (H : Hp) (args : Args) (us : List Value) (vs : List V) (Q : VK) (E : XK), Room k A → A.guards = some [] → Env0 P w K mg base A outer s H → BindsTo s fd args (ps.zip us) →
    Vals vs us → sp vs H Q E → codeAny (model P w) A (.call (.ref f) args) (CR (L2.CX P w) outer P w H s Q E) s
theorem FnX.mono {P : Program} {w : World} {K : PySem.W.Frag} {mg : Str → Option Value} {base : Heap} {j k : Nat} {f : Addr} {fd : FuncData} {ps : List Str} {sp : Sp} (F : FnX P w K mg base j f fd ps sp) (h : j ≤ k) : FnX P w K mg base k f fd ps sp :=
  ⟨F.len, fun A outer s H args us vs Q E hr => F.run A outer s H args us vs Q E (hr.mono h)⟩
section
variable {X : Cx} {pins : List (Addr × Obj)} {σ : L2.St} {H : Hp} {s : Shared} {k : Nat} {f : Addr} {fd : FuncData} {ps : List Str} {sp : Sp} {Wx : WX}
theorem run_x {args : Args} {us : List Value} {vs : List V} {Q : VK} (G : FnX X.prog X.w X.K X.mg X.base k f fd ps sp) (hr : Room k X.A) (hg : X.A.guards = some []) (tk : Takes X Wx) (I : Inv X pins σ H s) (hb : BindsTo s fd args (ps.zip us)) (hv : Vals vs us) (h : sp vs H Q (WE Wx σ)) :
    codeAny (model X.prog X.w) X.A (.call (.ref f) args) (wants (EP X pins σ Q) X.xe) s := by
  refine codeAny_mono (G.run X.A X.stack s H args us vs Q (WE Wx σ) hr hg I.env0 hb hv h) ?_
  intro r s' hq
  match r, hq with
  | .ok (.ret u), hq => exact I.after hq
  | .error e, hq => exact passAt tk σ pins H s e s' I hq
end
/-- data in, nothing lent -/
def liftSpX (K : PySem.W.Frag) (sp : ASp) : Sp := fun vs H Q E => ∃ (as : List AV) (O : List Addr), ArgsOk K O H vs as ∧ (∀ (i : Nat) ds, as[i]? ≠ some (.o ds)) ∧
  sp.run as (fun r as' => ∀ v H', Shape as as' → ArgsOk K O H' vs as' → (∀ a o, H a = some o → (∀ (i : Nat) ds, as[i]? = some (.o ds) → vs[i]? ≠ some (.ref a)) → H' a = some o) → RetOk K O H H' v r → AvA K O H' vs as' v r → Q v H') (fun c => ∀ H', Same H H' → E (.ref (He.ga K c)) none H')
def CallXOk (P : Program) (w : World) (K : PySem.W.Frag) (mg : Str → Option Value) (base : Heap) (k : Nat) (x : Str) (sp : ASp) : Prop :=
  ∃ f fd ps, FnX P w K mg base k f fd ps (liftSpX K sp) ∧ mg x = some (.ref f) ∧ PySem.W.keepIn K (.ref f) = true ∧ Binds K fd ps []
def CallXKOk (P : Program) (w : World) (K : PySem.W.Frag) (mg : Str → Option Value) (base : Heap) (k : Nat) (x : Str) (sp : ASp) (ps ks : List Str) : Prop :=
  ∃ f fd, FnX P w K mg base k f fd ps (liftSpX K sp) ∧ mg x = some (.ref f) ∧ PySem.W.keepIn K (.ref f) = true ∧
    ∀ (s : Shared) (ws : List Value), K.In s.heap → ws.length = ks.length → ∃ us, ps.mapM (fun p => (ks.zip ws).lookup p) = some us ∧ BindsTo s fd ⟨[], ks.zip ws⟩ (ps.zip us)
def TRof (K : PySem.W.Frag) (Wx : WX) (r : RE) : TE := fun σ H Q => ∃ (F : Fi) (O : List Addr) (env : AEnv), EnvOk K F O H σ env ∧ wR (xends K F O H Wx) r env (fun r env' => ∀ v H', EnvOk K F O H' σ env' → Chg O H H' → Res K O H H' σ v r → AvR K O H' σ env' v r → Q v H')
section
variable {X : Cx} {Wx : WX} {x : Str} {sp : ASp} {k : Nat} {p pos : Pos} {es : List Expr} {ees : Es} {R : List Nat}
theorem lift_x {K : PySem.W.Frag} {F : Fi} {O : List Addr} {H0 H : Hp} {σ : L2.St} {env env0 : AEnv} {sp : ASp} {vs : List V} {rs : List AV} {Q : AV → AEnv → Prop} {Qv : VK} (e : EnvOk K F O H σ env) (c : Chg O H0 H) (hr : ResAll K O H0 H σ vs rs) (hl : lent rs = []) (hq : callK sp rs env Q (xends K F O H0 Wx))
    (k : ∀ r env' v H', Q r env' → EnvOk K F O H' σ env' → Chg O H0 H' → Res K O H0 H' σ v r → AvR K O H' σ env' v r → Qv v H') : liftSpX K sp vs H Qv (WE Wx σ) := by
  obtain ⟨as, O1, a, n, q⟩ := call_liftC (XX := fun c => ∀ H', Same H H' → WE Wx σ (.ref (He.ga K c)) none H') e c hr hq (fun cl z H' sm => z σ H' O (e.grow sm) (.of (c.trans fun a o h _ => sm a o h))) k
  exact ⟨as, O1, a, n hl, q⟩
theorem tr_e {e : Expr} {a : E} (h : PE X e (TEof X.K a)) : PE X e (TRof X.K Wx (.e a)) := pe_weak h fun σ H Q ⟨F, O, env, eo, hw⟩ => ⟨F, O, env, eo, hw⟩
theorem tr_call (C : CallXOk X.prog X.w X.K X.mg X.base k x sp) (hr : Room k X.A) (hgd : X.A.guards = some []) (tk : Takes X Wx) (hg : Gl X x) (hdb : (x == ("__debug__" : Str)) = false) {e : Expr} (ha : PA X (e :: es) (TAof X.K ees))
    (he : starEach (e :: es) X.env = (false, eval e X.env) :: starEach es X.env) (hpl : (backTo pos (starEach es X.env)).any (·.1) = false) : PE X (.Call (.Name x p) (e :: es) [] pos) (TRof X.K Wx (.call x sp ees)) := by
  obtain ⟨f, fd, ps, G, hm, hk, hb⟩ := C
  refine ⟨fun pins s σ H Q I h => ?_⟩
  obtain ⟨F, O, env, eo, hw⟩ := h
  refine wpAny_Call_Name_kw (ld_glob I hg hm ?_ hdb)
  refine PySem.W.callWith_K (h₀ := X.base) I.ok.mod.kin hk ?_ he hpl
  refine thn (ha.run pos pins s σ H (fun vs H1 => liftSpX X.K sp vs H1 Q (WE Wx σ)) I (ta_then eo hw fun rs env1 vs H1 q1 e1 c1 s1 => lift_x (env0 := env) e1 c1 s1 q1.1 q1.2 fun r env' v H' q e c s a => q v H' e c s a)) ?_
  rintro us s1 ⟨vs, H1, I1, rv, q⟩
  have hl : (us ++ []).length = ps.length := by rw [List.append_nil, ← rv.length]; exact G.len _ _ _ _ q
  have hb' := hb s1 us I1.kIn hl
  rw [List.append_nil] at hb'
  exact ⟨I1.kIn, wpAny_call (run_x G hr hgd tk I1 hb' rv q)⟩
theorem tr_callK {ps ks : List Str} {kws : List Keyword} (C : CallXKOk X.prog X.w X.K X.mg X.base k x sp ps ks) (hr : Room k X.A) (hgd : X.A.guards = some []) (tk : Takes X Wx) (hg : Gl X x) (hdb : (x == ("__debug__" : Str)) = false) (ha : PK X kws (TAof X.K ees)) (hlen : lenEs ees = ks.length)
    (hall : (backToKw pos (keywordEach kws X.env)).all (·.1.isSome) = true) (hks : (backToKw pos (keywordEach kws X.env)).filterMap (·.1) = ks) (hpl : ((backTo pos (starEach [] X.env)).any (·.1) || (backToKw pos (keywordEach kws X.env)).any (·.1.isNone)) = false) :
    PE X (.Call (.Name x p) [] kws pos) (TRof X.K Wx (.callK x sp ps ks ees)) := by
  obtain ⟨f, fd, G, hm, hk, hb⟩ := C
  refine ⟨fun pins s σ H Q I h => ?_⟩
  obtain ⟨F, O, env, eo, hw⟩ := h
  refine wpAny_Call_Name_kw (ld_glob I hg hm ?_ hdb)
  refine PySem.W.callWith_KW0 (h₀ := X.base) I.ok.mod.kin hk hall ?_ hpl
  rw [hks]
  unfold wR at hw
  refine thn (ha.run pos pins s σ H (fun vs H1 => ∃ rs env1, rs.length = ks.length ∧ ResAll X.K O H H1 σ vs rs ∧ EnvOk X.K F O H1 σ env1 ∧ Chg O H H1 ∧ ∃ as, reorder ps ks rs = some as ∧ lent as = [] ∧ callK sp as env1 (fun r env' => ∀ v H', EnvOk X.K F O H' σ env' → Chg O H H' → Res X.K O H H' σ v r → AvR X.K O H' σ env' v r → Q v H') (xends X.K F O H Wx)) I ?_) ?_
  · refine ta_then eo (wEs_len hw) fun rs env1 vs H1 q1 e1 c1 s1 => ?_
    obtain ⟨q0, q1⟩ := q1
    refine ⟨rs, env1, q0.trans hlen, s1, e1, c1, ?_⟩
    split at q1
    · rename_i as has
      exact ⟨as, has, q1⟩
    · exact q1.elim
  · rintro us s1 ⟨vs, H1, I1, rv, rs, env1, hl, hs, e1, c1, as, has, ln, q⟩
    obtain ⟨ws, hws, hbt⟩ := hb s1 us I1.kIn (by rw [← rv.length, resAll_len hs]; exact hl)
    obtain ⟨zs, hz, hzr⟩ := mapM_res hs rv has hws
    have q2 : liftSpX X.K sp zs H1 Q (WE Wx σ) := lift_x (env0 := env) e1 c1 hzr ln q fun r env' v H' q e c s a => q v H' e c s a
    exact ⟨I1.kIn, wpAny_call (run_x G hr hgd tk I1 hbt hz q2)⟩
theorem tr_then {r : RE} {F : Fi} {σ : L2.St} {H H0 : Hp} {O : List Addr} {env : AEnv} {q : AV → AEnv → Prop} {Q : VK} {K : PySem.W.Frag} (eo : EnvOk K F O H σ env) (x : Ext O H0 O H) (hw : wR (xends K F O H0 Wx) r env q)
    (k : ∀ r env1 v H1, q r env1 → EnvOk K F O H1 σ env1 → Chg O H H1 → Res K O H H1 σ v r → AvR K O H1 σ env1 v r → Q v H1) : TRof K Wx r σ H Q :=
  ⟨F, O, env, eo, wR_mx (xends_ext x) r (fun r env1 h v H1 e1 c1 r1 a1 => k r env1 v H1 h e1 c1 r1 a1) hw⟩
theorem tr_ife {c a b : Expr} {ec : E} {ra rb : RE} (hc : PT X c (TTof X.K ec)) (ha : PE X a (TRof X.K Wx ra)) (hb : PE X b (TRof X.K Wx rb)) : PE X (.IfExp c a b pos) (TRof X.K Wx (.ife ec ra rb)) :=
  pe_weak (pe_ifExp hc ha hb) fun σ H Q ⟨F, O, env, eo, hw⟩ => tt_then (q := fun t env1 => if t = true then wR (xends X.K F O H Wx) ra env1 _ else wR (xends X.K F O H Wx) rb env1 _) eo hw fun t env1 H1 q1 e1 c1 =>
    ite_mono (fun q => tr_then e1 (.of c1) q fun r2 env2 v2 H2 q2 e2 c2 s2 a2 => q2 v2 H2 e2 (c1.trans c2) (s2.back c1) a2) (fun q => tr_then e1 (.of c1) q fun r2 env2 v2 H2 q2 e2 c2 s2 a2 => q2 v2 H2 e2 (c1.trans c2) (s2.back c1) a2) q1
theorem ts_rexpr {e : Expr} {r : RE} (he : PE X e (TRof X.K Wx r)) (hs : swapsWith e none pos.line X.env = pure false) : PS X (.Expr e pos) (TSof X.K Wx R (.rexpr r)) :=
  ps_weak (ps_expr he hs) fun D σ H ⟨F, O, env, fr, eo, hw⟩ => tr_then eo .refl hw fun r env1 v H1 q e1 c1 s1 a1 => q _ _ O e1 (.of c1)
theorem ts_rret {e : Expr} {r : RE} (he : PE X e (TRof X.K Wx r)) : PS X (.Return (some e) pos) (TSof X.K Wx R (.rret r)) :=
  ps_weak (ps_ret he) fun D σ H ⟨F, O, env, fr, eo, hw⟩ => tr_then eo .refl hw fun r env1 v H1 q e1 c1 s1 a1 => by
    refine q v σ H1 O e1 ?_ a1
    cases r with
    | d x => exact s1
    | b j => exact s1
    | m _ => exact s1
    | o ds =>
      obtain ⟨p, vs, rfl, n, no, hp, hd⟩ := s1
      exact ⟨p, vs, rfl, eo.fresh0 n, no, hp, hd⟩
    | p ds x =>
      obtain ⟨q, p, vs, w, rfl, n, no, hq, np, nop, hp, hd, hw⟩ := s1
      exact ⟨q, p, vs, w, rfl, eo.fresh0 n, no, hq, eo.fresh0 np, nop, hp, hd, hw⟩
/-! ### raise -/
structure RaisOk (K : PySem.W.Frag) (mg : Str → Option Value) (c : Str) : Prop where
  k : ClsOk K mg c
  s : PySem.W.subIn K (.ref (He.ga K c)) (.type "BaseException") = some true
  t : PySem.W.typeIn K (.ref (He.ga K c)) = some (.type "type")
theorem ts_raiseX {c s : Str} {j : Nat} {p2 : Pos} (C : RaisOk X.K X.mg c) (hc : X.calm = true) (tk : Takes X Wx) (hg : Gl X c) (hd : (c == ("__debug__" : Str)) = false) {pos' : Pos} : PS X (.Raise (some (.Call (.Name c p) [.Constant (.str s) j p2] [] pos)) none pos') (TSof X.K Wx R (.raiseX c s)) :=
  ps_weak (ps_raise hc tk (pmk_own PySem.F.excBase_ValueError C.k.e C.k.g C.k.k (raises_own C.s C.t) hg hd)) fun D σ H ⟨F, O, env, fr, eo, hw⟩ => hw σ H O eo .refl
end
/-! ### try: what is caught is kept -/
structure Top (X : Cx) : Prop where
  s : X.stack = X.env :: X.outer
  f : X.env.frame = some X.env.locals
  x : X.ex = []
structure CatchOk (K : PySem.W.Frag) (mg : Str → Option Value) (c : Str) (cs : List Str) : Prop where
  g : mg c = some (.ref (He.ga K c))
  t : ∀ c' ∈ cs, ObjC K c' ∧ PySem.W.exmOne K (.ref (He.ga K c')) (.ref (He.ga K c)) = some true
theorem EnvOk.setN {K : PySem.W.Frag} {F : Fi} {O : List Addr} {H : Hp} {σ : L2.St} {env : AEnv} (e : EnvOk K F O H σ env) {i : Nat} {w : Option V} (hi : ∀ p, F.par i ≠ some p) : EnvOk K F O H (σ.set i w) (setE env i none) := by
  have gs : ∀ j, j ≠ i → (σ.set i w)[j]? = σ[j]? := fun j hj => List.getElem?_set_ne (Ne.symm hj)
  have ge : ∀ j v, getE (setE env i none) j = some v → j ≠ i ∧ getE env j = some v := fun j v q => by
    rw [get_set] at q
    split at q
    · split at q <;> cases q
    · exact ⟨by assumption, q⟩
  refine ⟨by rw [List.length_set, setE_len]; exact e.len, fun j y q => ?_, fun j ds q => ?_, fun j m q => e.nob j m (ge j _ q).2, fun j m ds ds' p q1 q2 r1 r2 => ?_, e.live, e.sub, e.new, e.keep, fun j ds p q r => ?_, fun j p q => ?_, ?_⟩
  · obtain ⟨h1, h2⟩ := ge j _ q
    rw [gs j h1]
    exact e.dat j y h2
  · obtain ⟨h1, h2⟩ := ge j _ q
    rw [gs j h1]
    exact e.own j ds h2
  · obtain ⟨h1, h2⟩ := ge j _ q1
    obtain ⟨h3, h4⟩ := ge m _ q2
    rw [gs j h1] at r1
    rw [gs m h3] at r2
    exact e.inj j m ds ds' p h2 h4 r1 r2
  · obtain ⟨h1, h2⟩ := ge j _ q
    rw [gs j h1] at r
    exact e.ownF j ds p h2 r
  · have hj : j ≠ i := fun z => by subst z; exact hi p q
    rw [gs j hj, get_set_ne hj]
    exact e.par j p q
  · refine e.dic.move (fun j kvs q => ?_) (fun p us q n => ⟨q, n⟩) fun _ z => z
    obtain ⟨h1, h2⟩ := ge j _ q
    exact ⟨h2, gs j h1⟩
section
variable {X : Cx} {Wx : WX} {R : List Nat}
theorem ts_tryC {x n y : Str} {i j : Nat} {body : List Stmt} {np py pm sp pos pos' : Pos} {ss : Ss} {cs : List Str} (hs : X.stack = X.env :: X.outer) (hf : X.env.frame = some X.env.locals) (hex : X.ex = []) (hN : X.N.Nodup) (hi : X.N[i]? = some n) (hln : X.env.kindOf n = some .local)
    (v2 : Vis X.env.scope n) (v3 : (n == ("__debug__" : Str)) = false) (v4 : (n == ("__classdict__" : Str)) = false) (hj : X.N[j]? = some y ∧ Loc X.env.scope y ∧ (X.fn y = true ∨ X.env.scope.names.lookup y = some .local)) (fi : i ∉ R) (fj : j ∉ R) (hij : i ≠ j) (hg : Gl X x) (hdb : (x == ("__debug__" : Str)) = false) (C : CatchOk X.K X.mg x cs)
    (hb : ∀ (W : WX) (pn : List (Addr × Obj)) (xe : Value → Shared → Prop), Takes (X.tr pn xe) W → PassesOwn (model X.prog X.w) X.A X.env xe → PSs (X.tr pn xe) body (TSsof X.K W R ss)) :
    PS X (.Try body [.ExceptHandler (some (.Name x np)) (some n) [.Assign [.Name y py] (.Name n pm) sp] pos'] [] [] pos) (TSof X.K Wx R (.tryC ss x cs i j)) := by
  refine ps_weak (_root_.PT.ps_tryT (c := .ref (He.ga X.K x)) (tb := fun W => TSsof X.K W R ss) (ts := fun a cls d => tAsg (tVar i) (gName j)) hs hf hex hN hi hln ⟨hg, hdb, .inl C.g⟩ (by simp) hb (fun a oe cls d pn => ?_)) fun D σ H ⟨F, O, env, fr, eo, hw⟩ => ?_
  · exact pss_weak (pss_cons (ps_set (X := X.suite a ((a, oe) :: pn)) hN hj.1 hj.2.1 (pe_var hi v2 v3 v4) rfl hj.2.2) pss_nil) fun D σ H h => h
  · refine ⟨F, O, env, fr, eo, wSs_mx ss (fun c' env1 q σ' H' O' e1 x1 => ?_) ⟨fun _ h => h, fun _ _ h => h, fun _ h => h, fun _ h => h⟩ hw⟩
    obtain ⟨hc, hil, q⟩ := q
    obtain ⟨oc, ex⟩ := C.t c' hc
    refine ⟨rfl, ex, fun a ha => ?_⟩
    have il : i < σ'.length := by rw [e1.len]; exact hil
    refine ⟨.ref a, List.getElem?_set_self il, fun _ => ?_⟩
    have e2 := (e1.grow (same_new (o := _root_.PT.ExW (.ref (He.ga X.K c')) a) ha)).setN (w := none) (fr.no fi)
    have e3 := e2.setD (v := .ref a) (x := objD c') (fr.no fj) (.obj oc (by rw [wo_out (e1.notO ha), upd_same]))
    have es : ((σ'.set i (some (V.ref a))).set j (some (V.ref a))).set i none = (σ'.set i none).set j (some (V.ref a)) := by
      rw [List.set_comm _ _ (Ne.symm hij), List.set_set]
    show D.nx (((σ'.set i (some (V.ref a))).set j (some (V.ref a))).set i none) _
    rw [es]
    exact q _ _ O' e3 (x1.trans (.of (chg_new ha)))
end
end PF

set_option maxRecDepth 100000
set_option maxHeartbeats 4000000
namespace PF
open PySem PySem.Spec PyProof.Rows L2
/-! ### exceptions that keep their argument; fields; texts -/
structure InOk (P : Program) (K : PySem.W.Frag) (mg : Str → Option Value) (c f : Str) : Prop where
  o : ObjC K c
  a : AttC K c f
  g : mg c = some (.ref (He.ga K c))
  s : mg "super" = none
  i : ∃ fI, _root_.XO.InitC P K (He.ga K c) fI f ∧
    (∀ (s : Shared) (a u : Value) fd body scope qual cda cc, _root_.XO.InitF P K (He.ga K c) fI f fd body scope qual cda cc → BindsTo s fd ⟨[a, u], []⟩ [("self", a), (f, u)]) ∧
    (∀ (s : Shared) (a u : Value) fd body scope qual cda cc, _root_.XO.InitF P K (He.ga K c) fI f fd body scope qual cda cc → BindsTo s fd ⟨[a], [(f, u)]⟩ [("self", a), (f, u)])
section
variable {X : Cx} {a b : Expr} {ea eb : E} {p pos : Pos} {k : Nat}
theorem made_own {K : PySem.W.Frag} {F : Fi} {O : List Addr} {H0 H : Hp} {σ : L2.St} {env : AEnv} {c f : Str} {v : V} {x : PyData} {Q : VK} (C : ObjC K c) (A : AttC K c f) (eo : EnvOk K F O H σ env) (c0 : Chg O H0 H) (hx : Dp K (Wo H O) v x)
    (q : ∀ w H', EnvOk K F O H' σ env → Chg O H0 H' → Res K O H0 H' σ w (.d (objA c f x)) → AvR K O H' σ env w (.d (objA c f x)) → Q w H') (a dx : Addr) (ha : H a = none) (hd : H dx = none) (hn : dx ≠ a) :
    Q (.ref a) (upd (upd H dx (.xd [(f, v)])) a (_root_.XO.ExV (.ref (He.ga K c)) (some dx) a)) := by
  have hat : upd H dx (.xd [(f, v)]) a = none := by rw [upd_ne (Ne.symm hn)]; exact ha
  have e1 := eo.grow (same_new (o := .xd [(f, v)]) hd)
  have e2 := e1.grow (same_new (o := _root_.XO.ExV (.ref (He.ga K c)) (some dx) a) hat)
  have cc : Chg O H (upd (upd H dx (.xd [(f, v)])) a (_root_.XO.ExV (.ref (He.ga K c)) (some dx) a)) := (chg_new hd).trans (chg_new hat)
  refine q (.ref a) _ e2 (c0.trans cc) (show Dp K (Wo _ O) (.ref a) (objA c f x) from .objA C A (by rw [wo_out (eo.notO ha), upd_same]) ?_ (dp_mono cc.wo hx)) trivial
  rw [wo_out (eo.notO hd), upd_ne hn, upd_same]
theorem te_mkA {c f : Str} (C : InOk X.prog X.K X.mg c f) (hr : Room k X.A) (hk : 2 ≤ k) (hg : Gl X c) (hd : (c == ("__debug__" : Str)) = false) (ha : PE X a (TEof X.K ea)) (he : starEach [a] X.env = (false, eval a X.env) :: starEach [] X.env) :
    PE X (.Call (.Name c p) [a] [] pos) (TEof X.K (.mkA c f false ea)) := by
  obtain ⟨fI, T, b1, b2⟩ := C.i
  obtain ⟨k', rfl⟩ : ∃ k', k = k' + 2 := ⟨k - 2, by omega⟩
  refine pe_weak (_root_.XO.pe_own T C.s hr C.g hg b1 ha he hd) fun σ H Q ⟨F, O, env, eo, hw⟩ => te_then eo hw fun r1 env1 v1 H1 q1 e1 c1 s1 a1 => ?_
  obtain ⟨x, q, hx⟩ := res_data s1 q1
  exact made_own C.o C.a e1 c1 hx q
theorem te_mkAK {c f : Str} {kws : List Keyword} (C : InOk X.prog X.K X.mg c f) (hr : Room k X.A) (hk : 2 ≤ k) (hg : Gl X c) (hd : (c == ("__debug__" : Str)) = false) (ha : PK X kws (TAof X.K (.cons ea .nil)))
    (hall : (backToKw pos (keywordEach kws X.env)).all (·.1.isSome) = true) (hks : (backToKw pos (keywordEach kws X.env)).filterMap (·.1) = [f]) (hpl : ((backTo pos (starEach [] X.env)).any (·.1) || (backToKw pos (keywordEach kws X.env)).any (·.1.isNone)) = false) :
    PE X (.Call (.Name c p) [] kws pos) (TEof X.K (.mkA c f true ea)) := by
  obtain ⟨fI, T, b1, b2⟩ := C.i
  obtain ⟨k', rfl⟩ : ∃ k', k = k' + 2 := ⟨k - 2, by omega⟩
  refine pe_weak (_root_.XO.pe_ownK T C.s hr C.g hg b2 ha hall hks hpl hd) fun σ H Q ⟨F, O, env, eo, hw⟩ => ?_
  refine ta_then (q := fun rs env1 => ∃ r, rs = [r] ∧ dataK r fun x => ∀ v H', EnvOk X.K F O H' σ env1 → Chg O H H' → Res X.K O H H' σ v (.d (objA c f x)) → AvR X.K O H' σ env1 v (.d (objA c f x)) → Q v H') eo ?_ fun rs env1 vs H1 q1 e1 c1 s1 => ?_
  · refine wE_mono ea (fun r e h => ?_) hw
    exact ⟨r, rfl, h⟩
  · obtain ⟨r, rfl, q1⟩ := q1
    match vs, s1 with
    | [v1], s1 =>
      obtain ⟨x, q, hx⟩ := res_data s1.1 q1
      exact ⟨v1, rfl, made_own C.o C.a e1 c1 hx q⟩
theorem te_mkV {c : Str} (C : ClsOk X.K X.mg c) (hg : Gl X c) (hd : (c == ("__debug__" : Str)) = false) (ha : PE X a (TEof X.K ea)) (he : starEach [a] X.env = (false, eval a X.env) :: starEach [] X.env) :
    PE X (.Call (.Name c p) [a] [] pos) (TEof X.K (.un (.mkV c) ea)) :=
  pe_weak (_root_.PT.pe_exT PySem.F.excBase_ValueError C.e C.g C.k hg ha he hd) fun σ H Q ⟨F, O, env, eo, hw⟩ => te_then eo hw fun r1 env1 v1 H1 q1 e1 c1 s1 a1 => by
    obtain ⟨x, q, hx⟩ := res_rd e1 s1 q1
    unfold unK at q
    dsimp only at q
    split at q
    · rename_i s
      intro a t ha ht nat
      cases hx
      have hat : upd H1 t (.tup [.str s]) a = none := by rw [upd_ne nat]; exact ha
      have e2 := e1.grow (same_new (o := .tup [.str s]) ht)
      have e3 := e2.grow (same_new (o := _root_.PT.ExT (.ref (He.ga X.K c)) a t) hat)
      refine q (.ref a) _ e3 (c1.trans ((chg_new ht).trans (chg_new hat))) (show Dp X.K (Wo (upd (upd H1 t (.tup [.str s])) a (_root_.PT.ExT (.ref (He.ga X.K c)) a t)) O) (.ref a) (objM c s) from .objM C.o C.n (by rw [wo_out (e1.notO ha), upd_same]) ?_) trivial
      rw [wo_out (e1.notO ht), upd_ne (Ne.symm nat), upd_same]
    · exact q.elim
/-- a field of an exception object -/
theorem pe_fld {e : Expr} {te : TE} {n : Str} (he : PE X e te) (hb : attributeBase e n X.env (eval e X.env) = eval e X.env) :
    PE X (.Attribute e n pos) (fun σ H Q => te σ H fun x H1 => ∃ (C a dd : Addr) (fs : List (Str × V)) (v : V), x = .ref a ∧ XfC X.K C ∧ PySem.W.findIn X.K (.ref C) n = some none ∧ H1 a = some (_root_.XO.ExV (.ref C) (some dd) a) ∧ H1 dd = some (.xd fs) ∧ fs.lookup n = some v ∧ Q v H1) := by
  refine ⟨fun pins s σ H Q I h => ?_⟩
  refine attr_of hb (thn (he.run pins s σ H _ I h) fun u s1 hh => ?_)
  obtain ⟨x, H1, I1, rx, C, a, dd, fs, v, ex, T, hno, ha, ea, l, q⟩ := hh
  subst ex
  obtain rfl : u = Value.ref a := rx
  obtain ⟨⟨oe, ho, hz, vs, hd⟩, _, _⟩ := I1.hok a _ ha
  have hx : ObjOk X.prog X.w H1 s1.heap dd (.xd fs) := I1.hok dd _ ea
  obtain ⟨mA, hns, hr⟩ := hx
  obtain ⟨od, hod, hl⟩ := lookIn_ns hns
  obtain ⟨u, hu, ru⟩ := RelO.some_of (v := v) (o := mA n) (by rw [← l]; exact hr n)
  have J : PySem.W.InstAt s1.heap a oe C (some od) := ⟨ho, hz.1, by unfold PySem.W.notCls; rw [hd] <;> rfl, by rw [hz.2]; exact hod⟩
  exact HandSPX.exc_get I1.kIn J T.ga T.gg T.exC (PySem.W.findObj_own T.hdC hno rfl (by rw [hl, hu])) (handed_of ru) ⟨v, H1, I1.tok _, ru, q⟩
theorem te_att {f : Str} (ha : PE X a (TEof X.K ea)) (hb : attributeBase a f X.env (eval a X.env) = eval a X.env) : PE X (.Attribute a f pos) (TEof X.K (.un (.att f) ea)) :=
  pe_weak (pe_fld ha hb) fun σ H Q ⟨F, O, env, eo, hw⟩ => te_then eo hw fun r1 env1 v1 H1 q1 e1 c1 s1 a1 => by
    obtain ⟨x, q, hx⟩ := res_rd e1 s1 q1
    unfold unK at q
    dsimp only at q
    split at q
    · rename_i c0 g y
      obtain ⟨rfl, q⟩ := q
      have hx' : Dp X.K (Wo H1 O) v1 (.dict [(.none, .tuple [.str c0, .str g, y])]) := hx
      generalize ed : PyData.dict [(.none, .tuple [.str c0, .str g, y])] = d at hx'
      cases hx' with
      | obj oc h => unfold objD at ed; cases ed
      | objM oc n h t => unfold objM at ed; cases ed
      | objA oc A h t d =>
        unfold objA at ed
        cases ed
        exact ⟨_, _, _, _, _, rfl, A.x, A.n, wo_all _ _ h, wo_all _ _ t, by simp, q _ _ e1 c1 d trivial⟩
      | ktup h k => unfold kD at ed; cases ed
      | _ => cases ed
    · exact q.elim
theorem te_instV {pc : Pos} (hg : Gl X "isinstance") (hm : X.mg "isinstance" = none) (hg2 : Gl X "ValueError") (hm2 : X.mg "ValueError" = none) (ha : PE X a (TEof X.K ea)) (he : starEach [a, .Name "ValueError" pc] X.env = (false, eval a X.env) :: starEach [.Name "ValueError" pc] X.env)
    (hpl : (backTo pos (starEach [.Name "ValueError" pc] X.env)).any (·.1) = false) : PE X (.Call (.Name "isinstance" p) [a, .Name "ValueError" pc] [] pos) (TEof X.K (.un .instV ea)) :=
  pe_weak (pe_callB call_isO hg hm (by decide +kernel) (pa_cons ha (pa_cons (te_tyname (n := "ValueError") hg2 hm2 PyProof.Rows.Boot.«ValueError» (by decide) (by decide)) pa_nil rfl) he) (by decide +kernel) (by decide +kernel) he hpl) fun σ H Q ⟨F, O, env, eo, hw⟩ => te_then eo hw fun r1 env1 v1 H1 q1 e1 c1 s1 a1 => by
    obtain ⟨x, q, hx⟩ := res_rd e1 s1 q1
    unfold unK at q
    dsimp only at q
    split at q
    · rename_i y
      have q' := q _ _ e1 c1 (.bl true) trivial
      have hx' : Dp X.K (Wo H1 O) v1 (.dict [(.none, y)]) := hx
      generalize ed : PyData.dict [(.none, y)] = d at hx'
      cases hx' with
      | obj oc h => exact ⟨_, _, _, _, _, rfl, .ty _, oc.ex, .inl (.inl (wo_all _ _ h)), oc.ve, q'⟩
      | objM oc n h t => exact ⟨_, _, _, _, _, rfl, .ty _, oc.ex, .inl (.inr ⟨_, wo_all _ _ h⟩), oc.ve, q'⟩
      | objA oc A h t d => exact ⟨_, _, _, _, _, rfl, .ty _, oc.ex, .inr ⟨_, _, wo_all _ _ h, wo_all _ _ t⟩, oc.ve, q'⟩
      | ktup h k => unfold kD at ed; cases ed
      | _ => cases ed
    · exact q.elim
theorem te_lenS (hg : Gl X "len") (hm : X.mg "len" = none) (ha : PE X a (TEof X.K ea)) (he : starEach [a] X.env = (false, eval a X.env) :: starEach [] X.env) : PE X (.Call (.Name "len" p) [a] [] pos) (TEof X.K (.un .lenS ea)) :=
  pe_weak (pe_callB call_len hg hm (by decide +kernel) (pa_cons ha pa_nil he) (by decide +kernel) (by decide +kernel) he rfl) fun σ H Q ⟨F, O, env, eo, hw⟩ => te_then eo hw fun r1 env1 v1 H1 q1 e1 c1 s1 a1 => by
    obtain ⟨x, q, hx⟩ := res_rd e1 s1 q1
    unfold unK at q
    dsimp only at q
    split at q
    · cases hx
      exact ⟨_, _, rfl, ⟨q.1, rfl⟩, q.2 _ _ e1 c1 (.int _) trivial⟩
    · exact q.elim
theorem strs_vals {K : PySem.W.Frag} {H : Hp} : ∀ {vs : List V} {xs : List PyData} {ys : List Str}, DpAll K H vs xs → strsOf xs = some ys → vs = ys.map V.str
  | _, _, ys, .nil, e => by cases e; rfl
  | _, _, ys, .cons (d := .str s) (ds := ds) h t, e => by
    unfold strsOf at e
    cases z : strsOf ds with
    | none => rw [z] at e; cases e
    | some zs =>
      rw [z] at e
      cases e
      cases h
      rw [strs_vals t z]
      rfl
theorem te_join {j : Nat} {ps pa : Pos} (ha : PE X a (TEof X.K ea)) (he : starEach [a] X.env = [(false, eval a X.env)]) (hl : (pa.endLine == pos.line) = true) :
    PE X (.Call (.Attribute (.Constant (.str Str.empty) j ps) "join" pa) [a] [] pos) (TEof X.K (.un .join ea)) :=
  pe_weak (pe_join pe_str ha he rfl hl) fun σ H Q ⟨F, O, env, eo, hw⟩ => ⟨⟨_, rfl⟩, te_then eo hw fun r1 env1 v1 H1 q1 e1 c1 s1 a1 => by
    obtain ⟨x, q, hx⟩ := res_rd e1 s1 q1
    unfold unK at q
    dsimp only at q
    split at q
    · split at q
      · rename_i ds ys hy
        obtain ⟨p, us, rfl, s2, d2⟩ := hx
        have ev := strs_vals d2 hy
        subst ev
        exact ⟨_, _, _, rfl, rfl, .inl s2, by show _ + ys.length * 0 ≤ _; have := q.1; omega, q.2 _ _ _ e1 c1 (.str _) trivial⟩
      · exact q.elim
    · exact q.elim⟩
theorem te_ixS (ha : PE X a (TEof X.K ea)) (hb : PE X b (TEof X.K eb)) (hs : PlainIx b) : PE X (.Subscript a b pos) (TEof X.K (.ixS ea eb)) :=
  pe_weak (pe_item_str ha hb hs) fun σ H Q ⟨F, O, env, eo, hw⟩ => te_then eo hw fun r1 env1 v1 H1 q1 e1 c1 s1 a1 => te_then e1 q1 fun r2 env2 v2 H2 q2 e2 c2 s2 a2 => by
    obtain ⟨dx, q2, hx⟩ := res_rd e2 (s1.chg c2) q2
    obtain ⟨dy, q2, hy⟩ := res_rd e2 s2 q2
    unfold ixSK at q2
    split at q2
    · rename_i z i _
      obtain ⟨⟨h0, h1, h2⟩, q2⟩ := q2
      cases hx
      cases hy
      have hi : i.toNat < z.cps.size := by
        have : z.length = z.cps.size := rfl
        omega
      obtain ⟨c, hc⟩ : ∃ c, z.cps[i.toNat]? = some c := ⟨_, Array.getElem?_eq_getElem hi⟩
      exact ⟨_, _, c, rfl, rfl, h0, h1, h2, hc, q2 c hc _ _ e2 (c1.trans c2) (.str _) trivial⟩
    · exact q2.elim
end
end PF

set_option maxRecDepth 100000
set_option maxHeartbeats 1000000
namespace PF
open PySem PySem.Spec PyProof.Rows L2
/-- what is called, what is named -/
structure Lk where
  C : Str → ASp → Prop
  CK : Str → ASp → List Str → List Str → Prop
  G : Str → PyData → Prop
  O : Str → Prop
  R : Str → ASp → Prop
  RK : Str → ASp → List Str → List Str → Prop
  X : Str → Prop
  T : Str → List Str → Prop
  I : Str → List (Str × Bool) → Prop
  A : Str → Str → Prop
def okUN (L : Lk) : UN → Prop
  | .mkV c => L.O c
  | .att _ | .instV | .join | .lenS => True
mutual
def okE (L : Lk) : E → Prop
  | .var _ | .int _ | .bool _ | .none | .str _ => True
  | .glob x v => L.G x v
  | .bin _ a b => okE L a ∧ okE L b
  | .neg a => okE L a
  | .rep a b => okE L a ∧ okE L b
  | .not a => okE L a
  | .and a b => okE L a ∧ okE L b
  | .or a b => okE L a ∧ okE L b
  | .cmp _ a b => okE L a ∧ okE L b
  | .chain _ _ a b c => okE L a ∧ okE L b ∧ okE L c
  | .ife c a b => okE L c ∧ okE L a ∧ okE L b
  | .tup es => okEs L es
  | .lst es => okEs L es
  | .ix a b => okE L a ∧ okE L b
  | .slL a b => okE L a ∧ okE L b
  | .slU a b => okE L a ∧ okE L b
  | .slLU a b c => okE L a ∧ okE L b ∧ okE L c
  | .slRev a => okE L a
  | .call x sp es => L.C x sp ∧ okEs L es
  | .callK x sp ps ks es => L.CK x sp ps ks ∧ okEs L es
  | .callO x sp a => L.C x sp ∧ okE L a
  | .callM x sp es => L.C x sp ∧ okEs L es
  | .callR x sp es => L.C x sp ∧ okEs L es
  | .mkE c _ => L.O c
  | .un f a => okUN L f ∧ okE L a
  | .mkA c f _ e => L.A c f ∧ okE L e
  | .ixS a i => okE L a ∧ okE L i
  | .bi _ es => okEs L es
  | .instC a c ts => L.I c ts ∧ okE L a
  | .inst a _ => okE L a
  | .lrg1 a => okE L a
  | .lrg2 a b => okE L a ∧ okE L b
  | .lrg3 a b c => okE L a ∧ okE L b ∧ okE L c
  | .pop _ i => okE L i
  | .ixOf a b => okE L a ∧ okE L b
  | .ssort a => okE L a
  | .din _ _ ke => okE L ke
  | .dkeys _ | .dsort _ => True
  | .comp elt _ c _ it _ => okE L elt ∧ okE L c ∧ okIt L it
def okEs (L : Lk) : Es → Prop
  | .nil => True
  | .cons e es => okE L e ∧ okEs L es
def okIt (L : Lk) : PF.It → Prop
  | .seq e => okE L e
  | .range1 a => okE L a
  | .range2 a b => okE L a ∧ okE L b
  | .range3 a b c => okE L a ∧ okE L b ∧ okE L c
  | .enum e => okE L e
  | .zip a b => okE L a ∧ okE L b
  | .zip3 a b c => okE L a ∧ okE L b ∧ okE L c
end
structure Whr (P : Program) (w : World) (K : PySem.W.Frag) (mg : Str → Option Value) (base : Heap) (k : Nat) (Z : Sc) (X : Cx) : Prop where
  g : Good Z k X
  prog : X.prog = P
  w : X.w = w
  K : X.K = K
  mg : X.mg = mg
  base : X.base = base
  bn : ∀ x ∈ bnames, X.mg x = none
def lkOf (P : Program) (w : World) (K : PySem.W.Frag) (mg : Str → Option Value) (base : Heap) (k : Nat) : Lk := ⟨fun x sp => CallOk P w K mg base k x sp, fun x sp ps ks => CallKOk P w K mg base k x sp ps ks, fun x d => GlobOk K mg x d, fun c => ClsOk K mg c, fun x sp => CallXOk P w K mg base k x sp, fun x sp ps ks => CallXKOk P w K mg base k x sp ps ks, fun c => RaisOk K mg c, fun c cs => CatchOk K mg c cs, fun c ts => InstOk K mg c ts, fun c f => 2 ≤ k ∧ InOk P K mg c f⟩
section
variable {P : Program} {w : World} {K : PySem.W.Frag} {mg : Str → Option Value} {base : Heap} {k : Nat} {Z : Sc} {X : Cx}
theorem Whr.u (c : Whr P w K mg base k Z X) : X.A.units + 70 < cLine := by have := c.g.room.un; omega
theorem Whr.gl (c : Whr P w K mg base k Z X) {x : Str} (h : glIs Z x = true) : Gl X x ∧ (x == ("__debug__" : Str)) = false := by
  unfold glIs plainNm at h
  simp only [Bool.and_eq_true, decide_eq_true_eq, Bool.not_eq_true'] at h
  refine ⟨?_, h.2.1⟩
  show X.env.scope.names.lookup x = _
  rw [c.g.sc]
  exact h.1
theorem Whr.no (c : Whr P w K mg base k Z X) {x : Str} (h : x ∈ bnames) : X.mg x = none := c.bn x h
theorem Whr.var (c : Whr P w K mg base k Z X) {i : Nat} {x : Str} (h : nameIs Z i x = true) : X.N[i]? = some x ∧ Vis X.env.scope x ∧ (x == ("__debug__" : Str)) = false ∧ (x == ("__classdict__" : Str)) = false := by
  unfold nameIs plainNm at h
  simp only [Bool.and_eq_true, decide_eq_true_eq, Bool.not_eq_true'] at h
  refine ⟨by rw [c.g.hN]; exact h.1.1, ?_, h.2.1, h.2.2⟩
  rw [c.g.sc]
  have h2 := h.1.2
  unfold isVis at h2
  split at h2
  · exact .inl (by assumption)
  · exact .inr (.inl (by assumption))
  · exact .inr (.inr (by assumption))
  · cases h2
theorem Whr.store (c : Whr P w K mg base k Z X) {i : Nat} {x : Str} (h : storeIs Z i x = true) : X.N[i]? = some x ∧ Loc X.env.scope x ∧ (X.fn x = true ∨ X.env.scope.names.lookup x = some .local) := by
  unfold storeIs at h
  simp only [Bool.and_eq_true, Bool.or_eq_true, decide_eq_true_eq] at h
  refine ⟨by rw [c.g.hN]; exact h.1, ?_, ?_⟩
  · rw [c.g.sc]
    rcases h.2 with q | q
    · exact .inl q
    · exact .inr q.1
  · rw [c.g.sc]
    rcases h.2 with q | q
    · exact .inr q
    · exact .inl (c.g.fn x q.2)
theorem Whr.nd (c : Whr P w K mg base k Z X) : X.N.Nodup := by rw [c.g.hN]; exact c.g.nd
/-- in a comprehension's block -/
theorem Whr.blk (c : Whr P w K mg base k Z X) {scope : Scope} (hs : scope.kind = .function) (s : Shared) (H : Hp) (C : Addr) (cl : List (Str × Addr)) (fp : List Addr) : Whr P w K mg base k (Z.blk scope) (X.blk s H scope (compEnvC scope cl C X.env) fp) := by
  refine ⟨⟨c.g.hN, c.g.nd, ?_, hs, fun x h => h, c.g.calm, c.g.room, c.g.guards, PassesOwn.never⟩, c.prog, c.w, c.K, c.mg, c.base, c.bn⟩
  show relS scope X.env.scope = relS scope Z.sc
  rw [c.g.sc]
theorem pg_tgs (c : Whr P w K mg base k Z X) : ∀ {is : List Nat} {es : List Expr}, chkTgs Z is es = true → PGs X es (gsOf is) ∧ (assignEach es X.env).length = is.length ∧ (assignEach es X.env).findIdx? (·.1) = none
  | [], [], _ => ⟨pgs_nil, rfl, rfl⟩
  | i :: is, .Name x p :: es, h => by
    unfold chkTgs at h
    simp only [Bool.and_eq_true] at h
    obtain ⟨h1, h2⟩ := h
    obtain ⟨a, b, d⟩ := c.store h1
    obtain ⟨q1, q2, q3⟩ := pg_tgs c h2
    refine ⟨pgs_cons (pg_name c.nd a b d) q1 rfl, ?_, ?_⟩
    · show (assignEach es X.env).length + 1 = _
      rw [q2]
      rfl
    · show List.findIdx? (·.1) ((false, assign (.Name x p) X.env) :: assignEach es X.env) = none
      rw [List.findIdx?_cons, q3]
      rfl
theorem pg_tg (c : Whr P w K mg base k Z X) {tg : Tg} {t : Expr} (h : chkTg Z tg t = true) : PG X t (TGof X.K tg) := by
  cases tg with
  | nm i =>
    cases t <;> first
      | (cases h; done)
      | (obtain ⟨a, b, d⟩ := c.store h; exact pg_name c.nd a b d)
  | tp is =>
    cases t <;> first
      | (cases h; done)
      | (obtain ⟨q1, q2, q3⟩ := pg_tgs c h; exact pg_tup c.g.calm q1 q2 q3)
theorem fold_no {e : Expr} (h : noSet e = true) (env : Env) : ∀ x, foldedSetIterable e env x = pure x := by
  intro x
  cases e <;> first | rfl | cases h
theorem ix_plain {e : Expr} (h : noSlice e = true) : PlainIx e := by
  intro o i
  cases e <;> first | rfl | cases h
theorem marks {op : CmpOp} {e : Expr} (h : (!behindInMarks op e) = true) : behindInMarks op e = false := by simpa using h
theorem any_no {pos : Pos} {env : Env} : ∀ {es : Es} {xs : List Expr}, chkEs Z es xs = true → (backTo pos (starEach xs env)).any (·.1) = false
  | .nil, [], _ => rfl
  | .nil, _ :: _, h => by cases h
  | .cons e es, [], h => by cases h
  | .cons e es, x :: xs, h => by
    unfold chkEs at h
    simp only [Bool.and_eq_true] at h
    have ih := any_no (pos := pos) (env := env) h.2
    rw [star_no h.1.1]
    unfold backTo at ih ⊢
    rw [List.map_cons, List.any_cons, ih]
    rfl
theorem len_es : ∀ {es : Es} {xs : List Expr}, chkEs Z es xs = true → lenEs es = xs.length
  | .nil, [], _ => rfl
  | .nil, _ :: _, h => by cases h
  | .cons e es, [], h => by cases h
  | .cons e es, x :: xs, h => by
    unfold chkEs at h
    simp only [Bool.and_eq_true] at h
    show lenEs es + 1 = xs.length + 1
    rw [len_es h.2]
theorem kw_facts {pos : Pos} {env : Env} : ∀ {ks : List Str} {es : Es} {kws : List Keyword}, chkK Z ks es kws = true → lenEs es = ks.length ∧ (backToKw pos (keywordEach kws env)).all (·.1.isSome) = true ∧ (backToKw pos (keywordEach kws env)).filterMap (·.1) = ks ∧ (backToKw pos (keywordEach kws env)).any (·.1.isNone) = false
  | [], .nil, [], _ => ⟨rfl, rfl, rfl, rfl⟩
  | [], .nil, _ :: _, h => by cases h
  | _ :: _, .nil, [], h => by cases h
  | _ :: _, .nil, _ :: _, h => by cases h
  | ks, .cons e es, [], h => by unfold chkK at h; cases h
  | [], .cons e es, ⟨n, x, p⟩ :: kws, h => by
    unfold chkK at h
    cases n <;> cases h
  | q :: ks, .cons e es, ⟨n, x, p⟩ :: kws, h => by
    cases n with
    | none => unfold chkK at h; cases h
    | some n =>
      unfold chkK at h
      simp only [Bool.and_eq_true, decide_eq_true_eq] at h
      obtain ⟨⟨rfl, _⟩, h⟩ := h
      obtain ⟨a1, a2, a3, a4⟩ := kw_facts (pos := pos) (env := env) h
      refine ⟨by show lenEs es + 1 = ks.length + 1; rw [a1], ?_, ?_, ?_⟩
      · show ((some n).isSome && (backToKw pos (keywordEach kws env)).all (·.1.isSome)) = true
        rw [a2]; rfl
      · show List.filterMap (·.1) ((some n, _) :: backToKw pos (keywordEach kws env)) = n :: ks
        rw [List.filterMap_cons, a3]
      · show ((some n).isNone || (backToKw pos (keywordEach kws env)).any (·.1.isNone)) = false
        rw [a4]; rfl
theorem pw_of_pt {op : BoolOp} {vs : List Expr} {pos : Pos} {t : TT} (h : PT X (.BoolOp op vs pos) t) : PW X (.BoolOp op vs pos) t := ⟨fun wh pins s σ H Q I q => by
  have := h.run pins s σ H Q I q
  have e : isTrue (.BoolOp op vs pos) X.env wh = isTrue (.BoolOp op vs pos) X.env (eval (.BoolOp op vs pos) X.env) := rfl
  rw [e]
  exact this⟩
theorem plain_is {e : Expr} {env : Env} (h : plainTest e = true) : ∀ whole, isTrue e env whole = (do let v ← whole; standAt e.pos; holding [v] (truthy v)) := by
  intro wh
  cases e with
  | UnaryOp op x p => cases op <;> first | rfl | cases h
  | BoolOp op vs p => cases h
  | IfExp a b c p => cases h
  | Compare a b c p => cases h
  | _ => rfl
end
end PF

set_option maxRecDepth 100000
set_option maxHeartbeats 1000000
namespace PF
open PySem PySem.Spec PyProof.Rows L2
section
variable {P : Program} {w : World} {K : PySem.W.Frag} {mg : Str → Option Value} {base : Heap} {k : Nat}
theorem Whr.call {Z : Sc} {X : Cx} (c : Whr P w K mg base k Z X) {x : Str} {sp : ASp} (h : CallOk P w K mg base k x sp) : CallOk X.prog X.w X.K X.mg X.base k x sp := by
  rw [c.prog, c.w, c.K, c.mg, c.base]; exact h
theorem Whr.callK {Z : Sc} {X : Cx} (c : Whr P w K mg base k Z X) {x : Str} {sp : ASp} {ps ks : List Str} (h : CallKOk P w K mg base k x sp ps ks) : CallKOk X.prog X.w X.K X.mg X.base k x sp ps ks := by
  rw [c.prog, c.w, c.K, c.mg, c.base]; exact h
theorem Whr.cls {Z : Sc} {X : Cx} (c : Whr P w K mg base k Z X) {x : Str} (h : ClsOk K mg x) : ClsOk X.K X.mg x := by
  rw [c.K, c.mg]; exact h
theorem Whr.glob {Z : Sc} {X : Cx} (c : Whr P w K mg base k Z X) {x : Str} {d : PyData} (h : GlobOk K mg x d) : GlobOk X.K X.mg x d := by
  rw [c.K, c.mg]; exact h
theorem bn_bi (f : BI) : biName f ∈ bnames := by cases f <;> decide +kernel
theorem bn_ty (t : Ty) : tyStr t ∈ bnames := by cases t <;> decide +kernel
theorem boot_ty (t : Ty) : bootBuiltins (tyStr t) = some (.type (tyName t)) := by cases t <;> decide +kernel
theorem ty_ne (t : Ty) : tyStr t ≠ ("__name__" : Str) := by cases t <;> decide +kernel
theorem args_ne {f : BI} {as : List Expr} (h : as.length = arity f) : as ≠ [] := by
  intro z
  subst z
  cases f <;> cases h
mutual
theorem sE : ∀ (e : E) {Z : Sc} {X : Cx} {ast : Expr}, Whr P w K mg base k Z X → chkE Z e ast = true → okE (lkOf P w K mg base k) e → PE X ast (TEof X.K e)
  | .var i, Z, X, ast, c, h, o => by
    unfold chkE at h
    split at h
    · obtain ⟨a, b, d, f⟩ := c.var h
      exact te_var a b d f
    · cases h
  | .int i, Z, X, ast, c, h, o => by
    unfold chkE at h
    split at h
    · rw [of_decide_eq_true h]; exact te_int
    · cases h
  | .bool i, Z, X, ast, c, h, o => by
    unfold chkE at h
    split at h
    · rw [of_decide_eq_true h]; exact te_bool
    · cases h
  | .none, Z, X, ast, c, h, o => by
    unfold chkE at h
    split at h
    · exact te_none
    · cases h
  | .str i, Z, X, ast, c, h, o => by
    unfold chkE at h
    split at h
    · rw [of_decide_eq_true h]; exact te_str
    · cases h
  | .glob x d, Z, X, ast, c, h, o => by
    unfold chkE at h
    split at h
    · simp only [Bool.and_eq_true, decide_eq_true_eq] at h
      obtain ⟨rfl, h⟩ := h
      obtain ⟨a, b⟩ := c.gl h
      exact te_glob (c.glob o) a b
    · cases h
  | .bin op a b, Z, X, ast, c, h, o => by
    unfold chkE at h
    split at h
    · simp only [Bool.and_eq_true, decide_eq_true_eq] at h
      obtain ⟨⟨rfl, h1⟩, h2⟩ := h
      exact te_bin op (sE a c h1 o.1) (sE b c h2 o.2)
    · cases h
  | .neg a, Z, X, ast, c, h, o => by
    unfold chkE at h
    split at h
    · exact te_neg (sE a c h o)
    · cases h
  | .rep a b, Z, X, ast, c, h, o => by
    unfold chkE at h
    split at h
    · simp only [Bool.and_eq_true] at h
      exact te_rep (sE a c h.1 o.1) (sE b c h.2 o.2)
    · cases h
  | .not a, Z, X, ast, c, h, o => by
    unfold chkE at h
    split at h
    · exact te_not (sE a c h o)
    · cases h
  | .and a b, Z, X, ast, c, h, o => by
    unfold chkE at h
    split at h
    · simp only [Bool.and_eq_true] at h
      obtain ⟨h1, h2⟩ := h
      split at h2
      · exact te_and (sE a c h1 o.1) (pe_one (sE b c h2 o.2))
      · exact te_and (sE a c h1 o.1) (sE b c h2 o.2)
    · cases h
  | .or a b, Z, X, ast, c, h, o => by
    unfold chkE at h
    split at h
    · simp only [Bool.and_eq_true] at h
      obtain ⟨h1, h2⟩ := h
      split at h2
      · exact te_or (sE a c h1 o.1) (pe_one (sE b c h2 o.2))
      · exact te_or (sE a c h1 o.1) (sE b c h2 o.2)
    · cases h
  | .cmp op a b, Z, X, ast, c, h, o => by
    unfold chkE at h
    split at h
    · simp only [Bool.and_eq_true, decide_eq_true_eq] at h
      obtain ⟨⟨⟨rfl, hm⟩, h1⟩, h2⟩ := h
      exact te_cmp op (by have := c.u; omega) (sE a c h1 o.1) (sE b c h2 o.2) (marks hm)
    · cases h
  | .chain o1 o2 a b d, Z, X, ast, c, h, o => by
    unfold chkE at h
    split at h
    · simp only [Bool.and_eq_true, decide_eq_true_eq] at h
      obtain ⟨⟨⟨⟨⟨rfl, rfl⟩, hm⟩, h1⟩, h2⟩, h3⟩ := h
      exact te_chain o1 o2 (by have := c.u; omega) (sE a c h1 o.1) (sE b c h2 o.2.1) (sE d c h3 o.2.2) (marks hm)
    · cases h
  | .ife d a b, Z, X, ast, c, h, o => by
    unfold chkE at h
    split at h
    · simp only [Bool.and_eq_true] at h
      obtain ⟨⟨⟨h1, ht⟩, h2⟩, h3⟩ := h
      exact te_ife (sT d c h1 o.1 ht) (sE a c h2 o.2.1) (sE b c h3 o.2.2)
    · cases h
  | .tup es, Z, X, ast, c, h, o => by
    unfold chkE at h
    split at h
    · simp only [Bool.and_eq_true, decide_eq_true_eq] at h
      exact te_tup (sEs es c h.1 o) (ta_len (by rw [len_es h.1]; exact Nat.le_trans h.2 (by decide)))
    · cases h
  | .lst es, Z, X, ast, c, h, o => by
    unfold chkE at h
    split at h
    · simp only [Bool.and_eq_true, decide_eq_true_eq] at h
      exact te_lst (sEs es c h.1 o) (ta_len (by rw [len_es h.1]; exact Nat.le_trans h.2 (by decide)))
    · cases h
  | .ix a b, Z, X, ast, c, h, o => by
    unfold chkE at h
    split at h
    · simp only [Bool.and_eq_true] at h
      obtain ⟨⟨hs, h1⟩, h2⟩ := h
      exact te_ix (sE a c h1 o.1) (sE b c h2 o.2) (ix_plain hs)
    · cases h
  | .slL a b, Z, X, ast, c, h, o => by
    unfold chkE at h
    split at h
    · simp only [Bool.and_eq_true] at h
      exact te_slL (sE a c h.1 o.1) (sE b c h.2 o.2)
    · cases h
  | .slU a b, Z, X, ast, c, h, o => by
    unfold chkE at h
    split at h
    · simp only [Bool.and_eq_true] at h
      exact te_slU (sE a c h.1 o.1) (sE b c h.2 o.2)
    · cases h
  | .slLU a b d, Z, X, ast, c, h, o => by
    unfold chkE at h
    split at h
    · simp only [Bool.and_eq_true] at h
      exact te_slLU (sE a c h.1.1 o.1) (sE b c h.1.2 o.2.1) (sE d c h.2 o.2.2)
    · cases h
  | .slRev a, Z, X, ast, c, h, o => by
    unfold chkE at h
    split at h
    · exact te_slRev (sE a c h o)
    · cases h
  | .call x sp es, Z, X, ast, c, h, o => by
    unfold chkE at h
    split at h
    · rename_i y p xs pos
      simp only [Bool.and_eq_true, decide_eq_true_eq] at h
      obtain ⟨⟨rfl, hg⟩, h⟩ := h
      obtain ⟨a, b⟩ := c.gl hg
      have pa := sEs es c h o.2
      cases es with
      | nil =>
        cases xs with
        | nil => exact te_call0 (c.call o.1) c.g.room c.g.guards a b
        | cons _ _ => cases h
      | cons e es =>
        cases xs with
        | nil => cases h
        | cons x' xs =>
          have h0 := h
          unfold chkEs at h
          simp only [Bool.and_eq_true] at h
          exact te_call (c.call o.1) c.g.room c.g.guards a b pa (star_no h.1.1) (any_no h.2)
    · cases h
  | .un f a, Z, X, ast, c, h, o => by
    unfold chkE at h
    split at h
    · simp only [Bool.and_eq_true, decide_eq_true_eq] at h
      obtain ⟨⟨rfl, hp⟩, h⟩ := h
      exact te_att (sE a c h o.2) (base_ok hp)
    · simp only [Bool.and_eq_true, decide_eq_true_eq] at h
      obtain ⟨⟨⟨⟨⟨rfl, hg⟩, rfl⟩, hg2⟩, hs⟩, h1⟩ := h
      exact te_instV (c.gl hg).1 (c.no (by decide +kernel)) (c.gl hg2).1 (c.no (by decide +kernel)) (sE a c h1 o.2) (star_no hs) rfl
    · simp only [Bool.and_eq_true, decide_eq_true_eq] at h
      obtain ⟨⟨⟨⟨rfl, rfl⟩, hs⟩, hl⟩, h1⟩ := h
      exact te_join (sE a c h1 o.2) (star_no hs) hl
    · simp only [Bool.and_eq_true, decide_eq_true_eq] at h
      obtain ⟨⟨⟨rfl, hg⟩, hs⟩, h1⟩ := h
      exact te_lenS (c.gl hg).1 (c.no (by decide +kernel)) (sE a c h1 o.2) (star_no hs)
    · simp only [Bool.and_eq_true, decide_eq_true_eq] at h
      obtain ⟨⟨⟨rfl, hg⟩, hs⟩, h1⟩ := h
      obtain ⟨g1, g2⟩ := c.gl hg
      exact te_mkV (c.cls o.1) g1 g2 (sE a c h1 o.2) (star_no hs)
    · cases h
  | .mkA x f kw a, Z, X, ast, c, h, o => by
    have hi : InOk X.prog X.K X.mg x f := by rw [c.K, c.mg, c.prog]; exact o.1.2
    unfold chkE at h
    split at h
    · simp only [Bool.and_eq_true, decide_eq_true_eq] at h
      obtain ⟨⟨⟨rfl, hg⟩, hs⟩, h1⟩ := h
      obtain ⟨g1, g2⟩ := c.gl hg
      exact te_mkA hi c.g.room o.1.1 g1 g2 (sE a c h1 o.2) (star_no hs)
    · simp only [Bool.and_eq_true, decide_eq_true_eq] at h
      obtain ⟨⟨⟨rfl, hg⟩, rfl⟩, h⟩ := h
      obtain ⟨g1, g2⟩ := c.gl hg
      exact te_mkAK hi c.g.room o.1.1 g1 g2 (tk_cons (sE a c h o.2) tk_nil) rfl rfl rfl
    · cases h
  | .ixS a b, Z, X, ast, c, h, o => by
    unfold chkE at h
    split at h
    · simp only [Bool.and_eq_true] at h
      obtain ⟨⟨hs, h1⟩, h2⟩ := h
      exact te_ixS (sE a c h1 o.1) (sE b c h2 o.2) (ix_plain hs)
    · cases h
  | .mkE x s, Z, X, ast, c, h, o => by
    unfold chkE at h
    split at h
    · simp only [Bool.and_eq_true, decide_eq_true_eq] at h
      obtain ⟨⟨rfl, hg⟩, rfl⟩ := h
      obtain ⟨a, b⟩ := c.gl hg
      exact te_mkE (c.cls o) a b
    · cases h
  | .callM x sp es, Z, X, ast, c, h, o => by
    unfold chkE at h
    split at h
    · rename_i y p z xs pos
      simp only [Bool.and_eq_true, decide_eq_true_eq] at h
      obtain ⟨⟨rfl, hg⟩, h⟩ := h
      obtain ⟨a, b⟩ := c.gl hg
      have pa := sEs es c h o.2
      cases es with
      | nil => cases h
      | cons e es =>
        unfold chkEs at h
        simp only [Bool.and_eq_true] at h
        exact te_callM (c.call o.1) c.g.room c.g.guards a b pa (star_no h.1.1) (any_no h.2)
    · cases h
  | .callR x sp es, Z, X, ast, c, h, o => by
    unfold chkE at h
    split at h
    · rename_i y p z xs pos
      simp only [Bool.and_eq_true, decide_eq_true_eq] at h
      obtain ⟨⟨rfl, hg⟩, h⟩ := h
      obtain ⟨a, b⟩ := c.gl hg
      have pa := sEs es c h o.2
      cases es with
      | nil => cases h
      | cons e es =>
        unfold chkEs at h
        simp only [Bool.and_eq_true] at h
        exact te_callR (c.call o.1) c.g.room c.g.guards a b pa (star_no h.1.1) (any_no h.2)
    · cases h
  | .callO x sp a, Z, X, ast, c, h, o => by
    unfold chkE at h
    split at h
    · rename_i y p z pos
      simp only [Bool.and_eq_true, decide_eq_true_eq] at h
      obtain ⟨⟨⟨rfl, hg⟩, hs⟩, h⟩ := h
      obtain ⟨h1, h2⟩ := c.gl hg
      exact te_callO (c.call o.1) c.g.room c.g.guards h1 h2 (sE a c h o.2) (star_no hs)
    · cases h
  | .callK x sp ps ks es, Z, X, ast, c, h, o => by
    unfold chkE at h
    split at h
    · simp only [Bool.and_eq_true, decide_eq_true_eq] at h
      obtain ⟨⟨rfl, hg⟩, h⟩ := h
      obtain ⟨a, b⟩ := c.gl hg
      obtain ⟨a1, a2, a3, a4⟩ := kw_facts (env := X.env) h
      refine te_callK (c.callK o.1) c.g.room c.g.guards a b (sK es c h o.2) a1 a2 a3 ?_
      rw [a4]
      rfl
    · cases h
  | .bi f es, Z, X, ast, c, h, o => by
    unfold chkE at h
    split at h
    · simp only [Bool.and_eq_true, decide_eq_true_eq] at h
      obtain ⟨⟨⟨⟨rfl, hf⟩, ha⟩, hg⟩, h⟩ := h
      obtain ⟨a, b⟩ := c.gl hg
      have pa := sEs es c h o
      cases es with
      | nil => cases h
      | cons e es =>
        unfold chkEs at h
        simp only [Bool.and_eq_true] at h
        exact te_bi f hf c.g.calm c.g.guards c.u a (c.no (bn_bi f)) pa (star_no h.1.1) (any_no h.2)
    · cases h
  | .instC a x ts, Z, X, ast, c, h, o => by
    unfold chkE at h
    split at h
    · simp only [Bool.and_eq_true, decide_eq_true_eq] at h
      obtain ⟨⟨⟨⟨⟨rfl, hg⟩, rfl⟩, hg2⟩, hs⟩, h1⟩ := h
      obtain ⟨g1, g2⟩ := c.gl hg
      obtain ⟨g3, g4⟩ := c.gl hg2
      exact te_instC g1 (c.no (by decide +kernel)) (by rw [c.K, c.mg]; exact o.1) g3 g4 (sE a c h1 o.2) (star_no hs) rfl
    · cases h
  | .inst a ts, Z, X, ast, c, h, o => by
    unfold chkE at h
    split at h
    · rename_i ty
      simp only [Bool.and_eq_true, decide_eq_true_eq] at h
      obtain ⟨⟨⟨⟨⟨rfl, hg⟩, rfl⟩, hg2⟩, hs⟩, h⟩ := h
      obtain ⟨g1, g2⟩ := c.gl hg
      obtain ⟨g3, g4⟩ := c.gl hg2
      exact te_inst g1 (c.no (by decide +kernel)) (sE a c h o) (te_tyname g3 (c.no (bn_ty ty)) (boot_ty ty) (ty_ne ty) g4) (star_no hs) rfl rfl
    · cases h
  | .lrg1 a, Z, X, ast, c, h, o => by
    unfold chkE at h
    split at h
    · simp only [Bool.and_eq_true, decide_eq_true_eq] at h
      obtain ⟨⟨⟨⟨⟨rfl, hl⟩, rfl⟩, hg⟩, hs⟩, h⟩ := h
      exact te_lrg1 c.g.calm (c.gl hl).1 (c.no (by decide +kernel)) (c.gl hg).1 (c.no (by decide +kernel)) (sE a c h o) (star_no hs)
    · cases h
  | .lrg2 a b, Z, X, ast, c, h, o => by
    unfold chkE at h
    split at h
    · simp only [Bool.and_eq_true, decide_eq_true_eq] at h
      obtain ⟨⟨⟨⟨⟨⟨⟨rfl, hl⟩, rfl⟩, hg⟩, hs⟩, hs2⟩, h1⟩, h2⟩ := h
      exact te_lrg2 c.g.calm (c.gl hl).1 (c.no (by decide +kernel)) (c.gl hg).1 (c.no (by decide +kernel)) (sE a c h1 o.1) (sE b c h2 o.2) (star_no hs) (star_no hs2)
    · cases h
  | .lrg3 a b d, Z, X, ast, c, h, o => by
    unfold chkE at h
    split at h
    · simp only [Bool.and_eq_true, decide_eq_true_eq] at h
      obtain ⟨⟨⟨⟨⟨⟨⟨⟨⟨rfl, hl⟩, rfl⟩, hg⟩, hs⟩, hs2⟩, hs3⟩, h1⟩, h2⟩, h3⟩ := h
      exact te_lrg3 c.g.calm (c.gl hl).1 (c.no (by decide +kernel)) (c.gl hg).1 (c.no (by decide +kernel)) (sE a c h1 o.1) (sE b c h2 o.2.1) (sE d c h3 o.2.2) (star_no hs) (star_no hs2) (star_no hs3)
    · cases h
  | .pop j i, Z, X, ast, c, h, o => by
    unfold chkE at h
    split at h
    · simp only [Bool.and_eq_true, decide_eq_true_eq] at h
      obtain ⟨⟨⟨⟨rfl, h1⟩, hs⟩, hl⟩, h2⟩ := h
      obtain ⟨a, b, d, f⟩ := c.var h1
      refine pe_weak (pe_bm PySem.F.plainAttrs_list PySem.F.slot_list_pop PySem.F.type_list_pop mt_popAt (pe_var a b d f) (pa_cons (sE i c h2 o) pa_nil (star_no hs)) rfl ?_ hl (star_no hs) rfl) fun σ H Q h => pop_red h
      rw [star_no hs]
      rfl
    · cases h
  | .ssort a, Z, X, ast, c, h, o => by
    unfold chkE at h
    split at h
    · simp only [Bool.and_eq_true, decide_eq_true_eq] at h
      obtain ⟨⟨⟨⟨⟨rfl, hg⟩, rfl⟩, hg2⟩, hs⟩, h1⟩ := h
      exact te_ssort c.g.calm (c.gl hg).1 (c.no (by decide +kernel)) (c.gl hg2).1 (c.no (by decide +kernel)) (sE a c h1 o) (star_no hs)
    · cases h
  | .ixOf a b, Z, X, ast, c, h, o => by
    unfold chkE at h
    split at h
    · simp only [Bool.and_eq_true, decide_eq_true_eq] at h
      obtain ⟨⟨⟨⟨⟨hm, hp⟩, hs⟩, hl⟩, h1⟩, h2⟩ := h
      exact te_ixOf (by have := c.u; omega) (sE a c h1 o.1) (sE b c h2 o.2) (star_no hs) hm (base_ok hp) hl
    · cases h
  | .din neg j ke, Z, X, ast, c, h, o => by
    unfold chkE at h
    split at h
    · simp only [Bool.and_eq_true, decide_eq_true_eq] at h
      obtain ⟨⟨rfl, h1⟩, h2⟩ := h
      obtain ⟨a, b, d, f⟩ := c.var h1
      cases neg with
      | true => exact te_dnotin (by have := c.u; omega) (sE ke c h2 o) a b d f
      | false => exact te_din (by have := c.u; omega) (sE ke c h2 o) a b d f
    · cases h
  | .dkeys j, Z, X, ast, c, h, o => by
    unfold chkE at h
    split at h
    · simp only [Bool.and_eq_true, decide_eq_true_eq] at h
      obtain ⟨⟨rfl, hg⟩, h1⟩ := h
      obtain ⟨a, b, d, f⟩ := c.var h1
      exact te_dkeys c.g.calm (c.gl hg).1 (c.no (by decide +kernel)) a b d f
    · cases h
  | .dsort j, Z, X, ast, c, h, o => by
    unfold chkE at h
    split at h
    · simp only [Bool.and_eq_true, decide_eq_true_eq] at h
      obtain ⟨⟨rfl, hg⟩, h1⟩ := h
      obtain ⟨a, b, d, f⟩ := c.var h1
      exact te_dsort c.g.calm (c.gl hg).1 (c.no (by decide +kernel)) a b d f
    · cases h
  | .comp elt cond d tg it own, Z, X, ast, c, h, o => by
    unfold chkE at h
    split at h
    · rename_i x t i ifs scope pos
      simp only [Bool.and_eq_true] at h
      obtain ⟨⟨⟨⟨⟨⟨hb, hi⟩, ht⟩, hsl⟩, hns⟩, hc⟩, he⟩ := h
      have ok : BlkOk X.N X.env.scope scope own := by rw [c.g.hN, c.g.sc]; exact blkOk_by hb
      have sl : ∀ i ∈ tgSlots tg, i ∈ own.map (·.2) := fun i hi => by
        unfold inSlots at hsl
        have := List.all_eq_true.mp hsl i hi
        simpa using this
      have pi : PI X t i (TIof X.K it) := sIt it c hi (fun is htg => by
        subst htg
        cases t <;> first | (cases ht; done) | exact ⟨_, _, _, rfl⟩) o.2.2
      have key : PE X (.ListComp x [⟨t, i, ifs, 0⟩] scope pos) (tLc (TIof X.K it) (TGof X.K tg) (ttOf X.K cond d) (TEof X.K elt) (own.map (·.2))) := by
        refine pe_lc c.g.calm c.nd pi ok (fun s H C cl fp => pg_tg (c.blk ok.kind s H C cl fp) ht) (fun s H C cl fp => ?_) (fun s H C cl fp => sE elt (c.blk ok.kind s H C cl fp) he o.1) (fold_no hns X.env)
        split at hc
        · exact pts_nil
        · simp only [Bool.and_eq_true] at hc
          exact pts_one (sT d (c.blk ok.kind s H C cl fp) hc.1 o.2.1 hc.2)
        · cases hc
      exact pe_weak key fun σ H Q h => lc_red sl h
    · cases h
theorem sEs : ∀ (es : Es) {Z : Sc} {X : Cx} {xs : List Expr}, Whr P w K mg base k Z X → chkEs Z es xs = true → okEs (lkOf P w K mg base k) es → PA X xs (TAof X.K es)
  | .nil, Z, X, xs, c, h, o => by
    unfold chkEs at h
    split at h
    · exact ta_nil
    · cases h
  | .cons e es, Z, X, xs, c, h, o => by
    unfold chkEs at h
    split at h
    · simp only [Bool.and_eq_true] at h
      exact ta_cons (sE e c h.1.2 o.1) (sEs es c h.2 o.2) (star_no h.1.1)
    · cases h
theorem sK : ∀ (es : Es) {Z : Sc} {X : Cx} {ks : List Str} {kws : List Keyword}, Whr P w K mg base k Z X → chkK Z ks es kws = true → okEs (lkOf P w K mg base k) es → PK X kws (TAof X.K es)
  | .nil, Z, X, ks, kws, c, h, o => by
    unfold chkK at h
    split at h
    · exact tk_nil
    · cases h
  | .cons e es, Z, X, ks, kws, c, h, o => by
    unfold chkK at h
    split at h
    · simp only [Bool.and_eq_true] at h
      exact tk_cons (sE e c h.1.2 o.1) (sK es c h.2 o.2)
    · cases h
theorem sIt : ∀ (it : PF.It) {Z : Sc} {X : Cx} {tg : Tg} {t i : Expr}, Whr P w K mg base k Z X → chkIt Z it tg t i = true → (∀ is, tg = .tp is → ∃ a b p, t = .Tuple a b p) → okIt (lkOf P w K mg base k) it → PI X t i (TIof X.K it)
  | .seq e, Z, X, tg, t, i, c, h, ht, o => by
    unfold chkIt at h
    exact ti_seq (sE e c h o)
  | .range1 a, Z, X, tg, t, i, c, h, ht, o => by
    unfold chkIt at h
    split at h
    · simp only [Bool.and_eq_true, decide_eq_true_eq] at h
      obtain ⟨⟨⟨rfl, hg⟩, hs⟩, h⟩ := h
      exact ti_range1 (c.gl hg).1 (c.no (by decide +kernel)) (sE a c h o) (star_no hs)
    · cases h
  | .range2 a b, Z, X, tg, t, i, c, h, ht, o => by
    unfold chkIt at h
    split at h
    · simp only [Bool.and_eq_true, decide_eq_true_eq] at h
      obtain ⟨⟨⟨⟨⟨rfl, hg⟩, hs⟩, hs2⟩, h1⟩, h2⟩ := h
      exact ti_range2 (c.gl hg).1 (c.no (by decide +kernel)) (sE a c h1 o.1) (sE b c h2 o.2) (by rw [star_no hs, star_no hs2]; rfl) (star_no hs2)
    · cases h
  | .range3 a b d, Z, X, tg, t, i, c, h, ht, o => by
    unfold chkIt at h
    split at h
    · simp only [Bool.and_eq_true, decide_eq_true_eq] at h
      obtain ⟨⟨⟨⟨⟨⟨⟨rfl, hg⟩, hs⟩, hs2⟩, hs3⟩, h1⟩, h2⟩, h3⟩ := h
      exact ti_range3 (c.gl hg).1 (c.no (by decide +kernel)) (sE a c h1 o.1) (sE b c h2 o.2.1) (sE d c h3 o.2.2) (star_no hs) (star_no hs2) (star_no hs3)
    · cases h
  | .enum e, Z, X, tg, t, i, c, h, ht, o => by
    unfold chkIt at h
    split at h
    · rename_i is
      simp only [Bool.and_eq_true, decide_eq_true_eq] at h
      obtain ⟨⟨⟨rfl, hg⟩, hs⟩, h⟩ := h
      obtain ⟨a, b, p, rfl⟩ := ht is rfl
      exact ti_enum (c.gl hg).1 (c.no (by decide +kernel)) (sE e c h o) (star_no hs)
    · cases h
  | .zip3 a b d, Z, X, tg, t, i, c, h, ht, o => by
    unfold chkIt at h
    split at h
    · rename_i is
      simp only [Bool.and_eq_true, decide_eq_true_eq] at h
      obtain ⟨⟨⟨⟨⟨⟨⟨rfl, hg⟩, hs⟩, hs2⟩, hs3⟩, h1⟩, h2⟩, h3⟩ := h
      obtain ⟨a', b', p, rfl⟩ := ht is rfl
      exact ti_zip3 (c.gl hg).1 (c.no (by decide +kernel)) (sE a c h1 o.1) (sE b c h2 o.2.1) (sE d c h3 o.2.2) (star_no hs) (star_no hs2) (star_no hs3) (by rw [star_no hs2, star_no hs3]; rfl)
    · cases h
  | .zip a b, Z, X, tg, t, i, c, h, ht, o => by
    unfold chkIt at h
    split at h
    · rename_i is
      simp only [Bool.and_eq_true, decide_eq_true_eq] at h
      obtain ⟨⟨⟨⟨⟨rfl, hg⟩, hs⟩, hs2⟩, h1⟩, h2⟩ := h
      obtain ⟨a', b', p, rfl⟩ := ht is rfl
      exact ti_zip (c.gl hg).1 (c.no (by decide +kernel)) (sE a c h1 o.1) (sE b c h2 o.2) (star_no hs) (star_no hs2) (by rw [star_no hs2]; rfl)
    · cases h
theorem sT : ∀ (e : E) {Z : Sc} {X : Cx} {ast : Expr}, Whr P w K mg base k Z X → chkE Z e ast = true → okE (lkOf P w K mg base k) e → okT e = true → PT X ast (TTof X.K e)
  | .not a, Z, X, ast, c, h, o, t => by
    unfold chkE at h
    split at h
    · exact tt_not (sT a c h o t)
    · cases h
  | .and a b, Z, X, ast, c, h, o, t => by
    unfold okT at t
    simp only [Bool.and_eq_true] at t
    unfold chkE at h
    split at h
    · simp only [Bool.and_eq_true] at h
      obtain ⟨h1, h2⟩ := h
      split at h2
      · exact (tw_and (sT a c h1 o.1 t.1) (pw_and1 (sT b c h2 o.2 t.2))).pt
      · exact (tw_and (sT a c h1 o.1 t.1) (pw_of_pt (sT b c h2 o.2 t.2))).pt
    · cases h
  | .or a b, Z, X, ast, c, h, o, t => by
    unfold okT at t
    simp only [Bool.and_eq_true] at t
    unfold chkE at h
    split at h
    · simp only [Bool.and_eq_true] at h
      obtain ⟨h1, h2⟩ := h
      split at h2
      · exact (tw_or (sT a c h1 o.1 t.1) (pw_or1 (sT b c h2 o.2 t.2))).pt
      · exact (tw_or (sT a c h1 o.1 t.1) (pw_of_pt (sT b c h2 o.2 t.2))).pt
    · cases h
  | .cmp op a b, Z, X, ast, c, h, o, t => by
    unfold chkE at h
    split at h
    · simp only [Bool.and_eq_true, decide_eq_true_eq] at h
      obtain ⟨⟨⟨rfl, hm⟩, h1⟩, h2⟩ := h
      exact tt_cmp op (by have := c.u; omega) (sE a c h1 o.1) (sE b c h2 o.2) (marks hm)
    · cases h
  | .chain o1 o2 a b d, Z, X, ast, c, h, o, t => by
    unfold chkE at h
    split at h
    · simp only [Bool.and_eq_true, decide_eq_true_eq] at h
      obtain ⟨⟨⟨⟨⟨rfl, rfl⟩, hm⟩, h1⟩, h2⟩, h3⟩ := h
      exact tt_chain o1 o2 (by have := c.u; omega) (sE a c h1 o.1) (sE b c h2 o.2.1) (sE d c h3 o.2.2) (marks hm)
    · cases h
  | .ife _ _ _, Z, X, ast, c, h, o, t => by cases t
  | .din neg j ke, Z, X, ast, c, h, o, t => by
    unfold chkE at h
    split at h
    · simp only [Bool.and_eq_true, decide_eq_true_eq] at h
      obtain ⟨⟨rfl, h1⟩, h2⟩ := h
      obtain ⟨a, b, d, f⟩ := c.var h1
      cases neg with
      | true => exact tt_dnotin (by have := c.u; omega) (sE ke c h2 o) a b d f
      | false => exact tt_din (by have := c.u; omega) (sE ke c h2 o) a b d f
    · cases h
  | .ssort a, Z, X, ast, c, h, o, t => tt_any (sE (.ssort a) c h o) (plain_is (by unfold chkE at h; split at h <;> first | rfl | cases h))
  | .ixOf a b, Z, X, ast, c, h, o, t => tt_any (sE (.ixOf a b) c h o) (plain_is (by unfold chkE at h; split at h <;> first | rfl | cases h))
  | .dkeys j, Z, X, ast, c, h, o, t => tt_any (sE (.dkeys j) c h o) (plain_is (by unfold chkE at h; split at h <;> first | rfl | cases h))
  | .dsort j, Z, X, ast, c, h, o, t => tt_any (sE (.dsort j) c h o) (plain_is (by unfold chkE at h; split at h <;> first | rfl | cases h))
  | .var i, Z, X, ast, c, h, o, t => tt_any (sE (.var i) c h o) (plain_is (by unfold chkE at h; split at h <;> first | rfl | cases h))
  | .int i, Z, X, ast, c, h, o, t => tt_any (sE (.int i) c h o) (plain_is (by unfold chkE at h; split at h <;> first | rfl | cases h))
  | .bool i, Z, X, ast, c, h, o, t => tt_any (sE (.bool i) c h o) (plain_is (by unfold chkE at h; split at h <;> first | rfl | cases h))
  | .none, Z, X, ast, c, h, o, t => tt_any (sE .none c h o) (plain_is (by unfold chkE at h; split at h <;> first | rfl | cases h))
  | .str i, Z, X, ast, c, h, o, t => tt_any (sE (.str i) c h o) (plain_is (by unfold chkE at h; split at h <;> first | rfl | cases h))
  | .glob x d, Z, X, ast, c, h, o, t => tt_any (sE (.glob x d) c h o) (plain_is (by unfold chkE at h; split at h <;> first | rfl | cases h))
  | .bin op a b, Z, X, ast, c, h, o, t => tt_any (sE (.bin op a b) c h o) (plain_is (by unfold chkE at h; split at h <;> first | rfl | cases h))
  | .neg a, Z, X, ast, c, h, o, t => tt_any (sE (.neg a) c h o) (plain_is (by unfold chkE at h; split at h <;> first | rfl | cases h))
  | .rep a b, Z, X, ast, c, h, o, t => tt_any (sE (.rep a b) c h o) (plain_is (by unfold chkE at h; split at h <;> first | rfl | cases h))
  | .tup es, Z, X, ast, c, h, o, t => tt_any (sE (.tup es) c h o) (plain_is (by unfold chkE at h; split at h <;> first | rfl | cases h))
  | .lst es, Z, X, ast, c, h, o, t => tt_any (sE (.lst es) c h o) (plain_is (by unfold chkE at h; split at h <;> first | rfl | cases h))
  | .ix a b, Z, X, ast, c, h, o, t => tt_any (sE (.ix a b) c h o) (plain_is (by unfold chkE at h; split at h <;> first | rfl | cases h))
  | .slL a b, Z, X, ast, c, h, o, t => tt_any (sE (.slL a b) c h o) (plain_is (by unfold chkE at h; split at h <;> first | rfl | cases h))
  | .slU a b, Z, X, ast, c, h, o, t => tt_any (sE (.slU a b) c h o) (plain_is (by unfold chkE at h; split at h <;> first | rfl | cases h))
  | .slLU a b d, Z, X, ast, c, h, o, t => tt_any (sE (.slLU a b d) c h o) (plain_is (by unfold chkE at h; split at h <;> first | rfl | cases h))
  | .slRev a, Z, X, ast, c, h, o, t => tt_any (sE (.slRev a) c h o) (plain_is (by unfold chkE at h; split at h <;> first | rfl | cases h))
  | .call x sp es, Z, X, ast, c, h, o, t => tt_any (sE (.call x sp es) c h o) (plain_is (by unfold chkE at h; split at h <;> first | rfl | cases h))
  | .callO x sp a, Z, X, ast, c, h, o, t => tt_any (sE (.callO x sp a) c h o) (plain_is (by unfold chkE at h; split at h <;> first | rfl | cases h))
  | .callM x sp es, Z, X, ast, c, h, o, t => tt_any (sE (.callM x sp es) c h o) (plain_is (by unfold chkE at h; split at h <;> first | rfl | cases h))
  | .callR x sp es, Z, X, ast, c, h, o, t => tt_any (sE (.callR x sp es) c h o) (plain_is (by unfold chkE at h; split at h <;> first | rfl | cases h))
  | .un f a, Z, X, ast, c, h, o, t => tt_any (sE (.un f a) c h o) (plain_is (by unfold chkE at h; split at h <;> first | rfl | cases h))
  | .mkA x f kw a, Z, X, ast, c, h, o, t => tt_any (sE (.mkA x f kw a) c h o) (plain_is (by unfold chkE at h; split at h <;> first | rfl | cases h))
  | .ixS a b, Z, X, ast, c, h, o, t => tt_any (sE (.ixS a b) c h o) (plain_is (by unfold chkE at h; split at h <;> first | rfl | cases h))
  | .mkE x s, Z, X, ast, c, h, o, t => tt_any (sE (.mkE x s) c h o) (plain_is (by unfold chkE at h; split at h <;> first | rfl | cases h))
  | .callK x sp ps ks es, Z, X, ast, c, h, o, t => tt_any (sE (.callK x sp ps ks es) c h o) (plain_is (by unfold chkE at h; split at h <;> first | rfl | cases h))
  | .bi f es, Z, X, ast, c, h, o, t => tt_any (sE (.bi f es) c h o) (plain_is (by unfold chkE at h; split at h <;> first | rfl | cases h))
  | .instC a x ts, Z, X, ast, c, h, o, t => tt_any (sE (.instC a x ts) c h o) (plain_is (by unfold chkE at h; split at h <;> first | rfl | cases h))
  | .inst a ts, Z, X, ast, c, h, o, t => tt_any (sE (.inst a ts) c h o) (plain_is (by unfold chkE at h; split at h <;> first | rfl | cases h))
  | .lrg1 a, Z, X, ast, c, h, o, t => tt_any (sE (.lrg1 a) c h o) (plain_is (by unfold chkE at h; split at h <;> first | rfl | cases h))
  | .lrg2 a b, Z, X, ast, c, h, o, t => tt_any (sE (.lrg2 a b) c h o) (plain_is (by unfold chkE at h; split at h <;> first | rfl | cases h))
  | .lrg3 a b d, Z, X, ast, c, h, o, t => tt_any (sE (.lrg3 a b d) c h o) (plain_is (by unfold chkE at h; split at h <;> first | rfl | cases h))
  | .pop j i, Z, X, ast, c, h, o, t => tt_any (sE (.pop j i) c h o) (plain_is (by unfold chkE at h; split at h <;> first | rfl | cases h))
  | .comp elt cond d tg it own, Z, X, ast, c, h, o, t => tt_any (sE (.comp elt cond d tg it own) c h o) (plain_is (by unfold chkE at h; split at h <;> first | rfl | cases h))
end
end
end PF

set_option maxRecDepth 100000
set_option maxHeartbeats 1000000
namespace PF
open PySem PySem.Spec PyProof.Rows L2
/-! ### statements against the text -/
def isStar : Expr → Bool
  | .Starred .. => true
  | _ => false
def swapFn (sc : Scope) (line : Nat) : Expr → Option Str
  | .Name id pos => if sc.names.lookup id == some .local && pos.line == line then some id else none
  | _ => none
def swapNames (sc : Scope) (line : Nat) (ts : List Expr) : List Str := ts.filterMap (swapFn sc line)
theorem any_cg {α : Type} {l : List α} {f : α → Bool} (g : α → Bool) (h : ∀ x, f x = g x) : l.any f = l.any g := by rw [show f = g from funext h]
theorem fm_cg {α β : Type} {l : List α} {f : α → Option β} (g : α → Option β) (h : ∀ x, f x = g x) : l.filterMap f = l.filterMap g := by rw [show f = g from funext h]
/-- how several names are stored at once: none: it is not settled -/
def swapF (sc : Scope) (ts vs : List Expr) : Option (Option (List Str)) :=
  if (!(ts.length == 2 || ts.length == 3) || vs.length != ts.length) = true then some none
  else if vs.any isStar = true then some none
  else if ((swapNames sc ((ts.head?.map fun (e : Expr) => e.pos.line).getD 0) ts).length != ts.length || (swapNames sc ((ts.head?.map fun (e : Expr) => e.pos.line).getD 0) ts).eraseDups.length != (swapNames sc ((ts.head?.map fun (e : Expr) => e.pos.line).getD 0) ts).length) = true then some none
  else if vs.all (foldedForSure 8) = true then some none
  else if vs.all (constantsAlone 8) = true then none
  else some (some (swapNames sc ((ts.head?.map fun (e : Expr) => e.pos.line).getD 0) ts))
theorem swap_is {sc : Scope} {env : Env} {ts vs : List Expr} {r : Option (List Str)} {k k2 : Nat} {p p2 : Pos} (hs : env.scope = sc) (hk : sc.kind = .function) (h : swapF sc ts vs = some r) : swappedStores [.Tuple ts k p] (.Tuple vs k2 p2) env = pure r := by
  have hb : env.blockKind = .function := by unfold Env.blockKind; rw [hs, hk]; rfl
  have hkd : ∀ x, env.kindOf x = sc.names.lookup x := fun x => by unfold Env.kindOf; rw [hs]
  unfold swapF at h
  unfold swappedStores
  simp only [hb]
  rw [any_cg isStar (by intro x; cases x <;> rfl), fm_cg (swapFn sc ((ts.head?.map fun (e : Expr) => e.pos.line).getD 0)) (by intro x; cases x <;> first | rfl | (show (if _ then _ else _) = _; rw [hkd]; rfl))]
  have e1 : (ScopeKind.function != ScopeKind.function) = false := rfl
  rw [e1, Bool.or_false]
  unfold swapNames at h
  split at h
  · rename_i c1
    rw [if_pos c1]
    cases h
    rfl
  · rename_i c1
    rw [if_neg c1]
    split at h
    · rename_i c2
      rw [if_pos c2]
      cases h
      rfl
    · rename_i c2
      rw [if_neg c2]
      split at h
      · rename_i c3
        rw [if_pos c3]
        cases h
        rfl
      · rename_i c3
        rw [if_neg c3]
        split at h
        · rename_i c4
          rw [if_pos c4]
          cases h
          rfl
        · rename_i c4
          rw [if_neg c4]
          split at h
          · cases h
          · rename_i c5
            rw [if_neg c5]
            cases h
            rfl
theorem swaps_no {e : Expr} {t : Option Expr} {l : Nat} {env : Env} (h : noComp e = true) : swapsWith e t l env = pure false := by
  cases e <;> first | rfl | cases h
theorem swaps_tup {e : Expr} {es : List Expr} {k : Nat} {p : Pos} {l : Nat} {env : Env} : swapsWith e (some (.Tuple es k p)) l env = pure false := by
  cases e <;> rfl
theorem sole_tup {e : Expr} {es : List Expr} {k : Nat} {p : Pos} {l : Nat} {env : Env} : swapsWithSole [.Tuple es k p] e l env = pure false := by
  show swapsWith e (some (.Tuple es k p)) l env = _
  exact swaps_tup
theorem swaps_sub {e a b : Expr} {p : Pos} {l : Nat} {env : Env} : swapsWith e (some (.Subscript a b p)) l env = pure false := by
  cases e <;> rfl
theorem sole_sub {e a b : Expr} {p : Pos} {l : Nat} {env : Env} : swapsWithSole [.Subscript a b p] e l env = pure false := by
  show swapsWith e (some (.Subscript a b p)) l env = _
  exact swaps_sub
/-- a comprehension stored at a name -/
def swC (sc : Scope) (e : Expr) (t : Str) (pt : Pos) : Bool := match e with
  | .ListComp _ _ s p => decide (sc.names.lookup t = some .local) && (pt.line == p.line) && !(s.names.any fun (n, k) => n == t && (k == .local || k == .cell))
  | _ => false
theorem swc_is {sc : Scope} {elt : Expr} {gs : List Comprehension} {s : Scope} {p pt : Pos} {t : Str} {l : Nat} {env : Env} (hs : env.scope = sc) (hk : sc.kind = .function) : swapsWith (.ListComp elt gs s p) (some (.Name t pt)) l env = pure (swC sc (.ListComp elt gs s p) t pt) := by
  have hb : env.blockKind = .function := by unfold Env.blockKind; rw [hs, hk]; rfl
  have hkd : env.kindOf t = sc.names.lookup t := by unfold Env.kindOf; rw [hs]
  unfold swapsWith swC
  simp only [hb, hkd, Expr.pos]
  have e1 : (sc.names.lookup t == some NameKind.local) = decide (sc.names.lookup t = some .local) := by
    by_cases h : sc.names.lookup t = some .local
    · rw [h]; rfl
    · rw [decide_eq_false h]; exact beq_eq_false_iff_ne.mpr h
  rw [e1]
  rfl
def free (Z : Sc) (i : Nat) : Bool := !Z.R.contains i
def isPairL (Z : Sc) (xs : List Str) : List Nat → List Expr → Bool
  | [], [] => true
  | i :: is, .Name x _ :: es => decide (Z.N[i]? = some x) && decide (Z.sc.names.lookup x = some .local) && isPairL Z xs is es
  | _, _ => false
def namesOf : List Expr → List Str
  | .Name x _ :: es => x :: namesOf es
  | _ => []
/-- so many empty lists behind -/
def nilN : Nat → Es
  | 0 => .nil
  | n + 1 => .cons (.lst .nil) (nilN n)
def appN : Es → Nat → Es
  | .nil, n => nilN n
  | .cons e es, n => .cons e (appN es n)
def chkR (Z : Sc) : RE → Expr → Bool
  | .e a, e => chkE Z a e
  | .call x _ es, e => match e with | .Call (.Name y _) (z :: xs) [] _ => decide (x = y) && glIs Z x && chkEs Z es (z :: xs) | _ => false
  | .callK x _ _ ks es, e => match e with | .Call (.Name y _) [] kws _ => decide (x = y) && glIs Z x && chkK Z ks es kws | _ => false
  | .ife c a b, e => match e with | .IfExp t x y _ => chkE Z c t && okT c && chkR Z a x && chkR Z b y | _ => false
mutual
def chkS (Z : Sc) : S → Stmt → Bool
  | .asg i e, st => match st with | .Assign [.Name x px] v _ => storeIs Z i x && free Z i && chkE Z e v && (noComp v || swC Z.sc v x px || !swC Z.sc v x px) && noBadComp v | _ => false
  | .asgF i e, st => match st with | .Assign [.Name x px] v _ => storeIs Z i x && free Z i && chkE Z e v && noBadComp v | _ => false
  | .par is es, st => match st with
    | .Assign [.Tuple ts _ _] (.Tuple vs _ _) _ => is.all (free Z) && chkEs Z es vs && decide (vs.length ≤ 1000) && chkTgs Z is ts && decide (is.Nodup) && (match swapF Z.sc ts vs with
      | some none => true
      | some (some ns) => decide (ns = namesOf ts) && isPairL Z ns is ts && (decide (is.length = 2) || decide (is.length = 3))
      | none => false)
    | _ => false
  | .parN is es js, st => match st with
    | .Assign [.Tuple ts _ _] (.Tuple vs _ _) _ => (is ++ js).all (free Z) && chkEs Z (appN es js.length) vs && chkTgs Z (is ++ js) ts && decide ((is ++ js).Nodup) && (match swapF Z.sc ts vs with
      | some (some ns) => decide (ns = namesOf ts) && isPairL Z ns (is ++ js) ts && (decide ((is ++ js).length = 2) || decide ((is ++ js).length = 3))
      | _ => false)
    | _ => false
  | .parF i j a b, st => match st with
    | .Assign [.Tuple ts _ _] (.Tuple [x, y] _ _) _ => [i, j].all (free Z) && noStar x && noStar y && chkE Z a x && chkE Z b y && decide ([i, j].Nodup) && (match swapF Z.sc ts [x, y] with
      | some (some ns) => decide (ns = namesOf ts) && isPairL Z ns [i, j] ts
      | _ => false)
    | _ => false
  | .parI i j a b, st => match st with
    | .Assign [.Tuple ts _ _] (.Tuple [x, y] _ _) _ => [i, j].all (free Z) && noStar x && noStar y && chkE Z a x && chkE Z b y && decide ([i, j].Nodup) && (match swapF Z.sc ts [x, y] with
      | some (some ns) => decide (ns = namesOf ts) && isPairL Z ns [i, j] ts
      | _ => false)
    | _ => false
  | .parG i j l a b c, st => match st with
    | .Assign [.Tuple ts _ _] (.Tuple [x, y, z] _ _) _ => [i, j, l].all (free Z) && noStar x && noStar y && noStar z && chkE Z a x && chkE Z b y && chkE Z c z && decide ([i, j, l].Nodup) && (match swapF Z.sc ts [x, y, z] with
      | some (some ns) => decide (ns = namesOf ts) && isPairL Z ns [i, j, l] ts
      | _ => false)
    | _ => false
  | .parH i j l a b c, st => match st with
    | .Assign [.Tuple ts _ _] (.Tuple [x, y, z] _ _) _ => [i, j, l].all (free Z) && noStar x && noStar y && noStar z && chkE Z a x && chkE Z b y && chkE Z c z && decide ([i, j, l].Nodup) && (match swapF Z.sc ts [x, y, z] with
      | some (some ns) => decide (ns = namesOf ts) && isPairL Z ns [i, j, l] ts
      | _ => false)
    | _ => false
  | .unp is e, st => match st with | .Assign [.Tuple ts _ _] v _ => is.all (free Z) && chkE Z e v && chkTgs Z is ts && noTup v | _ => false
  | .unpP i j e, st => match st with | .Assign [.Tuple ts _ _] v _ => [i, j].all (free Z) && chkE Z e v && chkTgs Z [i, j] ts && noTup v | _ => false
  | .retP j e, st => match st with | .Return (some (.Tuple [.Name x _, y] _ _)) _ => nameIs Z j x && free Z j && noStar y && chkE Z e y | _ => false
  | .setIx j i e, st => match st with | .Assign [.Subscript (.Name x _) y _] v _ => nameIs Z j x && noSlice y && chkE Z i y && chkE Z e v | _ => false
  | .aug i op e, st => match st with | .AugAssign (.Name x _) o v _ => storeIs Z i x && free Z i && decide (opOf op = o) && augOk op && chkE Z e v | _ => false
  | .append j e, st => match st with | .Expr (.Call (.Attribute (.Name x _) m ap) [v] [] cp) _ => decide (m = "append") && nameIs Z j x && noStar v && (ap.endLine == cp.line) && chkE Z e v | _ => false
  | .insert j i e, st => match st with | .Expr (.Call (.Attribute (.Name x _) m ap) [y, v] [] cp) _ => decide (m = "insert") && nameIs Z j x && noStar y && noStar v && (ap.endLine == cp.line) && chkE Z i y && chkE Z e v | _ => false
  | .expr e, st => match st with | .Expr v _ => noComp v && chkE Z e v | _ => false
  | .ret e, st => match st with | .Return (some v) _ => chkE Z e v | _ => false
  | .retN, st => match st with | .Return none _ => true | _ => false
  | .ite c a b, st => match st with | .If t x y _ => chkE Z c t && okT c && chkSs Z a x && chkSs Z b y | _ => false
  | .forS tg it body, st => match st with | .For t i b [] _ => chkIt Z it tg t i && chkTg Z tg t && (tgSlots tg).all (free Z) && noSet i && chkSs Z body b | _ => false
  | .whl c body, st => match st with | .While t b [] _ => chkE Z c t && okT c && chkSs Z body b | _ => false
  | .pass, st => match st with | .Pass _ => true | _ => false
  | .brk, st => match st with | .Break _ => true | _ => false
  | .cont, st => match st with | .Continue _ => true | _ => false
  | .dnewP j e, st => match st with | .Assign [.Name x _] (.Call (.Name y _) [v] [] _) _ => storeIs Z j x && free Z j && decide (y = "dict") && glIs Z y && noStar v && chkE Z e v | _ => false
  | .dnew j ke ve, st => match st with | .Assign [.Name x _] (.Dict [some k] [v] _) _ => storeIs Z j x && free Z j && chkE Z ke k && chkE Z ve v | _ => false
  | .dset j ke ve, st => match st with | .Assign [.Subscript (.Name x _) k _] v _ => nameIs Z j x && chkE Z ke k && chkE Z ve v | _ => false
  | .raise _, st => true
  | .rexpr r, st => match st with | .Expr v _ => noComp v && chkR Z r v | _ => false
  | .rret r, st => match st with | .Return (some v) _ => chkR Z r v | _ => false
  | .raiseX c s, st => match st with | .Raise (some (.Call (.Name x _) [.Constant (.str t) _ _] [] _)) none _ => decide (c = x) && glIs Z c && decide (s = t) | _ => false
  | .tryC body c _ i j, st => match st with
    | .Try b [.ExceptHandler (some (.Name x _)) (some n) [.Assign [.Name y _] (.Name m _) _] _] [] [] _ => decide (c = x) && glIs Z c && nameIs Z i n && free Z i && decide (m = n) && decide (Z.sc.names.lookup n = some .local) && storeIs Z j y && free Z j && decide (i ≠ j) && chkSs Z body b
    | _ => false
  | .frz _, _ => false
def chkSs (Z : Sc) : Ss → List Stmt → Bool
  | .nil, sts => match sts with | [] => true | _ => false
  | .cons s ss, sts => match s with
    | .frz j => free Z j && chkSs Z ss sts
    | s => match sts with | st :: sts => chkS Z s st && chkSs Z ss sts | _ => false
/-- of comprehensions only list comprehensions -/
def noBadComp : Expr → Bool
  | .SetComp _ _ _ _ => false
  | .DictComp _ _ _ _ _ => false
  | _ => true
def noTup : Expr → Bool
  | .Tuple _ _ _ => false
  | _ => true
end
def okRE (L : Lk) : RE → Prop
  | .e a => okE L a
  | .call x sp es => L.R x sp ∧ okEs L es
  | .callK x sp ps ks es => L.RK x sp ps ks ∧ okEs L es
  | .ife c a b => okE L c ∧ okRE L a ∧ okRE L b
mutual
def okS (L : Lk) : S → Prop
  | .asg _ e => okE L e
  | .asgF _ e => okE L e
  | .par _ es => okEs L es
  | .parN _ es _ => okEs L es
  | .parF _ _ a b => okE L a ∧ okE L b
  | .parI _ _ a b => okE L a ∧ okE L b
  | .parG _ _ _ a b c => okE L a ∧ okE L b ∧ okE L c
  | .parH _ _ _ a b c => okE L a ∧ okE L b ∧ okE L c
  | .unp _ e => okE L e
  | .unpP _ _ e => okE L e
  | .retP _ e => okE L e
  | .setIx _ i e => okE L i ∧ okE L e
  | .aug _ _ e => okE L e
  | .append _ e => okE L e
  | .insert _ i e => okE L i ∧ okE L e
  | .expr e => okE L e
  | .dnewP _ e => okE L e
  | .dnew _ ke ve => okE L ke ∧ okE L ve
  | .dset _ ke ve => okE L ke ∧ okE L ve
  | .ret e => okE L e
  | .retN => True
  | .ite c a b => okE L c ∧ okSs L a ∧ okSs L b
  | .forS _ it b => okIt L it ∧ okSs L b
  | .whl c b => okE L c ∧ okSs L b
  | .pass | .brk | .cont | .raise _ | .frz _ => True
  | .rexpr r => okRE L r
  | .rret r => okRE L r
  | .raiseX c _ => L.X c
  | .tryC body c cs _ _ => L.T c cs ∧ okSs L body
def okSs (L : Lk) : Ss → Prop
  | .nil => True
  | .cons s ss => okS L s ∧ okSs L ss
end
end PF

set_option maxRecDepth 100000
set_option maxHeartbeats 1000000
namespace PF
open PySem PySem.Spec PyProof.Rows L2
section
variable {P : Program} {w : World} {K : PySem.W.Frag} {mg : Str → Option Value} {base : Heap} {k : Nat}
theorem free_no {Z : Sc} {i : Nat} (h : free Z i = true) : i ∉ Z.R := by
  unfold free at h
  simpa using h
/-- name = value, whatever the value -/
theorem sAsg {Z : Sc} {X : Cx} {i : Nat} {x : Str} {v : Expr} {e : E} {px pos : Pos} (c : Whr P w K mg base k Z X) (hst : storeIs Z i x = true) (hE : chkE Z e v = true) (o : okE (lkOf P w K mg base k) e) (hnb : noBadComp v = true) : PS X (.Assign [.Name x px] v pos) (tAsg (TEof X.K e) (gName i)) := by
  obtain ⟨s1, s2, s3⟩ := c.store hst
  by_cases hc : noComp v = true
  · exact ps_set c.nd s1 s2 (sE e c hE o) (swaps_no hc) s3
  · cases v with
    | ListComp x' gs scope p =>
      have hw := swc_is (elt := x') (gs := gs) (s := scope) (p := p) (pt := px) (t := x) (l := pos.line) c.g.sc c.g.kind
      cases hsw : swC Z.sc (.ListComp x' gs scope p) x px with
      | false =>
        rw [hsw] at hw
        exact ps_set c.nd s1 s2 (sE e c hE o) hw s3
      | true =>
        rw [hsw] at hw
        have hloc : X.env.scope.names.lookup x = some .local := by
          rw [c.g.sc]
          unfold swC at hsw
          simp only [Bool.and_eq_true, decide_eq_true_eq] at hsw
          exact hsw.1.1
        cases e with
        | comp elt cond d tg it own =>
          unfold chkE at hE
          split at hE
          · rename_i x'' t i' ifs scope' pos' heq
            cases heq
            simp only [Bool.and_eq_true] at hE
            obtain ⟨⟨⟨⟨⟨⟨hb, hi⟩, ht⟩, hsl⟩, hns⟩, hcd⟩, he⟩ := hE
            have ok : BlkOk X.N X.env.scope scope own := by rw [c.g.hN, c.g.sc]; exact blkOk_by hb
            have sl : ∀ i ∈ tgSlots tg, i ∈ own.map (·.2) := fun i hi => by
              unfold inSlots at hsl
              have := List.all_eq_true.mp hsl i hi
              simpa using this
            have pi : PI X t i' (TIof X.K it) := sIt it c hi (fun is htg => by
              subst htg
              cases t <;> first | (cases ht; done) | exact ⟨_, _, _, rfl⟩) o.2.2
            refine ps_weak (ps_setLc (i := i) (own := own) (g := TGof X.K tg) (tt := ttOf X.K cond d) (te := TEof X.K elt) c.g.calm c.nd s1 hloc hw pi ok (fun s H C cl fp => pg_tg (c.blk ok.kind s H C cl fp) ht) (fun s H C cl fp => ?_) (fun s H C cl fp => sE elt (c.blk ok.kind s H C cl fp) he o.1) (fold_no hns X.env)) fun D σ H h => lc_red sl h
            split at hcd
            · exact pts_nil
            · simp only [Bool.and_eq_true] at hcd
              exact pts_one (sT d (c.blk ok.kind s H C cl fp) hcd.1 o.2.1 hcd.2)
            · cases hcd
          · cases hE
        | _ => unfold chkE at hE; first | (cases hE; done) | (split at hE <;> first | (cases hE; done) | (rename_i heq; cases heq; done))
    | SetComp _ _ _ _ => cases hnb
    | DictComp _ _ _ _ _ => cases hnb
    | _ => exact absurd rfl hc
theorem all_free {Z : Sc} {is : List Nat} (h : is.all (free Z) = true) : ∀ i ∈ is, i ∉ Z.R := fun i hi => free_no (List.all_eq_true.mp h i hi)
theorem pairL_cons {Z : Sc} {ns : List Str} {i : Nat} {is : List Nat} {ts : List Expr} (h : isPairL Z ns (i :: is) ts = true) : ∃ x p es, ts = .Name x p :: es ∧ Z.N[i]? = some x ∧ Z.sc.names.lookup x = some .local ∧ isPairL Z ns is es = true := by
  cases ts with
  | nil => cases h
  | cons t es =>
    cases t with
    | Name x p =>
      have h : (decide (Z.N[i]? = some x) && decide (Z.sc.names.lookup x = some .local) && isPairL Z ns is es) = true := h
      simp only [Bool.and_eq_true, decide_eq_true_eq] at h
      exact ⟨x, p, es, rfl, h.1.1, h.1.2, h.2⟩
    | _ => cases h
theorem pairL_nil {Z : Sc} {ns : List Str} {ts : List Expr} (h : isPairL Z ns [] ts = true) : ts = [] := by
  cases ts with
  | nil => rfl
  | cons t es => cases h
def noListE : Expr → Bool
  | .List _ _ => false
  | _ => true
theorem sPar {Z : Sc} {X : Cx} {Wx : WX} {is : List Nat} {es : Es} {ts vs : List Expr} {kt kv : Nat} {pt pv pos : Pos} (c : Whr P w K mg base k Z X) (h : chkS Z (.par is es) (.Assign [.Tuple ts kt pt] (.Tuple vs kv pv) pos) = true) (o : okEs (lkOf P w K mg base k) es) :
    PS X (.Assign [.Tuple ts kt pt] (.Tuple vs kv pv) pos) (TSof X.K Wx Z.R (.par is es)) := by
  unfold chkS at h
  simp only [Bool.and_eq_true, decide_eq_true_eq] at h
  obtain ⟨⟨⟨⟨⟨hf, hv⟩, hl⟩, ht⟩, hnd⟩, h⟩ := h
  have pa := sEs es c hv o
  have fr := all_free hf
  split at h
  · rename_i hsw
    have pt' : PE X (.Tuple vs kv pv) (TEof X.K (.tup es)) := te_tup pa (ta_len (by rw [len_es hv]; exact Nat.le_trans hl (by decide)))
    obtain ⟨q1, q2, q3⟩ := pg_tgs c ht
    exact ps_weak (ps_asg pt' (pg_tup c.g.calm q1 q2 q3) sole_tup (swap_is c.g.sc c.g.kind hsw) rfl) fun D σ H h => par_tup fr h
  · rename_i ns hsw
    simp only [Bool.and_eq_true, Bool.or_eq_true, decide_eq_true_eq] at h
    obtain ⟨⟨hns, hp⟩, hlen⟩ := h
    have hw := swap_is (k := kt) (p := pt) (k2 := kv) (p2 := pv) c.g.sc c.g.kind hsw
    have hvl : vs.length = ts.length := by
      unfold swapF at hsw
      split at hsw
      · cases hsw
      · rename_i z
        simp only [Bool.or_eq_true, Bool.not_eq_true', not_or, bne_iff_ne, ne_eq, Decidable.not_not] at z
        exact z.2
    rcases hlen with hlen | hlen
    · match is, hlen with
      | [i, j], _ =>
        obtain ⟨x, px, es1, rfl, n1, l1, hp⟩ := pairL_cons hp
        obtain ⟨y, py, es2, rfl, n2, l2, hp⟩ := pairL_cons hp
        cases pairL_nil hp
        subst hns
        match vs, hvl, pa, hw with
        | [a, b], _, pa, hw =>
          have hij : i ≠ j := by
            intro z
            subst z
            simp at hnd
          refine ps_weak (ps_par c.g.calm c.nd (by rw [c.g.hN]; exact n1) (by rw [c.g.hN]; exact n2) hij (by rw [c.g.sc]; exact l1) (by rw [c.g.sc]; exact l2) pa hw rfl) fun D σ H h => ?_
          obtain ⟨F, O, env, eo, q⟩ := par_rd fr h
          refine ⟨F, O, env, eo, wEs_mono es (fun rs e1 q vs H' e c s => ?_) q⟩
          obtain ⟨hl2, q⟩ := q vs H' e c s
          match vs, hl2, q with
          | [v, w], _, q => exact ⟨v, w, rfl, q⟩
    · match is, hlen with
      | [i, j, l], _ =>
        obtain ⟨x, px, es1, rfl, n1, l1, hp⟩ := pairL_cons hp
        obtain ⟨y, py, es2, rfl, n2, l2, hp⟩ := pairL_cons hp
        obtain ⟨z, pz, es3, rfl, n3, l3, hp⟩ := pairL_cons hp
        cases pairL_nil hp
        subst hns
        match vs, hvl, pa, hw with
        | [a, b, d], _, pa, hw =>
          have hij : i ≠ j ∧ i ≠ l ∧ j ≠ l := by
            simp only [List.nodup_cons, List.mem_cons, List.not_mem_nil, or_false, not_or, List.nodup_nil, and_true, not_false_eq_true] at hnd
            exact ⟨hnd.1.1, hnd.1.2, hnd.2⟩
          refine ps_weak (ps_par3 c.g.calm c.nd (by rw [c.g.hN]; exact n1) (by rw [c.g.hN]; exact n2) (by rw [c.g.hN]; exact n3) hij.1 hij.2.1 hij.2.2 (by rw [c.g.sc]; exact l1) (by rw [c.g.sc]; exact l2) (by rw [c.g.sc]; exact l3) pa hw rfl) fun D σ H h => ?_
          obtain ⟨F, O, env, eo, q⟩ := par_rd fr h
          refine ⟨F, O, env, eo, wEs_mono es (fun rs e1 q vs H' e c s => ?_) q⟩
          obtain ⟨hl2, q⟩ := q vs H' e c s
          match vs, hl2, q with
          | [v, w, u], _, q => exact ⟨v, w, u, rfl, q⟩
  · cases h
theorem sEsN : ∀ (es : Es) (n : Nat) {Z : Sc} {X : Cx} {xs : List Expr}, Whr P w K mg base k Z X → chkEs Z (appN es n) xs = true → okEs (lkOf P w K mg base k) es → PA X xs (TNof X.K es n)
  | .nil, 0, Z, X, xs, c, h, o => by
    unfold appN nilN chkEs at h
    split at h
    · exact pa_nil
    · cases h
  | .nil, n + 1, Z, X, xs, c, h, o => by
    unfold appN nilN chkEs at h
    split at h
    · simp only [Bool.and_eq_true] at h
      obtain ⟨⟨hs, h1⟩, h2⟩ := h
      unfold chkE at h1
      split at h1
      · simp only [Bool.and_eq_true] at h1
        have h3 := h1.1
        unfold chkEs at h3
        split at h3
        · exact pa_cons (pe_lst pa_nil) (sEsN .nil n c h2 o) (star_no hs)
        · cases h3
      · cases h1
    · cases h
  | .cons e es, n, Z, X, xs, c, h, o => by
    unfold appN chkEs at h
    split at h
    · simp only [Bool.and_eq_true] at h
      exact pa_cons (sE e c h.1.2 o.1) (sEsN es n c h.2 o.2) (star_no h.1.1)
    · cases h
theorem tnof_mono {K : PySem.W.Frag} {σ : L2.St} : ∀ {es : Es} {n : Nat} {H : Hp} {Q Q' : List V → Hp → Prop}, (∀ vs H, Q vs H → Q' vs H) → TNof K es n σ H Q → TNof K es n σ H Q'
  | .nil, 0, H, Q, Q', h, q => h _ _ q
  | .nil, n + 1, H, Q, Q', h, q => ⟨q.1, fun p hp => tnof_mono (K := K) (es := .nil) (n := n) (fun _ _ z => h _ _ z) (q.2 p hp)⟩
  | .cons e es, n, H, Q, Q', h, q => by
    obtain ⟨F, O, env, eo, hw⟩ := q
    exact ⟨F, O, env, eo, wE_mono e (fun r e1 z v H' a b c d => tnof_mono (K := K) (es := es) (n := n) (fun _ _ z => h _ _ z) (z v H' a b c d)) hw⟩
theorem sParN {Z : Sc} {X : Cx} {Wx : WX} {is js : List Nat} {es : Es} {ts vs : List Expr} {kt kv : Nat} {pt pv pos : Pos} (c : Whr P w K mg base k Z X) (h : chkS Z (.parN is es js) (.Assign [.Tuple ts kt pt] (.Tuple vs kv pv) pos) = true) (o : okEs (lkOf P w K mg base k) es) :
    PS X (.Assign [.Tuple ts kt pt] (.Tuple vs kv pv) pos) (TSof X.K Wx Z.R (.parN is es js)) := by
  unfold chkS at h
  simp only [Bool.and_eq_true, decide_eq_true_eq] at h
  obtain ⟨⟨⟨⟨hf, hv⟩, ht⟩, hnd⟩, h⟩ := h
  have pa := sEsN es js.length c hv o
  have fr := all_free hf
  split at h
  · rename_i ns hsw
    simp only [Bool.and_eq_true, Bool.or_eq_true, decide_eq_true_eq] at h
    obtain ⟨⟨hns, hp⟩, hlen⟩ := h
    have hw := swap_is (k := kt) (p := pt) (k2 := kv) (p2 := pv) c.g.sc c.g.kind hsw
    have hvl : vs.length = ts.length := by
      unfold swapF at hsw
      split at hsw
      · cases hsw
      · rename_i z
        simp only [Bool.or_eq_true, Bool.not_eq_true', not_or, bne_iff_ne, ne_eq, Decidable.not_not] at z
        exact z.2
    have rd : ∀ {D : Ends} {σ : L2.St} {H : Hp}, TSof X.K Wx Z.R (.parN is es js) D σ H → _ := fun h => parN_rd fr h
    generalize is ++ js = ij at *
    rcases hlen with hlen | hlen
    · match ij, hlen with
      | [i, j], _ =>
        obtain ⟨x, px, es1, rfl, n1, l1, hp⟩ := pairL_cons hp
        obtain ⟨y, py, es2, rfl, n2, l2, hp⟩ := pairL_cons hp
        cases pairL_nil hp
        subst hns
        match vs, hvl, pa, hw with
        | [a, b], _, pa, hw =>
          have hij : i ≠ j := by
            intro z
            subst z
            simp at hnd
          refine ps_weak (ps_par c.g.calm c.nd (by rw [c.g.hN]; exact n1) (by rw [c.g.hN]; exact n2) hij (by rw [c.g.sc]; exact l1) (by rw [c.g.sc]; exact l2) pa hw rfl) fun D σ H h => ?_
          refine tnof_mono (fun vs H' q => ?_) (rd h)
          obtain ⟨hl2, q⟩ := q
          match vs, hl2, q with
          | [v, w], _, q => exact ⟨v, w, rfl, q⟩
    · match ij, hlen with
      | [i, j, l], _ =>
        obtain ⟨x, px, es1, rfl, n1, l1, hp⟩ := pairL_cons hp
        obtain ⟨y, py, es2, rfl, n2, l2, hp⟩ := pairL_cons hp
        obtain ⟨z, pz, es3, rfl, n3, l3, hp⟩ := pairL_cons hp
        cases pairL_nil hp
        subst hns
        match vs, hvl, pa, hw with
        | [a, b, d], _, pa, hw =>
          have hij : i ≠ j ∧ i ≠ l ∧ j ≠ l := by
            simp only [List.nodup_cons, List.mem_cons, List.not_mem_nil, or_false, not_or, List.nodup_nil, and_true, not_false_eq_true] at hnd
            exact ⟨hnd.1.1, hnd.1.2, hnd.2⟩
          refine ps_weak (ps_par3 c.g.calm c.nd (by rw [c.g.hN]; exact n1) (by rw [c.g.hN]; exact n2) (by rw [c.g.hN]; exact n3) hij.1 hij.2.1 hij.2.2 (by rw [c.g.sc]; exact l1) (by rw [c.g.sc]; exact l2) (by rw [c.g.sc]; exact l3) pa hw rfl) fun D σ H h => ?_
          refine tnof_mono (fun vs H' q => ?_) (rd h)
          obtain ⟨hl2, q⟩ := q
          match vs, hl2, q with
          | [v, w, u], _, q => exact ⟨v, w, u, rfl, q⟩
  · cases h
theorem sParF {Z : Sc} {X : Cx} {Wx : WX} {i j : Nat} {a b : E} {ts : List Expr} {x y : Expr} {kt kv : Nat} {pt pv pos : Pos} (c : Whr P w K mg base k Z X) (h : chkS Z (.parF i j a b) (.Assign [.Tuple ts kt pt] (.Tuple [x, y] kv pv) pos) = true) (o : okE (lkOf P w K mg base k) a ∧ okE (lkOf P w K mg base k) b) :
    PS X (.Assign [.Tuple ts kt pt] (.Tuple [x, y] kv pv) pos) (TSof X.K Wx Z.R (.parF i j a b)) := by
  unfold chkS at h
  simp only [Bool.and_eq_true, decide_eq_true_eq] at h
  obtain ⟨⟨⟨⟨⟨⟨hf, hs1⟩, hs2⟩, ha⟩, hb⟩, hnd⟩, h⟩ := h
  have pa : PA X [x, y] (tCons (TEof X.K a) (tCons (TEof X.K b) tNil)) := pa_cons (sE a c ha o.1) (pa_cons (sE b c hb o.2) pa_nil (star_no hs2)) (star_no hs1)
  have fr := all_free hf
  split at h
  · rename_i ns hsw
    simp only [Bool.and_eq_true, decide_eq_true_eq] at h
    obtain ⟨hns, hp⟩ := h
    have hw := swap_is (k := kt) (p := pt) (k2 := kv) (p2 := pv) c.g.sc c.g.kind hsw
    obtain ⟨x1, px, es1, rfl, n1, l1, hp⟩ := pairL_cons hp
    obtain ⟨y1, py, es2, rfl, n2, l2, hp⟩ := pairL_cons hp
    cases pairL_nil hp
    subst hns
    have hij : i ≠ j := by
      intro z
      subst z
      simp at hnd
    exact ps_weak (ps_par c.g.calm c.nd (by rw [c.g.hN]; exact n1) (by rw [c.g.hN]; exact n2) hij (by rw [c.g.sc]; exact l1) (by rw [c.g.sc]; exact l2) pa hw rfl) fun D σ H h => parF_rd fr h
  · cases h
theorem sParI {Z : Sc} {X : Cx} {Wx : WX} {i j : Nat} {a b : E} {ts : List Expr} {x y : Expr} {kt kv : Nat} {pt pv pos : Pos} (c : Whr P w K mg base k Z X) (h : chkS Z (.parI i j a b) (.Assign [.Tuple ts kt pt] (.Tuple [x, y] kv pv) pos) = true) (o : okE (lkOf P w K mg base k) a ∧ okE (lkOf P w K mg base k) b) :
    PS X (.Assign [.Tuple ts kt pt] (.Tuple [x, y] kv pv) pos) (TSof X.K Wx Z.R (.parI i j a b)) := by
  unfold chkS at h
  simp only [Bool.and_eq_true, decide_eq_true_eq] at h
  obtain ⟨⟨⟨⟨⟨⟨hf, hs1⟩, hs2⟩, ha⟩, hb⟩, hnd⟩, h⟩ := h
  have pa : PA X [x, y] (tCons (TEof X.K a) (tCons (TEof X.K b) tNil)) := pa_cons (sE a c ha o.1) (pa_cons (sE b c hb o.2) pa_nil (star_no hs2)) (star_no hs1)
  have fr := all_free hf
  split at h
  · rename_i ns hsw
    simp only [Bool.and_eq_true, decide_eq_true_eq] at h
    obtain ⟨hns, hp⟩ := h
    have hw := swap_is (k := kt) (p := pt) (k2 := kv) (p2 := pv) c.g.sc c.g.kind hsw
    obtain ⟨x1, px, es1, rfl, n1, l1, hp⟩ := pairL_cons hp
    obtain ⟨y1, py, es2, rfl, n2, l2, hp⟩ := pairL_cons hp
    cases pairL_nil hp
    subst hns
    have hij : i ≠ j := by
      intro z
      subst z
      simp at hnd
    exact ps_weak (ps_par c.g.calm c.nd (by rw [c.g.hN]; exact n1) (by rw [c.g.hN]; exact n2) hij (by rw [c.g.sc]; exact l1) (by rw [c.g.sc]; exact l2) pa hw rfl) fun D σ H h => parI_rd hij fr h
  · cases h
theorem sParG {Z : Sc} {X : Cx} {Wx : WX} {i j l : Nat} {a b d : E} {ts : List Expr} {x y z : Expr} {kt kv : Nat} {pt pv pos : Pos} (c : Whr P w K mg base k Z X) (h : chkS Z (.parG i j l a b d) (.Assign [.Tuple ts kt pt] (.Tuple [x, y, z] kv pv) pos) = true) (o : okE (lkOf P w K mg base k) a ∧ okE (lkOf P w K mg base k) b ∧ okE (lkOf P w K mg base k) d) :
    PS X (.Assign [.Tuple ts kt pt] (.Tuple [x, y, z] kv pv) pos) (TSof X.K Wx Z.R (.parG i j l a b d)) := by
  unfold chkS at h
  simp only [Bool.and_eq_true, decide_eq_true_eq] at h
  obtain ⟨⟨⟨⟨⟨⟨⟨⟨hf, hs1⟩, hs2⟩, hs3⟩, ha⟩, hb⟩, hc⟩, hnd⟩, h⟩ := h
  have pa : PA X [x, y, z] (tCons (TEof X.K a) (tCons (TEof X.K b) (tCons (TEof X.K d) tNil))) := pa_cons (sE a c ha o.1) (pa_cons (sE b c hb o.2.1) (pa_cons (sE d c hc o.2.2) pa_nil (star_no hs3)) (star_no hs2)) (star_no hs1)
  have fr := all_free hf
  split at h
  · rename_i ns hsw
    simp only [Bool.and_eq_true, decide_eq_true_eq] at h
    obtain ⟨hns, hp⟩ := h
    have hw := swap_is (k := kt) (p := pt) (k2 := kv) (p2 := pv) c.g.sc c.g.kind hsw
    obtain ⟨x1, px, es1, rfl, n1, l1, hp⟩ := pairL_cons hp
    obtain ⟨y1, py, es2, rfl, n2, l2, hp⟩ := pairL_cons hp
    obtain ⟨z1, pz, es3, rfl, n3, l3, hp⟩ := pairL_cons hp
    cases pairL_nil hp
    subst hns
    have hij : i ≠ j ∧ i ≠ l ∧ j ≠ l := by
      simp only [List.nodup_cons, List.mem_cons, List.not_mem_nil, or_false, not_or, List.nodup_nil, and_true, not_false_eq_true] at hnd
      exact ⟨hnd.1.1, hnd.1.2, hnd.2⟩
    exact ps_weak (ps_par3 c.g.calm c.nd (by rw [c.g.hN]; exact n1) (by rw [c.g.hN]; exact n2) (by rw [c.g.hN]; exact n3) hij.1 hij.2.1 hij.2.2 (by rw [c.g.sc]; exact l1) (by rw [c.g.sc]; exact l2) (by rw [c.g.sc]; exact l3) pa hw rfl) fun D σ H h => parG_rd hij.1 fr h
  · cases h
theorem sParH {Z : Sc} {X : Cx} {Wx : WX} {i j l : Nat} {a b d : E} {ts : List Expr} {x y z : Expr} {kt kv : Nat} {pt pv pos : Pos} (c : Whr P w K mg base k Z X) (h : chkS Z (.parH i j l a b d) (.Assign [.Tuple ts kt pt] (.Tuple [x, y, z] kv pv) pos) = true) (o : okE (lkOf P w K mg base k) a ∧ okE (lkOf P w K mg base k) b ∧ okE (lkOf P w K mg base k) d) :
    PS X (.Assign [.Tuple ts kt pt] (.Tuple [x, y, z] kv pv) pos) (TSof X.K Wx Z.R (.parH i j l a b d)) := by
  unfold chkS at h
  simp only [Bool.and_eq_true, decide_eq_true_eq] at h
  obtain ⟨⟨⟨⟨⟨⟨⟨⟨hf, hs1⟩, hs2⟩, hs3⟩, ha⟩, hb⟩, hc⟩, hnd⟩, h⟩ := h
  have pa : PA X [x, y, z] (tCons (TEof X.K a) (tCons (TEof X.K b) (tCons (TEof X.K d) tNil))) := pa_cons (sE a c ha o.1) (pa_cons (sE b c hb o.2.1) (pa_cons (sE d c hc o.2.2) pa_nil (star_no hs3)) (star_no hs2)) (star_no hs1)
  have fr := all_free hf
  split at h
  · rename_i ns hsw
    simp only [Bool.and_eq_true, decide_eq_true_eq] at h
    obtain ⟨hns, hp⟩ := h
    have hw := swap_is (k := kt) (p := pt) (k2 := kv) (p2 := pv) c.g.sc c.g.kind hsw
    obtain ⟨x1, px, es1, rfl, n1, l1, hp⟩ := pairL_cons hp
    obtain ⟨y1, py, es2, rfl, n2, l2, hp⟩ := pairL_cons hp
    obtain ⟨z1, pz, es3, rfl, n3, l3, hp⟩ := pairL_cons hp
    cases pairL_nil hp
    subst hns
    have hij : i ≠ j ∧ i ≠ l ∧ j ≠ l := by
      simp only [List.nodup_cons, List.mem_cons, List.not_mem_nil, or_false, not_or, List.nodup_nil, and_true, not_false_eq_true] at hnd
      exact ⟨hnd.1.1, hnd.1.2, hnd.2⟩
    exact ps_weak (ps_par3 c.g.calm c.nd (by rw [c.g.hN]; exact n1) (by rw [c.g.hN]; exact n2) (by rw [c.g.hN]; exact n3) hij.1 hij.2.1 hij.2.2 (by rw [c.g.sc]; exact l1) (by rw [c.g.sc]; exact l2) (by rw [c.g.sc]; exact l3) pa hw rfl) fun D σ H h => parH_rd hij.1 hij.2.1 hij.2.2 fr h
  · cases h
theorem swap_none {ts : List Expr} {kt : Nat} {pt : Pos} {v : Expr} {env : Env} (h : noTup v = true) : swappedStores [.Tuple ts kt pt] v env = pure none := by
  cases v <;> first | rfl | cases h
theorem swap_none1 {t v : Expr} {env : Env} (h : noTup t = true) (h2 : noListE t = true) : swappedStores [t] v env = pure none := by
  cases t <;> first | (cases v <;> rfl; done) | (cases h; done) | (cases h2; done)
theorem Whr.tr {Z : Sc} {X : Cx} (c : Whr P w K mg base k Z X) (pn : List (Addr × Obj)) (xe : Value → Shared → Prop) (h : PassesOwn (model X.prog X.w) X.A X.env xe) : Whr P w K mg base k Z (X.tr pn xe) :=
  ⟨⟨c.g.hN, c.g.nd, c.g.sc, c.g.kind, c.g.fn, c.g.calm, c.g.room, c.g.guards, h⟩, c.prog, c.w, c.K, c.mg, c.base, c.bn⟩
theorem sR {Wx : WX} : ∀ (r : RE) {Z : Sc} {X : Cx} {e : Expr}, Whr P w K mg base k Z X → Takes X Wx → chkR Z r e = true → okRE (lkOf P w K mg base k) r → PE X e (TRof X.K Wx r)
  | .e a, Z, X, e, c, tk, h, o => tr_e (sE a c h o)
  | .call x sp es, Z, X, e, c, tk, h, o => by
    unfold chkR at h
    split at h
    · simp only [Bool.and_eq_true, decide_eq_true_eq] at h
      obtain ⟨⟨rfl, hg⟩, h⟩ := h
      obtain ⟨a, b⟩ := c.gl hg
      have pa := sEs es c h o.2
      cases es with
      | nil => cases h
      | cons e es =>
        unfold chkEs at h
        simp only [Bool.and_eq_true] at h
        exact tr_call (by rw [c.prog, c.w, c.K, c.mg, c.base]; exact o.1) c.g.room c.g.guards tk a b pa (star_no h.1.1) (any_no h.2)
    · cases h
  | .callK x sp ps ks es, Z, X, e, c, tk, h, o => by
    unfold chkR at h
    split at h
    · simp only [Bool.and_eq_true, decide_eq_true_eq] at h
      obtain ⟨⟨rfl, hg⟩, h⟩ := h
      obtain ⟨a, b⟩ := c.gl hg
      obtain ⟨a1, a2, a3, a4⟩ := kw_facts (env := X.env) h
      refine tr_callK (by rw [c.prog, c.w, c.K, c.mg, c.base]; exact o.1) c.g.room c.g.guards tk a b (sK es c h o.2) a1 a2 a3 ?_
      rw [a4]
      rfl
    · cases h
  | .ife d x y, Z, X, e, c, tk, h, o => by
    unfold chkR at h
    split at h
    · simp only [Bool.and_eq_true] at h
      obtain ⟨⟨⟨h1, ht⟩, h2⟩, h3⟩ := h
      exact tr_ife (sT d c h1 o.1 ht) (sR x c tk h2 o.2.1) (sR y c tk h3 o.2.2)
    · cases h
mutual
theorem sS : ∀ (s : S) {Z : Sc} {X : Cx} {st : Stmt} {Wx : WX}, Whr P w K mg base k Z X → Top X → Takes X Wx → chkS Z s st = true → okS (lkOf P w K mg base k) s → PS X st (TSof X.K Wx Z.R s)
  | .asg i e, Z, X, st, Wx, c, tp, tk, h, o => by
    unfold chkS at h
    split at h
    · simp only [Bool.and_eq_true] at h
      obtain ⟨⟨⟨⟨h1, h2⟩, h3⟩, _⟩, h5⟩ := h
      exact ps_weak (sAsg c h1 h3 o h5) fun D σ H h => asg_red (free_no h2) h
    · cases h
  | .asgF i e, Z, X, st, Wx, c, tp, tk, h, o => by
    unfold chkS at h
    split at h
    · simp only [Bool.and_eq_true] at h
      obtain ⟨⟨⟨h1, h2⟩, h3⟩, h5⟩ := h
      exact ps_weak (sAsg c h1 h3 o h5) fun D σ H h => asgF_red (free_no h2) h
    · cases h
  | .par is es, Z, X, st, Wx, c, tp, tk, h, o => by
    have h0 := h
    unfold chkS at h
    split at h
    · exact sPar c h0 o
    · cases h
  | .parN is es js, Z, X, st, Wx, c, tp, tk, h, o => by
    have h0 := h
    unfold chkS at h
    split at h
    · exact sParN c h0 o
    · cases h
  | .parF i j a b, Z, X, st, Wx, c, tp, tk, h, o => by
    have h0 := h
    unfold chkS at h
    split at h
    · exact sParF c h0 o
    · cases h
  | .parI i j a b, Z, X, st, Wx, c, tp, tk, h, o => by
    have h0 := h
    unfold chkS at h
    split at h
    · exact sParI c h0 o
    · cases h
  | .parG i j l a b d, Z, X, st, Wx, c, tp, tk, h, o => by
    have h0 := h
    unfold chkS at h
    split at h
    · exact sParG c h0 o
    · cases h
  | .parH i j l a b d, Z, X, st, Wx, c, tp, tk, h, o => by
    have h0 := h
    unfold chkS at h
    split at h
    · exact sParH c h0 o
    · cases h
  | .unp is e, Z, X, st, Wx, c, tp, tk, h, o => by
    unfold chkS at h
    split at h
    · simp only [Bool.and_eq_true] at h
      obtain ⟨⟨⟨hf, h1⟩, ht⟩, hn⟩ := h
      obtain ⟨q1, q2, q3⟩ := pg_tgs c ht
      exact ps_weak (ps_asg (sE e c h1 o) (pg_tup c.g.calm q1 q2 q3) sole_tup (swap_none hn) rfl) fun D σ H h => unp_red (all_free hf) h
    · cases h
  | .unpP i j e, Z, X, st, Wx, c, tp, tk, h, o => by
    unfold chkS at h
    split at h
    · simp only [Bool.and_eq_true] at h
      obtain ⟨⟨⟨hf, h1⟩, ht⟩, hn⟩ := h
      obtain ⟨q1, q2, q3⟩ := pg_tgs c ht
      exact ps_weak (ps_asg (sE e c h1 o) (pg_tup c.g.calm q1 q2 q3) sole_tup (swap_none hn) rfl) fun D σ H h => unpP_red (all_free hf) h
    · cases h
  | .retP j e, Z, X, st, Wx, c, tp, tk, h, o => by
    unfold chkS at h
    split at h
    · simp only [Bool.and_eq_true] at h
      obtain ⟨⟨⟨h1, h2⟩, h3⟩, h4⟩ := h
      obtain ⟨a1, a2, a3, a4⟩ := c.var h1
      exact ps_weak (ps_ret (pe_tup (pa_cons (pe_var a1 a2 a3 a4) (pa_cons (sE e c h4 o) pa_nil (star_no h3)) rfl))) fun D σ H h => retP_red (free_no h2) h
    · cases h
  | .setIx j i e, Z, X, st, Wx, c, tp, tk, h, o => by
    unfold chkS at h
    split at h
    · simp only [Bool.and_eq_true] at h
      obtain ⟨⟨⟨h1, hsl⟩, h2⟩, h3⟩ := h
      obtain ⟨a, b, d, f⟩ := c.var h1
      refine ps_weak (ps_asg (sE e c h3 o.2) (pg_sub (pe_var a b d f) (sE i c h2 o.1) set_list ?_) sole_sub (swap_none1 rfl rfl) rfl) fun D σ H h => setIx_red h
      rename_i y _ _ _
      intro u
      cases y <;> first | rfl | cases hsl
    · cases h
  | .aug i op e, Z, X, st, Wx, c, tp, tk, h, o => by
    unfold chkS at h
    split at h
    · simp only [Bool.and_eq_true, decide_eq_true_eq] at h
      obtain ⟨⟨⟨⟨h1, hf⟩, rfl⟩, ho⟩, h2⟩ := h
      obtain ⟨s1, s2, s3⟩ := c.store h1
      exact ps_weak (ps_aug c.nd s1 s2 (sE e c h2 o) (ip_of op) s3) fun D σ H h => aug_red ho (free_no hf) h
    · cases h
  | .append j e, Z, X, st, Wx, c, tp, tk, h, o => by
    unfold chkS at h
    split at h
    · simp only [Bool.and_eq_true, decide_eq_true_eq] at h
      obtain ⟨⟨⟨⟨rfl, h1⟩, hs⟩, hl⟩, h2⟩ := h
      obtain ⟨a, b, d, f⟩ := c.var h1
      refine ps_weak (ps_expr (pe_bm PySem.F.plainAttrs_list PySem.F.slot_list_append PySem.F.type_list_append mt_append (pe_var a b d f) (pa_cons (sE e c h2 o) pa_nil (star_no hs)) rfl ?_ hl (star_no hs) rfl) rfl) fun D σ H h => append_red h
      rw [star_no hs]
      rfl
    · cases h
  | .insert j i e, Z, X, st, Wx, c, tp, tk, h, o => by
    unfold chkS at h
    split at h
    · simp only [Bool.and_eq_true, decide_eq_true_eq] at h
      obtain ⟨⟨⟨⟨⟨⟨rfl, h1⟩, hs⟩, hs2⟩, hl⟩, h2⟩, h3⟩ := h
      obtain ⟨a, b, d, f⟩ := c.var h1
      refine ps_weak (ps_expr (pe_bm PySem.F.plainAttrs_list PySem.F.slot_list_insert PySem.F.type_list_insert mt_insert (pe_var a b d f) (pa_cons (sE i c h2 o.1) (pa_cons (sE e c h3 o.2) pa_nil (star_no hs2)) (star_no hs)) rfl ?_ hl (star_no hs) ?_) rfl) fun D σ H h => insert_red h
      · rw [star_no hs, star_no hs2]; rfl
      · rw [star_no hs2]; rfl
    · cases h
  | .expr e, Z, X, st, Wx, c, tp, tk, h, o => by
    unfold chkS at h
    split at h
    · simp only [Bool.and_eq_true] at h
      exact ts_expr (sE e c h.2 o) (swaps_no h.1)
    · cases h
  | .ret e, Z, X, st, Wx, c, tp, tk, h, o => by
    unfold chkS at h
    split at h
    · exact ts_ret (sE e c h o)
    · cases h
  | .retN, Z, X, st, Wx, c, tp, tk, h, o => by
    unfold chkS at h
    split at h
    · exact ts_retN
    · cases h
  | .ite d a b, Z, X, st, Wx, c, tp, tk, h, o => by
    unfold chkS at h
    split at h
    · simp only [Bool.and_eq_true] at h
      obtain ⟨⟨⟨h1, ht⟩, h2⟩, h3⟩ := h
      exact ts_ite (sT d c h1 o.1 ht) (sSs a c tp tk h2 o.2.1) (sSs b c tp tk h3 o.2.2)
    · cases h
  | .forS tg it body, Z, X, st, Wx, c, tp, tk, h, o => by
    unfold chkS at h
    split at h
    · rename_i t i b pos
      simp only [Bool.and_eq_true] at h
      obtain ⟨⟨⟨⟨h1, ht⟩, hf⟩, hns⟩, h2⟩ := h
      have pi : PI X t i (TIof X.K it) := sIt it c h1 (fun is htg => by
        subst htg
        cases t <;> first | (cases ht; done) | exact ⟨_, _, _, rfl⟩) o.1
      exact ps_weak (ps_for c.g.pass c.g.calm pi (pg_tg c ht) (sSs body c tp tk h2 o.2) (fold_no hns X.env)) fun D σ H h => for_red (all_free hf) h
    · cases h
  | .whl d body, Z, X, st, Wx, c, tp, tk, h, o => by
    unfold chkS at h
    split at h
    · simp only [Bool.and_eq_true] at h
      obtain ⟨⟨h1, ht⟩, h2⟩ := h
      exact ps_weak (ps_while c.g.pass (sT d c h1 o.1 ht) (sSs body c tp tk h2 o.2)) fun D σ H h => while_red h
    · cases h
  | .pass, Z, X, st, Wx, c, tp, tk, h, o => by
    unfold chkS at h
    split at h
    · exact ts_pass
    · cases h
  | .brk, Z, X, st, Wx, c, tp, tk, h, o => by
    unfold chkS at h
    split at h
    · exact ts_brk
    · cases h
  | .cont, Z, X, st, Wx, c, tp, tk, h, o => by
    unfold chkS at h
    split at h
    · exact ts_cont
    · cases h
  | .dnewP j e, Z, X, st, Wx, c, tp, tk, h, o => by
    unfold chkS at h
    split at h
    · simp only [Bool.and_eq_true, decide_eq_true_eq] at h
      obtain ⟨⟨⟨⟨⟨h1, hf⟩, rfl⟩, hg⟩, hs⟩, h2⟩ := h
      obtain ⟨s1, s2, s3⟩ := c.store h1
      exact ps_weak (ps_set c.nd s1 s2 (pe_callTy (cr_dictP c.g.calm (by have := c.u; omega)) (c.gl hg).1 (c.no (by decide +kernel)) (by decide +kernel) (pa_cons (sE e c h2 o) pa_nil (star_no hs)) (by decide +kernel) (by decide +kernel) (star_no hs) rfl) rfl s3) fun D σ H h => dnewP_red (free_no hf) h
    · cases h
  | .dnew j ke ve, Z, X, st, Wx, c, tp, tk, h, o => by
    unfold chkS at h
    split at h
    · simp only [Bool.and_eq_true] at h
      obtain ⟨⟨⟨h1, hf⟩, h2⟩, h3⟩ := h
      obtain ⟨s1, s2, s3⟩ := c.store h1
      exact ts_dnew (by have := c.u; omega) (free_no hf) c.nd s1 s2 (sE ke c h2 o.1) (sE ve c h3 o.2) s3
    · cases h
  | .dset j ke ve, Z, X, st, Wx, c, tp, tk, h, o => by
    unfold chkS at h
    split at h
    · simp only [Bool.and_eq_true] at h
      obtain ⟨⟨h1, h2⟩, h3⟩ := h
      obtain ⟨a, b, d, f⟩ := c.var h1
      exact ps_weak (ps_dput (by have := c.u; omega) (pe_var a b d f) (sE ke c h2 o.1) (sE ve c h3 o.2) swaps_sub) fun D σ H h => dset_red h
    · cases h
  | .raise x, Z, X, st, Wx, c, tp, tk, h, o => ts_raise
  | .rexpr r, Z, X, st, Wx, c, tp, tk, h, o => by
    unfold chkS at h
    split at h
    · simp only [Bool.and_eq_true] at h
      exact ts_rexpr (sR r c tk h.2 o) (swaps_no h.1)
    · cases h
  | .rret r, Z, X, st, Wx, c, tp, tk, h, o => by
    unfold chkS at h
    split at h
    · exact ts_rret (sR r c tk h o)
    · cases h
  | .raiseX x s, Z, X, st, Wx, c, tp, tk, h, o => by
    unfold chkS at h
    split at h
    · simp only [Bool.and_eq_true, decide_eq_true_eq] at h
      obtain ⟨⟨rfl, hg⟩, rfl⟩ := h
      obtain ⟨a, b⟩ := c.gl hg
      exact ts_raiseX (by rw [c.K, c.mg]; exact o) c.g.calm tk a b
    · cases h
  | .tryC body x cs i j, Z, X, st, Wx, c, tp, tk, h, o => by
    unfold chkS at h
    split at h
    · simp only [Bool.and_eq_true, decide_eq_true_eq] at h
      obtain ⟨⟨⟨⟨⟨⟨⟨⟨⟨rfl, hg⟩, h1⟩, f1⟩, rfl⟩, hl⟩, h2⟩, f2⟩, hij⟩, h3⟩ := h
      obtain ⟨a, b⟩ := c.gl hg
      obtain ⟨a1, a2, a3, a4⟩ := c.var h1
      exact ts_tryC tp.s tp.f tp.x c.nd a1 (by
        unfold Env.kindOf
        rw [c.g.sc]
        exact hl) a2 a3 a4 (c.store h2) (free_no f1) (free_no f2) hij a b (by rw [c.K, c.mg]; exact o.1) fun W pn xe tk' ps' => sSs body (c.tr pn xe ps') ⟨tp.s, tp.f, tp.x⟩ tk' h3 o.2
    · cases h
  | .frz j, Z, X, st, Wx, c, tp, tk, h, o => by unfold chkS at h; cases h
theorem sSs : ∀ (ss : Ss) {Z : Sc} {X : Cx} {sts : List Stmt} {Wx : WX}, Whr P w K mg base k Z X → Top X → Takes X Wx → chkSs Z ss sts = true → okSs (lkOf P w K mg base k) ss → PSs X sts (TSsof X.K Wx Z.R ss)
  | .nil, Z, X, sts, Wx, c, tp, tk, h, o => by
    unfold chkSs at h
    split at h
    · exact tss_nil
    · cases h
  | .cons s ss, Z, X, sts, Wx, c, tp, tk, h, o => by
    unfold chkSs at h
    split at h
    · simp only [Bool.and_eq_true] at h
      exact tss_frz (free_no h.1) (sSs ss c tp tk h.2 o.2)
    · split at h
      · simp only [Bool.and_eq_true] at h
        exact tss_cons (sS s c tp tk h.1 o.1) (sSs ss c tp tk h.2 o.2)
      · cases h
end
end
end PF

set_option maxRecDepth 100000
set_option maxHeartbeats 1000000
namespace PF
open PySem PySem.Spec PyProof.Rows L2
/-! ### a def by its body -/
def initE (n : Nat) (as : List AV) : AEnv := as.map some ++ List.replicate (n - as.length) none
def finals : List AV → AEnv → Nat → List AV
  | [], _, _ => []
  | .o ds :: r, env, i => (match getE env i with | some (.o ds') => .o ds' | _ => .o ds) :: finals r env (i + 1)
  | .d x :: r, env, i => .d x :: finals r env (i + 1)
  | .b j :: r, env, i => .b j :: finals r env (i + 1)
  | .p ds x :: r, env, i => .p ds x :: finals r env (i + 1)
  | .m kvs :: r, env, i => .m kvs :: finals r env (i + 1)
def retK (R : List Nat) (r : AV) (env : AEnv) (k : AV → Prop) : Prop :=
  match r with
  | .d x => k (.d x)
  | .o ds => k (.o ds)
  | .b j => j ∉ R ∧ (match getE env j with | some (.o ds) => k (.o ds) | _ => False)
  | .p ds x => k (.p ds x)
  | .m _ => False
structure Body (np n : Nat) (R : List Nat) (b : Ss) (sp : ASp) : Prop where
  len : ∀ as Q X, sp.run as Q X → as.length = np
  lent : ∀ as Q X, sp.run as Q X → ∀ (i : Nat) ds, as[i]? = some (.o ds) → i ∈ R
  run : ∀ as Q, sp.run as Q (fun _ => False) → wSs X0 b (initE n as) { nx := fun env => Q (.d .none) (finals as env 0), rt := fun r env => retK R r env fun r' => Q r' (finals as env 0) }
theorem get_init {n : Nat} {as : List AV} {i : Nat} : getE (initE n as) i = as[i]? := by
  unfold initE
  have rep : ∀ m i, getE (List.replicate m none) i = none := by
    intro m
    induction m with
    | zero => intro i; rfl
    | succ m ih => intro i; cases i with | zero => rfl | succ i => exact ih i
  induction as generalizing i n with
  | nil => simp [rep]
  | cons a as ih =>
    cases i with
    | zero => rfl
    | succ i =>
      show getE (as.map some ++ List.replicate (n - (as.length + 1)) none) i = _
      have := ih (n := n - 1) (i := i)
      rw [show n - 1 - as.length = n - (as.length + 1) by omega] at this
      rw [this]
      simp
theorem fin_len : ∀ {as : List AV} {env : AEnv} {i : Nat}, (finals as env i).length = as.length
  | [], _, _ => rfl
  | .d _ :: r, env, i => by show (finals r env (i + 1)).length + 1 = _; rw [fin_len]; rfl
  | .o _ :: r, env, i => by show (finals r env (i + 1)).length + 1 = _; rw [fin_len]; rfl
  | .b _ :: r, env, i => by show (finals r env (i + 1)).length + 1 = _; rw [fin_len]; rfl
  | .p _ _ :: r, env, i => by show (finals r env (i + 1)).length + 1 = _; rw [fin_len]; rfl
  | .m _ :: r, env, i => by show (finals r env (i + 1)).length + 1 = _; rw [fin_len]; rfl
theorem fin_get : ∀ {as : List AV} {env : AEnv} {m i : Nat} {a : AV}, (finals as env m)[i]? = some a → (∃ ds, as[i]? = some (.o ds) ∧ ((∃ ds', getE env (m + i) = some (.o ds') ∧ a = .o ds') ∨ ((∀ ds', getE env (m + i) ≠ some (.o ds')) ∧ a = .o ds))) ∨ (as[i]? = some a ∧ ∀ ds, a ≠ .o ds)
  | [], _, _, _, _, h => by simp [finals] at h
  | x :: r, env, m, 0, a, h => by
    cases x with
    | d y => simp [finals] at h; subst h; exact .inr ⟨rfl, fun ds z => by cases z⟩
    | b y => simp [finals] at h; subst h; exact .inr ⟨rfl, fun ds z => by cases z⟩
    | p y y2 => simp [finals] at h; subst h; exact .inr ⟨rfl, fun ds z => by cases z⟩
    | m y => simp [finals] at h; subst h; exact .inr ⟨rfl, fun ds z => by cases z⟩
    | o y =>
      simp only [finals, List.getElem?_cons_zero, Option.some.injEq] at h
      refine .inl ⟨y, rfl, ?_⟩
      rw [Nat.add_zero]
      split at h
      · rename_i ds' hg
        exact .inl ⟨ds', hg, h.symm⟩
      · rename_i hg
        exact .inr ⟨hg, h.symm⟩
  | x :: r, env, m, i + 1, a, h => by
    have h' : (finals r env (m + 1))[i]? = some a := by cases x <;> simpa [finals] using h
    rcases fin_get h' with ⟨ds, h1, h2⟩ | ⟨h1, h2⟩
    · refine .inl ⟨ds, by simpa using h1, ?_⟩
      rw [show m + (i + 1) = m + 1 + i by omega]
      exact h2
    · exact .inr ⟨by simpa using h1, h2⟩
section
variable {P : Program} {w : World} {K : PySem.W.Frag} {mg : Str → Option Value} {base : Heap}
/-- the entry of a def -/
def entry (as : List AV) (vs : List V) (O : List Addr) (H : Hp) : Fi := ⟨O, H, fun i => match as[i]?, vs[i]? with | some (.o _), some (.ref p) => some p | _, _ => none, false⟩
theorem entry_par {as : List AV} {vs : List V} {O : List Addr} {H : Hp} {i : Nat} {p : Addr} : (entry as vs O H).par i = some p ↔ (∃ ds, as[i]? = some (.o ds)) ∧ vs[i]? = some (.ref p) := by
  show (match as[i]?, vs[i]? with | some (.o _), some (.ref p) => some p | _, _ => none) = some p ↔ _
  constructor
  · intro h
    split at h
    · rename_i ds q h1 h2
      cases h
      exact ⟨⟨ds, h1⟩, h2⟩
    · cases h
  · rintro ⟨⟨ds, h1⟩, h2⟩
    rw [h1, h2]
theorem start_get {N : List Str} {vs : List V} {i : Nat} {v : V} (h : vs[i]? = some v) : (L2.start N vs)[i]? = some (some v) := by
  unfold L2.start
  obtain ⟨hl, _⟩ := List.getElem?_eq_some_iff.mp h
  rw [List.getElem?_append_left (by simpa using hl), List.getElem?_map, h]
  rfl
theorem entry_ok {as : List AV} {vs : List V} {O : List Addr} {H : Hp} {N : List Str} (a : ArgsOk K O H vs as) (hn : vs.length ≤ N.length) : EnvOk K (entry as vs O H) O H (L2.start N vs) (initE N.length as) where
  len := by
    unfold L2.start initE
    rw [List.length_append, List.length_append, List.length_map, List.length_map, List.length_replicate, List.length_replicate, a.len]
  dat := fun i x h => by
    rw [get_init] at h
    obtain ⟨v, h1, h2⟩ := a.dat i x h
    exact ⟨v, start_get h1, h2⟩
  own := fun i ds h => by
    rw [get_init] at h
    obtain ⟨p, us, h1, h2, h3, h4⟩ := a.own i ds h
    exact ⟨p, us, start_get h1, h2, h3, h4⟩
  nob := fun i j h => by
    rw [get_init] at h
    exact a.nob i j h
  inj := fun i j ds ds' p h1 h2 _ _ => by
    rw [get_init] at h1 h2
    exact a.one i j ds ds' h1 h2
  live := a.live
  sub := fun _ h => h
  new := fun _ h => .inl h
  keep := fun _ _ h _ => h
  ownF := fun i ds p h1 h2 => by
    rw [get_init] at h1
    obtain ⟨q, us, g1, _⟩ := a.own i ds h1
    rw [start_get g1] at h2
    cases h2
    exact .inl ⟨i, entry_par.mpr ⟨⟨ds, h1⟩, g1⟩⟩
  par := fun i p h => by
    obtain ⟨⟨ds, h1⟩, h2⟩ := entry_par.mp h
    exact ⟨start_get h2, ds, by rw [get_init]; exact h1⟩
  dic := fun i kvs h => by
    rw [get_init] at h
    exact (a.nom i kvs h).elim
/-- the body's wish, read -/
theorem body_redC {np : Nat} {N : List Str} {R : List Nat} {b : Ss} {Xb : XQ} {Wx : WX} {as : List AV} {O : List Addr} {vs : List V} {H : Hp} {Q : VK} (ao : ArgsOk K O H vs as) (hl : as.length = np) (hn : np ≤ N.length) (hlt : ∀ (i : Nat) ds, as[i]? = some (.o ds) → i ∈ R)
    (hb : wSs Xb b (initE N.length as) { nx := fun env => (fun r as' => ∀ v H', Shape as as' → ArgsOk K O H' vs as' → (∀ a o, H a = some o → (∀ (i : Nat) ds, as[i]? = some (.o ds) → vs[i]? ≠ some (.ref a)) → H' a = some o) → RetOk K O H H' v r → AvA K O H' vs as' v r → Q v H') (.d .none) (finals as env 0), rt := fun r env => retK R r env fun r' => (fun r as' => ∀ v H', Shape as as' → ArgsOk K O H' vs as' → (∀ a o, H a = some o → (∀ (i : Nat) ds, as[i]? = some (.o ds) → vs[i]? ≠ some (.ref a)) → H' a = some o) → RetOk K O H H' v r → AvA K O H' vs as' v r → Q v H') r' (finals as env 0) })
    (hX : ∀ c env σ' H' O', EnvOk K (entry as vs O H) O' H' σ' env → Xb c env → Wx (.ref (He.ga K c)) none σ' H') : TSsof K Wx R b { nx := fun _ H' => Q .non H', rt := Q } (L2.start N vs) H := by
  have en := entry_ok (N := N) ao (by rw [ao.len, hl]; exact hn)
  have fr : FR (entry as vs O H) R := ⟨fun i p z => by
    obtain ⟨⟨ds, h1⟩, _⟩ := entry_par.mp z
    exact hlt i ds h1, (fun p hp (z : H p = none) => (by
      obtain ⟨us, q⟩ := ao.live p hp
      rw [z] at q
      exact nomatch q)), rfl⟩
  -- what stands at the end
  have fin : ∀ {σ' : L2.St} {H' : Hp} {O' : List Addr} {env' : AEnv}, EnvOk K (entry as vs O H) O' H' σ' env' → Shape as (finals as env' 0) ∧ ArgsOk K O H' vs (finals as env' 0) ∧ (∀ a o, H a = some o → (∀ (i : Nat) ds, as[i]? = some (.o ds) → vs[i]? ≠ some (.ref a)) → H' a = some o) ∧
      ∀ (i : Nat) ds, (finals as env' 0)[i]? = some (.o ds) → ∃ p us, vs[i]? = some (.ref p) ∧ p ∈ O ∧ H' p = some (.lst us) ∧ DpAll K (Wo H' O') us ds := by
    intro σ' H' O' env' e
    have sO : ∀ p, p ∈ O → p ∈ O' := fun p hp => e.sub p hp
    have keepD : ∀ a o, H a = some o → (∀ (i : Nat) ds, as[i]? = some (.o ds) → vs[i]? ≠ some (.ref a)) → H' a = some o := fun a o h1 h2 => e.keep a o h1 fun ⟨i, hi⟩ => by
      obtain ⟨⟨ds, g1⟩, g2⟩ := entry_par.mp hi
      exact h2 i ds g1 g2
    have lentO : ∀ (i : Nat) ds a, as[i]? = some (.o ds) → vs[i]? = some (.ref a) → a ∈ O := fun i ds a h1 h2 => by
      obtain ⟨p, us, g1, g2, _⟩ := ao.own i ds h1
      rw [h2] at g1; cases g1
      exact g2
    have sm : Same (Wo H O) (Wo H' O) := fun a o z => by
      obtain ⟨n, z⟩ := wo_some z
      rw [wo_out n]
      exact keepD a o z fun i ds h1 h2 => n (lentO i ds a h1 h2)
    have ow : ∀ (i : Nat) ds, (finals as env' 0)[i]? = some (.o ds) → ∃ p us, vs[i]? = some (.ref p) ∧ p ∈ O ∧ H' p = some (.lst us) ∧ DpAll K (Wo H' O') us ds := fun i ds h => by
      rcases fin_get h with ⟨ds0, h1, h2⟩ | ⟨h1, h2⟩
      · obtain ⟨p, us0, g1, g2, g3, g4⟩ := ao.own i ds0 h1
        have hp := entry_par (O := O) (H := H) |>.mpr ⟨⟨ds0, h1⟩, g1⟩
        obtain ⟨k1, ds1, k2⟩ := e.par i p hp
        rw [Nat.zero_add] at h2
        rcases h2 with ⟨ds', h3, h4⟩ | ⟨h3, h4⟩
        · cases h4
          rw [k2] at h3; cases h3
          obtain ⟨p', us, m1, m2, m3, m4⟩ := e.own i _ k2
          rw [k1] at m1; cases m1
          exact ⟨p, us, g1, g2, m3, m4⟩
        · exact (h3 ds1 k2).elim
      · exact (h2 ds rfl).elim
    refine ⟨⟨fin_len, fun i ds h => ?_⟩, ⟨by rw [fin_len]; exact ao.len, fun i x h => ?_, fun i ds h => ?_, fun i j h => ?_, fun i kvs h => ?_, fun i j ds ds' h1 h2 => ?_, fun p hp => e.live p (sO p hp)⟩, keepD, ow⟩
    · have hlt : i < (finals as env' 0).length := by rw [fin_len]; exact (List.getElem?_eq_some_iff.mp h).1
      have hg : (finals as env' 0)[i]? = some (finals as env' 0)[i] := List.getElem?_eq_getElem hlt
      rcases fin_get hg with ⟨ds0, h1, h2⟩ | ⟨h1, h2⟩
      · rcases h2 with ⟨ds', _, h4⟩ | ⟨_, h4⟩
        · exact ⟨ds', by rw [hg, h4]⟩
        · exact ⟨ds0, by rw [hg, h4]⟩
      · rw [h] at h1
        exact (h2 ds (Option.some.inj h1).symm).elim
    · rcases fin_get h with ⟨ds0, h1, h2⟩ | ⟨h1, h2⟩
      · rcases h2 with ⟨ds', _, h4⟩ | ⟨_, h4⟩ <;> cases h4
      · obtain ⟨v, g1, g2⟩ := ao.dat i x h1
        exact ⟨v, g1, dp_mono sm g2⟩
    · obtain ⟨p, us, g1, g2, g3, g4⟩ := ow i ds h
      exact ⟨p, us, g1, g2, g3, dps_mono (wo_sub sO) g4⟩
    · rcases fin_get h with ⟨ds0, h1, h2⟩ | ⟨h1, h2⟩
      · rcases h2 with ⟨ds', _, h4⟩ | ⟨_, h4⟩ <;> cases h4
      · exact ao.nob i j h1
    · rcases fin_get h with ⟨ds0, h1, h2⟩ | ⟨h1, h2⟩
      · rcases h2 with ⟨ds', _, h4⟩ | ⟨_, h4⟩ <;> cases h4
      · exact ao.nom i kvs h1
    · rcases fin_get h1 with ⟨x, g1, _⟩ | ⟨_, g1⟩
      · rcases fin_get h2 with ⟨y, k1, _⟩ | ⟨_, k1⟩
        · exact ao.one i j _ _ g1 k1
        · exact (k1 ds' rfl).elim
      · exact (g1 ds rfl).elim
  refine ⟨entry as vs O H, O, initE N.length as, fr, en, wSs_mx b (fun c env z σ' H' O' e x => hX c env σ' H' O' e z) ⟨fun env' q σ' H' O' e x => ?_, fun r env' q v σ' H' O' e s a => ?_, fun _ q => False.elim q, fun _ q => False.elim q⟩ hb⟩
  · obtain ⟨f1, f2, f3, f4⟩ := fin e
    exact q .non H' f1 f2 f3 .non trivial
  · obtain ⟨f1, f2, f3, f4⟩ := fin e
    have sO : ∀ p, p ∈ O → p ∈ O' := fun p hp => e.sub p hp
    cases r with
    | d x => exact q v H' f1 f2 f3 (dp_mono (wo_sub sO) s) trivial
    | m _ => exact s.elim
    | o ds =>
      obtain ⟨p, us, rfl, n, no, hp, hd⟩ := s
      refine q _ H' f1 f2 f3 ⟨p, us, rfl, n, fun z => no (sO p z), hp, dps_mono (wo_sub (fun z hz => ?_)) hd⟩ fun p' hp' i xs hi => ?_
      · rcases List.mem_cons.mp hz with g | g
        · rw [g]; exact List.mem_cons_self
        · exact List.mem_cons_of_mem _ (sO z g)
      · cases hp'
        obtain ⟨a1, us1, g1, g2, g3, _⟩ := f4 i xs hi
        rcases fin_get hi with ⟨ds0, h1, h2⟩ | ⟨h1, h2⟩
        · have hpar := entry_par (O := O) (H := H) |>.mpr ⟨⟨ds0, h1⟩, g1⟩
          obtain ⟨k1, ds1, k2⟩ := e.par i a1 hpar
          rw [Nat.zero_add] at h2
          rcases h2 with ⟨ds', h3, h4⟩ | ⟨h3, h4⟩
          · cases h4
            obtain ⟨a2, us2, m1, m2, m3, m4⟩ := (a p rfl).own i xs h3
            rw [k1] at m1; cases m1
            refine ⟨a1, us2, g1, m3, dps_mono (wo_sub (fun z hz => ?_)) m4⟩
            rcases List.mem_cons.mp hz with g | g
            · rw [g]; exact List.mem_cons_self
            · exact List.mem_cons_of_mem _ (sO z g)
          · exact (h3 ds1 k2).elim
        · exact (h2 xs rfl).elim
    | p ds x =>
      obtain ⟨q0, p, us, w0, rfl, n, no, hq0, np, nop, hp, hd, hw0⟩ := s
      have sub : ∀ z, z ∈ p :: O → z ∈ p :: O' := fun z hz => by
        rcases List.mem_cons.mp hz with g | g
        · rw [g]; exact List.mem_cons_self
        · exact List.mem_cons_of_mem _ (sO z g)
      refine q _ H' f1 f2 f3 ⟨q0, p, us, w0, rfl, n, fun z => no (sO q0 z), hq0, np, fun z => nop (sO p z), hp, dps_mono (wo_sub sub) hd, dp_mono (wo_sub sub) hw0⟩ fun q1 p' w' hp' hq' i xs hi => ?_
      cases hp'
      rw [hq0] at hq'
      cases hq'
      obtain ⟨a1, us1, g1, g2, g3, _⟩ := f4 i xs hi
      rcases fin_get hi with ⟨ds0, h1, h2⟩ | ⟨h1, h2⟩
      · have hpar := entry_par (O := O) (H := H) |>.mpr ⟨⟨ds0, h1⟩, g1⟩
        obtain ⟨k1, ds1, k2⟩ := e.par i a1 hpar
        rw [Nat.zero_add] at h2
        rcases h2 with ⟨ds', h3, h4⟩ | ⟨h3, h4⟩
        · cases h4
          obtain ⟨a2, us2, m1, m2, m3, m4⟩ := (a q0 p w0 rfl hq0).own i xs h3
          rw [k1] at m1; cases m1
          exact ⟨a1, us2, g1, m3, dps_mono (wo_sub sub) m4⟩
        · exact (h3 ds1 k2).elim
      · exact (h2 xs rfl).elim
    | b j =>
      obtain ⟨hjR, q⟩ := q
      split at q
      · rename_i ds hg
        obtain ⟨p, rfl, hs⟩ := s
        obtain ⟨p', us, g1, g2, g3, g4⟩ := e.own j ds hg
        rw [hs] at g1; cases g1
        have hH0 : H p = none := by
          rcases e.ownF j ds p hg hs with ⟨i, hi⟩ | z
          · obtain ⟨k1, ds1, k2⟩ := e.par i p hi
            have : i = j := e.inj i j _ _ p k2 hg k1 hs
            subst this
            exact (hjR (fr.par i p hi)).elim
          · exact z
        have npO : p ∉ O := fun z => (by
          obtain ⟨us9, q9⟩ := ao.live p z
          rw [hH0] at q9
          exact nomatch q9)
        have sub2 : ∀ z, z ∈ p :: O → z ∈ O' := fun z hz => by
          rcases List.mem_cons.mp hz with h | h
          · rw [h]; exact g2
          · exact sO z h
        refine q _ H' f1 f2 f3 ⟨p, us, rfl, hH0, npO, g3, dps_mono (wo_sub sub2) g4⟩ fun p' hp' i xs hi => ?_
        cases hp'
        obtain ⟨a1, us1, m1, m2, m3, m4⟩ := f4 i xs hi
        exact ⟨a1, us1, m1, m3, dps_mono (wo_sub sub2) m4⟩
      · exact q.elim
theorem body_red {np : Nat} {N : List Str} {R : List Nat} {b : Ss} {sp : ASp} (B : Body np N.length R b sp) (hn : np ≤ N.length) {vs : List V} {H : Hp} {Q : VK} (h : liftSp K sp vs H Q E0) : TSsof K (fun _ _ _ _ => False) R b { nx := fun _ H' => Q .non H', rt := Q } (L2.start N vs) H := by
  obtain ⟨as, O, ao, hr⟩ := h
  exact body_redC ao (B.len _ _ _ hr) hn (fun i ds => B.lent _ _ _ hr i ds) (B.run as _ hr) fun _ _ _ _ _ _ z => z.elim
/-- a def that may raise, by its body -/
structure BodyX (np n : Nat) (R : List Nat) (b : Ss) (sp : ASp) : Prop where
  len : ∀ as Q X, sp.run as Q X → as.length = np
  run : ∀ as Q X, (∀ (i : Nat) ds, as[i]? ≠ some (.o ds)) → sp.run as Q X → wSs (fun c _ => X c) b (initE n as) { nx := fun env => Q (.d .none) (finals as env 0), rt := fun r env => retK R r env fun r' => Q r' (finals as env 0) }
theorem body_redX {np : Nat} {N : List Str} {R : List Nat} {b : Ss} {sp : ASp} (B : BodyX np N.length R b sp) (hn : np ≤ N.length) {vs : List V} {H : Hp} {Q : VK} {E : XK} (h : liftSpX K sp vs H Q E) : TSsof K (fun cls d _ H => E cls d H) R b { nx := fun _ H' => Q .non H', rt := Q } (L2.start N vs) H := by
  obtain ⟨as, O, ao, no, hr⟩ := h
  refine body_redC ao (B.len _ _ _ hr) hn (fun i ds z => (no i ds z).elim) (B.run as _ _ no hr) fun c env σ' H' O' e z => z H' fun a o ha => ?_
  exact e.keep a o ha fun ⟨i, hi⟩ => by
    obtain ⟨⟨ds, h1⟩, _⟩ := entry_par.mp hi
    exact no i ds h1
theorem takes_no {X : Cx} : Takes X (fun _ _ _ _ => False) := fun _ _ ⟨_, _, _, _, _, _, _, _, _, _, _, _, _, _, _, _, w⟩ => w.elim
/-- THE RULE for a def -/
theorem fn_g {k : Nat} {x qual : Str} {st : Stmt} {f : Addr} {fd : FuncData} {N ps : List Str} {R : List Nat} {b : Ss} {sp : ASp} (Fn : Fun K x qual st f fd) (S : FnScope N ps (defScope st)) (B : Body ps.length N.length R b sp)
    (hchk : chkSs ⟨N, defScope st, fun _ => true, R⟩ b (defBody st) = true) (hok : okSs (lkOf P w K mg base k) b) (hbn : ∀ x ∈ bnames, mg x = none) : FnG P w K mg base (k + 1) f fd ps (liftSp K sp) := by
  have hpl : ps.length ≤ N.length := by
    have := congrArg List.length S.pre
    rw [List.length_take] at this
    omega
  have hlen : ∀ vs H Q E, liftSp K sp vs H Q E → vs.length = ps.length := fun vs H Q E ⟨as, O, ao, hr⟩ => by rw [ao.len]; exact B.len _ _ _ hr
  obtain ⟨oc, od, kV, doc, pm, an, cdv, ct, osl, rfl, lk, hcd⟩ := Fn.ex
  refine ⟨hlen, fun A outer s H args us vs Q hr hg e0 hb rv hsp => ?_⟩
  have old : ∀ c o, base.get? c = some o → s.heap.get? c = some o := fun c o z => (e0.bs c o z).1
  have KX : K.In s.heap := e0.mod.kin.keeps old
  refine codeAny_call_function hr.depth (KX _ _ lk) rfl S.co S.gen rfl (PySem.W.codeRec_of KX hcd) (hb _ _ _ _ ?_)
  refine wpAny_newFunctionEnv_cells S.kind (fun y hy => ?_) fun env he s1 ic => ?_
  · obtain ⟨n, v⟩ := y
    have hm : n ∈ ps := (List.of_mem_zip hy).1
    rcases S.par n hm with q | q
    · exact .inl q
    · exact .inr ⟨q, PySem.W.cellsFrom_some _ _ _ (.inl q)⟩
  · subst he
    refine ⟨(e0.mod.nolimit.keeps old).keeps ic.toInCall.keep, codeAny_func ?_⟩
    have I := inv_start (CX := CX0) (E := E0) (cd := cdv) S hr.hd e0 (hlen _ _ _ _ hsp) rv ic
    have I' := I.wish (fun _ _ => False)
    have c : Whr P w K mg base k ⟨N, defScope st, fun _ => true, R⟩ (cxOf CX0 P w K mg base N qual (defScope st) f cdv A outer s H E0).nox :=
      ⟨⟨rfl, S.nd, rfl, S.kind, fun _ _ => rfl, rfl, hr.deeper _, hg, PassesOwn.never⟩, rfl, rfl, rfl, rfl, rfl, hbn⟩
    have go := (sSs b c ⟨rfl, rfl, rfl⟩ takes_no hchk hok).run [] s1 (L2.start N vs) H { nx := fun _ H' => Q .non H', rt := Q } I' (body_red B hpl hsp)
    refine wpAny_mono go (fun fl s' hs => ?_) fun _ _ z => z.elim
    have done : ∀ {σ' : L2.St} {H' : Hp} {v : V} {u : Value}, Inv (cxOf CX0 P w K mg base N qual (defScope st) f cdv A outer s H E0).nox [] σ' H' s' → RelV v u → Q v H' → CE outer P w H s Q u s' := fun {σ' H' v u} J r q => ⟨v, H', J.os, J.bare, J.base, J.hok, r, q⟩
    cases fl with
    | ret u =>
      obtain ⟨v, σ', H', J, r, q⟩ := hs
      exact done J r q
    | next =>
      obtain ⟨σ', H', J, q⟩ := hs
      exact done (v := V.non) (u := Value.none) J rfl q
    | brk =>
      obtain ⟨_, _, _, q⟩ := hs
      exact False.elim q
    | cont =>
      obtain ⟨_, _, _, q⟩ := hs
      exact False.elim q
/-- THE RULE for a def that may raise -/
theorem fn_x {k : Nat} {x qual : Str} {st : Stmt} {f : Addr} {fd : FuncData} {N ps : List Str} {R : List Nat} {b : Ss} {sp : ASp} (Fn : Fun K x qual st f fd) (S : FnScope N ps (defScope st)) (B : BodyX ps.length N.length R b sp)
    (hchk : chkSs ⟨N, defScope st, fun _ => true, R⟩ b (defBody st) = true) (hok : okSs (lkOf P w K mg base k) b) (hbn : ∀ x ∈ bnames, mg x = none) : FnX P w K mg base (k + 1) f fd ps (liftSpX K sp) := by
  have hpl : ps.length ≤ N.length := by
    have := congrArg List.length S.pre
    rw [List.length_take] at this
    omega
  have hlen : ∀ vs H Q E, liftSpX K sp vs H Q E → vs.length = ps.length := fun vs H Q E ⟨as, O, ao, _, hr⟩ => by rw [ao.len]; exact B.len _ _ _ hr
  obtain ⟨oc, od, kV, doc, pm, an, cdv, ct, osl, rfl, lk, hcd⟩ := Fn.ex
  refine ⟨hlen, fun A outer s H args us vs Q E hr hg e0 hb rv hsp => ?_⟩
  have old : ∀ c o, base.get? c = some o → s.heap.get? c = some o := fun c o z => (e0.bs c o z).1
  have KX : K.In s.heap := e0.mod.kin.keeps old
  refine codeAny_call_function hr.depth (KX _ _ lk) rfl S.co S.gen rfl (PySem.W.codeRec_of KX hcd) (hb _ _ _ _ ?_)
  refine wpAny_newFunctionEnv_cells S.kind (fun y hy => ?_) fun env he s1 ic => ?_
  · obtain ⟨n, v⟩ := y
    have hm : n ∈ ps := (List.of_mem_zip hy).1
    rcases S.par n hm with q | q
    · exact .inl q
    · exact .inr ⟨q, PySem.W.cellsFrom_some _ _ _ (.inl q)⟩
  · subst he
    refine ⟨(e0.mod.nolimit.keeps old).keeps ic.toInCall.keep, codeAny_func ?_⟩
    have I := inv_start (CX := L2.CX P w) (E := E) (cd := cdv) S hr.hd e0 (hlen _ _ _ _ hsp) rv ic
    have c : Whr P w K mg base k ⟨N, defScope st, fun _ => true, R⟩ (cxOf (L2.CX P w) P w K mg base N qual (defScope st) f cdv A outer s H E) :=
      ⟨⟨rfl, S.nd, rfl, S.kind, fun _ _ => rfl, rfl, hr.deeper _, hg, passes_of rfl⟩, rfl, rfl, rfl, rfl, rfl, hbn⟩
    have go := (sSs b c ⟨rfl, rfl, rfl⟩ (takes_of rfl rfl rfl rfl) hchk hok).run [] s1 (L2.start N vs) H { nx := fun _ H' => Q .non H', rt := Q } I (body_redX B hpl hsp)
    refine wpAny_mono go (fun fl s' hs => ?_) fun _ _ z => z
    have done : ∀ {σ' : L2.St} {H' : Hp} {v : V} {u : Value}, Inv (cxOf (L2.CX P w) P w K mg base N qual (defScope st) f cdv A outer s H E) [] σ' H' s' → RelV v u → Q v H' → CE outer P w H s Q u s' := fun {σ' H' v u} J r q => ⟨v, H', J.os, J.bare, J.base, J.hok, r, q⟩
    cases fl with
    | ret u =>
      obtain ⟨v, σ', H', J, r, q⟩ := hs
      exact done J r q
    | next =>
      obtain ⟨σ', H', J, q⟩ := hs
      exact done (v := V.non) (u := Value.none) J rfl q
    | brk =>
      obtain ⟨_, _, _, q⟩ := hs
      exact False.elim q
    | cont =>
      obtain ⟨_, _, _, q⟩ := hs
      exact False.elim q
end
end PF

set_option maxRecDepth 100000
set_option maxHeartbeats 1000000
namespace PF
open PySem PySem.Spec PyProof.Rows L2
/-! ### the law's end -/
abbrev FP (K : PySem.W.Frag) (x : Str) (st : Stmt) (f : Addr) (fd : FuncData) : Prop := FunD K x x (defArgs st) (defBody st) (defScope st) [] [] f fd
theorem fun_of {K : PySem.W.Frag} {x : Str} {st : Stmt} {f : Addr} {fd : FuncData} (F : FP K x st f fd) : Fun K x x st f fd := by
  refine ⟨?_, F.kp⟩
  obtain ⟨oc, od, dV, kV, doc, pm, an, cdv, ct, osl, e, l, c, hD, _⟩ := F.ex
  rcases hD with ⟨_, z⟩ | ⟨z, _⟩
  · subst z
    exact ⟨oc, od, kV, doc, pm, an, cdv, ct, osl, e, l, c⟩
  · exact absurd rfl z
/-- the law: a bare list of whole numbers comes in, True goes out -/
def lawSp (n : Nat) : ASp where
  run := fun as Q _ => ∃ ns : List Int, as = [.d (.list (ns.map .int))] ∧ ns.length ≤ n ∧ (∀ z ∈ ns, Builtin.Int.intBits z ≤ 1048576) ∧ Q (.d (.bool true)) as
  mono := fun vs Q Q' X X' h1 _ ⟨ns, e, hl, hz, q⟩ => ⟨ns, e, hl, hz, h1 _ _ q⟩
theorem dp_ints {K : PySem.W.Frag} {H : Hp} : ∀ ns : List Int, DpAll K H (ns.map V.int) (ns.map PyData.int)
  | [] => .nil
  | n :: r => .cons (.int n) (dp_ints r)
theorem wo_nil {H : Hp} : Wo H [] = H := by
  funext a
  simp [Wo]
theorem law_end {P : Program} {w : World} {K : PySem.W.Frag} {mg mb : Str → Option Value} {k n : Nat} {f a : Addr} {fd : FuncData} {x : Str} {t : Shared} {us : List Value} {ns : List Int}
    (KX : K.In t.heap) (hns : t.heap.Ns mainGlobals mg) (nb : t.heap.Ns builtinsNs mb) (bb : ∀ x : Str, x ≠ "__name__" → mb x = bootBuiltins x) (lim : t.heap.NoLimit) (g0 : t.gens = #[])
    (la : t.heap.get? a = some { cls := .type "list", data := .seq us.toArray }) (hi : IntsAre us ns) (hl : ns.length ≤ n) (hn : n ≤ sizeLine) (hz : ∀ z ∈ ns, Builtin.Int.intBits z ≤ 1048576) (room : Room k callerA)
    (F : ∀ base : Heap, K.In base → base.Ns mainGlobals mg → FnG P w K mg base k f fd [x] (liftSp K (lawSp n))) (hbind : ∀ (s : Shared) (u : Value), BindsTo s fd ⟨[u], []⟩ [(x, u)]) :
    codeAny (model P w) callerA (.call (.ref f) ⟨[.ref a], []⟩) (fun r s' => r = .ok (.ret (.bool true)) ∧ OldK t.heap s'.heap ∧ s'.os = t.os ∧ AllBare s'.gens) t := by
  have rel := vals_ints hi
  have len2 := hi.length
  have len3 : ns.length ≤ sizeLine := Nat.le_trans hl hn
  have main : ∀ H : Hp, Only H → SqL K H a (ns.map V.int) → HOk P w H t.heap → (∀ c, H c ≠ none → c = a) → (H a ≠ none → K.lookup a = none) →
      codeAny (model P w) callerA (.call (.ref f) ⟨[.ref a], []⟩) (fun r s' => r = .ok (.ret (.bool true)) ∧ OldK t.heap s'.heap ∧ s'.os = t.os ∧ AllBare s'.gens) t := by
    intro H only sq hok just out
    have un : ∀ {c : Addr} {o : Obj}, t.heap.get? c = some o → H c = none → (hidT t.heap H).get? c = some o := fun e n => hidT_get e n
    have nod : ∀ {c : Addr} {o : Obj} {es : Array DictEntry} {ep : Nat}, t.heap.get? c = some o → o.data = .dict es ep → H c = none := fun {c o es ep} e d => by
      rcases hq : H c with _ | u
      · rfl
      · have ec : c = a := just c (fun z => by rw [hq] at z; cases z)
        rw [ec, la] at e
        cases e
        have d2 : Data.seq us.toArray _ = Data.dict es ep := d
        cases d2
    have nsH : ∀ {c : Addr} {m : Str → Option Value}, t.heap.Ns c m → (hidT t.heap H).Ns c m := fun {c m} ⟨o, es, ep, e, d, r⟩ => ⟨o, es, ep, un e (nod e d), d, r⟩
    have kH : K.In (hidT t.heap H) := fun c o e => un (KX c o e) (by
      rcases hq : H c with _ | u
      · rfl
      · have ec : c = a := just c (fun z => by rw [hq] at z; cases z)
        rw [ec] at e hq
        rw [out (fun z => by rw [hq] at z; cases z)] at e
        cases e)
    have md : Mod K mg (hidT t.heap H) := ⟨kH, nsH hns, ⟨mb, nsH nb, bb⟩, let ⟨mc, h1, h2⟩ := lim; ⟨mc, nsH h1, h2⟩⟩
    have en : Env0 P w K mg (hidT t.heap H) callerA [] t H := ⟨rfl, md, fun c o e => of_hidT e, Nat.le_of_eq (hidT_size _ _), trivial, fun c hc => absurd (show c ∈ ([] : List Addr) from hc) (by simp), hok, .of_eq g0⟩
    have spn : liftSp K (lawSp n) [.ref a] H (fun v _ => v = .bl true) E0 := by
      refine ⟨[.d (.list (ns.map .int))], [], ⟨rfl, fun i y h => ?_, fun i ds h => ?_, fun i j h => ?_, noM_cons (fun _ z => by cases z) (fun i kvs z => by simp at z), fun i j ds ds' h => ?_, fun p hp => ?_⟩, ns, rfl, hl, hz, fun v H' _ _ _ r _ => ?_⟩
      · match i, h with
        | 0, h =>
          cases h
          exact ⟨_, rfl, by rw [wo_nil]; exact .lst sq (dp_ints ns)⟩
        | i + 1, h => simp at h
      · match i, h with
        | 0, h => cases h
        | i + 1, h => simp at h
      · match i, h with
        | 0, h => cases h
        | i + 1, h => simp at h
      · match i, h with
        | 0, h => cases h
        | i + 1, h => simp at h
      · cases hp
      · have r2 : Dp K (Wo H' []) v (.bool true) := r
        cases r2
        rfl
    refine codeAny_mono ((F _ kH (nsH hns)).run callerA [] t H ⟨[.ref a], []⟩ [.ref a] [.ref a] _ room rfl en (hbind t (.ref a)) (.cons rfl .nil) spn) fun r s' h => ?_
    match r, h with
    | .ok (.ret u), h =>
      obtain ⟨v, H', os, bare, und, hok', rv, q⟩ := h
      have q' : v = .bl true := q
      subst q'
      have eu : u = Value.bool true := rv
      subst eu
      refine ⟨rfl, OldK.of_keep fun c o e => ?_, os, bare⟩
      rcases hq : H c with _ | ho
      · exact und.keep c o e hq (by intro z; exact absurd (show c ∈ ([] : List Addr) from z) (by simp)) (by simp)
      · rcases only c with z | ⟨ob, xs, z⟩
        · rw [hq] at z; cases z
        · obtain ⟨e1, _⟩ := hok c _ z
          obtain ⟨e2, _⟩ := hok' c _ (und.frzs c ob _ z)
          rw [e] at e1; cases e1
          exact e2
  rcases hk : K.lookup a with _ | o
  · refine main (fun c => if c = a then some (.frz { cls := .type "list", data := .seq us.toArray } (.lst (ns.map V.int))) else none) (fun c => ?_) (.inl (.inr ⟨{ cls := .type "list", data := .seq us.toArray }, if_pos rfl⟩)) (fun c u z => ?_) (fun c z => ?_) fun _ => hk
    · by_cases hc : c = a
      · exact .inr ⟨_, _, if_pos hc⟩
      · exact .inl (if_neg hc)
    · by_cases hc : c = a
      · have z2 := (if_pos hc).symm.trans z
        cases z2
        rw [hc]
        exact ⟨la, by rw [List.length_map]; exact len3, us, _, rel, la⟩
      · have z2 := (if_neg hc).symm.trans z
        cases z2
    · by_cases hc : c = a
      · exact hc
      · exact absurd (if_neg hc) z
  · have e := KX a o hk
    rw [la] at e
    cases e
    exact main (fun _ => none) (fun _ => .inl rfl) (.inr ⟨_, us.toArray, _, hk, rfl, rfl, rfl, by rw [List.size_toArray, len2]; exact len3, by simpa using rel⟩) (fun c u z => by cases (show (none : Option HO) = some u from z)) (fun c z => absurd rfl z) fun z => absurd rfl z
theorem walk_g {l : PySem.W.OpenLaw} {n k : Nat} {q : Program} {loose : List Str} {XP : (Str → Option Value) → Heap → Prop} {YP : World → Heap → Prop} {d : DefRec} {x : Str}
    (hn : l.most = some n) (hn2 : n ≤ sizeLine) (hdf : d.params.defaults = []) (room : Room k callerA)
    (F : ∀ (w : World) (mg : Str → Option Value) (f : Addr) (h : Heap), YP w h → h.Ns mainGlobals mg → mg d.name = some (.ref f) →
      ∃ (K : PySem.W.Frag) (fd : FuncData), K.In h ∧ (∀ (s : Shared) (u : Value), BindsTo s fd ⟨[u], []⟩ [(x, u)]) ∧
        ∀ base : Heap, K.In base → base.Ns mainGlobals mg → FnG l.prog w K mg base k f fd [x] (liftSp K (lawSp n))) :
    PySem.W.WalkO q loose XP YP l.row.toRowW d [] (fun f vs => PySem.call f vs) := by
  refine Att.attach_callB hn hdf fun w t0 t mg mb f o pm cd doc a us ns G Y ho hd hcd hmg la hi hl hz g0 => ?_
  obtain ⟨K, fd, KX, hb, hF⟩ := F w mg f _ Y G.T.g hmg
  exact law_end KX G.T.g G.T.b G.T.builtins G.T.nolimit g0 la hi hl hn2 hz room hF hb
/-! ### what the head tells -/
theorem glob_int {K : PySem.W.Frag} {h : Heap} {mg : Str → Option Value} {x : Str} {i : Int} (X : K.In h) (G : h.Ns mainGlobals mg) (c : (He.Fa.int x i).ok K = true) : GlobOk K mg x (.int i) := by
  obtain ⟨t, e⟩ := He.int_ok X G c
  exact ⟨.int i, _, e, ⟨t, rfl⟩, fun H => .int i⟩
/-- plain tables of whole numbers -/
def DvI (ns : List Int) : List He.Dv := ns.map He.Dv.int
theorem glob_tup {K : PySem.W.Frag} {h : Heap} {mg : Str → Option Value} {x : Str} {ns : List Int} (X : K.In h) (G : h.Ns mainGlobals mg) (c : (He.Fa.glo x).ok K = true) (t : He.tupB K x (DvI ns) = true) : GlobOk K mg x (kD ns) := by
  have e : (DvI ns).map (He.Dv.v K) = ns.map V.int := by
    unfold DvI
    rw [List.map_map]
    rfl
  refine ⟨.ref (He.ga K x), _, He.glo_ok X G c, rfl, fun H => .ktup (fun H' => by rw [← e]; exact He.tupB_ok t H') ?_⟩
  unfold He.tupB at t
  split at t
  · rename_i cl dd its n sl hk
    rw [Bool.and_eq_true, decide_eq_true_iff] at t
    exact ⟨_, hk, by rw [t.1]⟩
  · cases t
/-- the head's facts, with one more look at the part of the heap -/
def hookP (n : Nat) (ex : PySem.W.Frag → Bool) (fa : List He.Fa) (fn : List He.DefD) : PySem.W.Hook where
  α := Bool × He.AlD
  obs := fun s => let K := He.frG s.heap.get? (He.asD s.heap.get? n); (ex K, He.obsD fa fn K)
  val := fun _ => (true, He.valD fn)
  says := fun _ h => ∃ K : PySem.W.Frag, K.In h ∧ ex K = true ∧ He.SaysD fa fn K
  of := fun _ _ e => ⟨_, He.frG_in, congrArg Prod.fst e, congrArg Prod.snd e⟩
  keeps := fun _ _ _ ⟨K, i, c⟩ k => ⟨K, PySem.W.Frag.In.keeps i k, c⟩
def obP (n : Nat) (ex : PySem.W.Frag → Bool) (fa : List He.Fa) (fn : List He.DefD) (s : PySem.W.SharedT) : Bool × He.AlD := let K := He.frG (HandSHeadRun.getT s) (He.asD (HandSHeadRun.getT s) n); (ex K, He.obsD fa fn K)
theorem obP_eq {n : Nat} {ex : PySem.W.Frag → Bool} {fa : List He.Fa} {fn : List He.DefD} (s : PySem.W.SharedT) : obP n ex fa fn s = (hookP n ex fa fn).obs s.abs := by
  have e : HandSHeadRun.getT s = s.abs.heap.get? := funext (HandSHeadRun.getT_eq s)
  show (let K := He.frG (HandSHeadRun.getT s) (He.asD (HandSHeadRun.getT s) n); (ex K, He.obsD fa fn K)) = _
  rw [e]
  rfl
/-- a def of the head, under its name -/
theorem call_of {P : Program} {w : World} {K : PySem.W.Frag} {mg : Str → Option Value} {base : Heap} {k : Nat} {x : Str} {st : Stmt} {f : Addr} {fd : FuncData} {ps : List Str} {sp : ASp} (F : FP K x st f fd) (g : mg x = some (.ref f)) (G : FnG P w K mg base k f fd ps (liftSp K sp))
    (hb : ∀ (kV doc pm : Value) (an : Option Addr) (cdv ct : Value) (us : List Value), us.length = ps.length → bindArgs (PySem.W.fnOf x x (defArgs st) (defBody st) (defScope st) .none kV doc pm an cdv ct) ⟨us, []⟩ = pure (ps.zip us)) : CallOk P w K mg base k x sp :=
  ⟨f, fd, ps, G, g, F.kp, F.bindsN hb⟩
theorem callK_of {P : Program} {w : World} {K : PySem.W.Frag} {mg : Str → Option Value} {base : Heap} {k : Nat} {x : Str} {st : Stmt} {f : Addr} {fd : FuncData} {ps ks : List Str} {sp : ASp} (F : FP K x st f fd) (g : mg x = some (.ref f)) (G : FnG P w K mg base k f fd ps (liftSp K sp))
    (hb : ∀ (kV doc pm : Value) (an : Option Addr) (cdv ct : Value) (ws : List Value), ws.length = ks.length → ∃ us, ps.mapM (fun p => (ks.zip ws).lookup p) = some us ∧ bindArgs (PySem.W.fnOf x x (defArgs st) (defBody st) (defScope st) .none kV doc pm an cdv ct) ⟨[], ks.zip ws⟩ = pure (ps.zip us)) : CallKOk P w K mg base k x sp ps ks := by
  refine ⟨f, fd, G, g, F.kp, fun s ws _ hl => ?_⟩
  obtain ⟨oc, od, dV, kV, doc, pm, an, cdv, ct, osl, e, l, c, hD, _⟩ := F.ex
  rcases hD with ⟨_, z⟩ | ⟨z, _⟩
  · subst z
    obtain ⟨us, h1, h2⟩ := hb kV doc pm an cdv ct ws hl
    exact ⟨us, h1, by rw [e]; exact .of_eq h2⟩
  · exact absurd rfl z
theorem callX_of {P : Program} {w : World} {K : PySem.W.Frag} {mg : Str → Option Value} {base : Heap} {k : Nat} {x : Str} {st : Stmt} {f : Addr} {fd : FuncData} {ps : List Str} {sp : ASp} (F : FP K x st f fd) (g : mg x = some (.ref f)) (G : FnX P w K mg base k f fd ps (liftSpX K sp))
    (hb : ∀ (kV doc pm : Value) (an : Option Addr) (cdv ct : Value) (us : List Value), us.length = ps.length → bindArgs (PySem.W.fnOf x x (defArgs st) (defBody st) (defScope st) .none kV doc pm an cdv ct) ⟨us, []⟩ = pure (ps.zip us)) : CallXOk P w K mg base k x sp :=
  ⟨f, fd, ps, G, g, F.kp, F.bindsN hb⟩
theorem callXK_of {P : Program} {w : World} {K : PySem.W.Frag} {mg : Str → Option Value} {base : Heap} {k : Nat} {x : Str} {st : Stmt} {f : Addr} {fd : FuncData} {ps ks : List Str} {sp : ASp} (F : FP K x st f fd) (g : mg x = some (.ref f)) (G : FnX P w K mg base k f fd ps (liftSpX K sp))
    (hb : ∀ (kV doc pm : Value) (an : Option Addr) (cdv ct : Value) (ws : List Value), ws.length = ks.length → ∃ us, ps.mapM (fun p => (ks.zip ws).lookup p) = some us ∧ bindArgs (PySem.W.fnOf x x (defArgs st) (defBody st) (defScope st) .none kV doc pm an cdv ct) ⟨[], ks.zip ws⟩ = pure (ps.zip us)) : CallXKOk P w K mg base k x sp ps ks := by
  refine ⟨f, fd, G, g, F.kp, fun s ws _ hl => ?_⟩
  obtain ⟨oc, od, dV, kV, doc, pm, an, cdv, ct, osl, e, l, c, hD, _⟩ := F.ex
  rcases hD with ⟨_, z⟩ | ⟨z, _⟩
  · subst z
    obtain ⟨us, h1, h2⟩ := hb kV doc pm an cdv ct ws hl
    exact ⟨us, h1, by rw [e]; exact .of_eq h2⟩
  · exact absurd rfl z
theorem CallXOk.mono {P : Program} {w : World} {K : PySem.W.Frag} {mg : Str → Option Value} {base : Heap} {j k : Nat} {x : Str} {sp : ASp} (h : CallXOk P w K mg base j x sp) (l : j ≤ k) : CallXOk P w K mg base k x sp := by
  obtain ⟨f, fd, ps, G, r⟩ := h
  exact ⟨f, fd, ps, G.mono l, r⟩
theorem CallXKOk.mono {P : Program} {w : World} {K : PySem.W.Frag} {mg : Str → Option Value} {base : Heap} {j k : Nat} {x : Str} {sp : ASp} {ps ks : List Str} (h : CallXKOk P w K mg base j x sp ps ks) (l : j ≤ k) : CallXKOk P w K mg base k x sp ps ks := by
  obtain ⟨f, fd, G, r⟩ := h
  exact ⟨f, fd, G.mono l, r⟩
/-! ### facts of exception classes, by looks at the head -/
def raisB (K : PySem.W.Frag) (c : Str) : Bool := clsB K c && decide (PySem.W.typeIn K (.ref (He.ga K c)) = some (.type "type"))
theorem clsB_sub {K : PySem.W.Frag} {c : Str} (b : clsB K c = true) : PySem.W.subIn K (.ref (He.ga K c)) (.type "BaseException") = some true := by
  unfold clsB at b
  simp only [Bool.and_eq_true] at b
  exact (objC_of b.1.1.1).ex.hs
theorem rais_of {K : PySem.W.Frag} {h : Heap} {mg : Str → Option Value} {c : Str} (X : K.In h) (G : h.Ns mainGlobals mg) (f : (He.Fa.glo c).ok K = true) (b : raisB K c = true) : RaisOk K mg c := by
  unfold raisB at b
  simp only [Bool.and_eq_true, decide_eq_true_eq] at b
  exact ⟨cls_of X G f b.1, clsB_sub b.1, b.2⟩
def catB (K : PySem.W.Frag) (c : Str) (cs : List Str) : Bool := cs.all fun c' => clsB K c' && decide (PySem.W.exmOne K (.ref (He.ga K c')) (.ref (He.ga K c)) = some true)
theorem obj_of {K : PySem.W.Frag} {c : Str} (b : clsB K c = true) : ObjC K c := by
  unfold clsB at b
  simp only [Bool.and_eq_true] at b
  exact objC_of b.1.1.1
theorem cat_of {K : PySem.W.Frag} {h : Heap} {mg : Str → Option Value} {c : Str} {cs : List Str} (X : K.In h) (G : h.Ns mainGlobals mg) (f : (He.Fa.glo c).ok K = true) (b : catB K c cs = true) : CatchOk K mg c cs := by
  unfold catB at b
  refine ⟨He.glo_ok X G f, fun c' hc => ?_⟩
  have := List.all_eq_true.mp b c' hc
  simp only [Bool.and_eq_true, decide_eq_true_eq] at this
  exact ⟨obj_of this.1, this.2⟩
def instB (K : PySem.W.Frag) (c : Str) (ts : List (Str × Bool)) : Bool := decide (PySem.W.kitOne K (.type "NoneType") (.ref (He.ga K c)) = some false) && ts.all fun p => decide (PySem.W.kitOne K (.ref (He.ga K p.1)) (.ref (He.ga K c)) = some p.2)
theorem inst_of {K : PySem.W.Frag} {h : Heap} {mg : Str → Option Value} {c : Str} {ts : List (Str × Bool)} (X : K.In h) (G : h.Ns mainGlobals mg) (f : (He.Fa.glo c).ok K = true) (b : instB K c ts = true) : InstOk K mg c ts := by
  unfold instB at b
  simp only [Bool.and_eq_true, decide_eq_true_eq] at b
  exact ⟨He.glo_ok X G f, b.1, fun p hp => of_decide_eq_true (List.all_eq_true.mp b.2 p hp)⟩
theorem CallOk.mono {P : Program} {w : World} {K : PySem.W.Frag} {mg : Str → Option Value} {base : Heap} {j k : Nat} {x : Str} {sp : ASp} (h : CallOk P w K mg base j x sp) (l : j ≤ k) : CallOk P w K mg base k x sp := by
  obtain ⟨f, fd, ps, G, r⟩ := h
  exact ⟨f, fd, ps, G.mono l, r⟩
theorem CallKOk.mono {P : Program} {w : World} {K : PySem.W.Frag} {mg : Str → Option Value} {base : Heap} {j k : Nat} {x : Str} {sp : ASp} {ps ks : List Str} (h : CallKOk P w K mg base j x sp ps ks) (l : j ≤ k) : CallKOk P w K mg base k x sp ps ks := by
  obtain ⟨f, fd, G, r⟩ := h
  exact ⟨f, fd, G.mono l, r⟩
end PF

set_option maxRecDepth 100000
set_option maxHeartbeats 1000000
namespace PF
open PySem
/-! ### promises as wishes -/
def lendD : List AV → Option (List PyData)
  | [] => some []
  | .d x :: r => (lendD r).map (x :: ·)
  | .o ds :: r => (lendD r).map (.list ds :: ·)
  | .b _ :: _ => none
  | .p _ _ :: _ => none
  | .m _ :: _ => none
abbrev WF := List PyData → (AV → Prop) → Prop
def WF.Mono (f : WF) : Prop := ∀ xs k k', (∀ r, k r → k' r) → f xs k → f xs k'
/-- data in -/
def spW (f : WF) (m : f.Mono) : ASp where
  run := fun as Q _ => ∃ xs : List PyData, as = xs.map AV.d ∧ f xs fun r => Q r as
  mono := fun vs Q Q' X X' h _ ⟨xs, e, q⟩ => ⟨xs, e, m _ _ _ (fun r q => h _ _ q) q⟩
theorem lend_d : ∀ {vs : List AV} {xs : List PyData} {env : AEnv} {k : List AV → Prop}, lendD vs = some xs → (lendK env vs k ↔ k (xs.map AV.d))
  | [], xs, env, k, h => by cases h; exact Iff.rfl
  | .d x :: r, xs, env, k, h => by
    unfold lendD at h
    obtain ⟨ys, h1, rfl⟩ := Option.map_eq_some_iff.mp h
    exact lend_d (vs := r) (k := fun as => k (.d x :: as)) h1
  | .o ds :: r, xs, env, k, h => by
    unfold lendD at h
    obtain ⟨ys, h1, rfl⟩ := Option.map_eq_some_iff.mp h
    exact lend_d (vs := r) (k := fun as => k (.d (.list ds) :: as)) h1
  | .b j :: r, xs, env, k, h => by cases h
  | .p _ _ :: r, xs, env, k, h => by cases h
  | .m _ :: r, xs, env, k, h => by cases h
theorem lend_lent : ∀ {vs : List AV} {xs : List PyData}, lendD vs = some xs → lent vs = []
  | [], _, _ => rfl
  | .d x :: r, xs, h => by
    unfold lendD at h
    obtain ⟨ys, h1, rfl⟩ := Option.map_eq_some_iff.mp h
    exact lend_lent (vs := r) h1
  | .o ds :: r, xs, h => by
    unfold lendD at h
    obtain ⟨ys, h1, rfl⟩ := Option.map_eq_some_iff.mp h
    exact lend_lent (vs := r) h1
  | .b j :: r, xs, h => by cases h
  | .p _ _ :: r, xs, h => by cases h
  | .m _ :: r, xs, h => by cases h
theorem lend_back : ∀ {vs : List AV} {xs : List PyData} {env : AEnv} {as : List AV}, lendD vs = some xs → backL env vs as = env
  | [], _, env, as, _ => by cases as <;> rfl
  | .d x :: r, xs, env, [], h => rfl
  | .o x :: r, xs, env, [], h => rfl
  | .d x :: r, xs, env, a :: as, h => by
    unfold lendD at h
    obtain ⟨ys, h1, rfl⟩ := Option.map_eq_some_iff.mp h
    exact lend_back (vs := r) h1
  | .o ds :: r, xs, env, a :: as, h => by
    unfold lendD at h
    obtain ⟨ys, h1, rfl⟩ := Option.map_eq_some_iff.mp h
    exact lend_back (vs := r) h1
  | .b j :: r, xs, env, as, h => by cases h
  | .p _ _ :: r, xs, env, as, h => by cases h
  | .m _ :: r, xs, env, as, h => by cases h
theorem map_d_inj : ∀ {xs ys : List PyData}, xs.map AV.d = ys.map AV.d → xs = ys
  | [], [], _ => rfl
  | [], _ :: _, h => by cases h
  | _ :: _, [], h => by cases h
  | x :: xs, y :: ys, h => by
    simp only [List.map_cons, List.cons.injEq, AV.d.injEq] at h
    rw [h.1, map_d_inj h.2]
theorem call_W {f : WF} {m : f.Mono} {vs : List AV} {xs : List PyData} {env : AEnv} {Q : AV → AEnv → Prop} {X : XQ} (h : lendD vs = some xs) : callK (spW f m) vs env Q X ↔ f xs fun r => Q r env := by
  unfold callK
  rw [lend_d h, lend_lent h]
  constructor
  · rintro ⟨_, ys, e, q⟩
    rw [map_d_inj e]
    exact m _ _ _ (fun r (q : Q r (backL env vs (xs.map AV.d))) => by rw [lend_back h] at q; exact q) q
  · intro q
    exact ⟨Nat.zero_le _, xs, rfl, m _ _ _ (fun r q => by show Q r (backL env vs (xs.map AV.d)); rw [lend_back h]; exact q) q⟩
abbrev LF := List PyData → List PyData → (AV → List PyData → Prop) → Prop
def LF.Mono (f : LF) : Prop := ∀ l xs k k', (∀ r l, k r l → k' r l) → f l xs k → f l xs k'
/-- one list is lent, then data -/
def spL (f : LF) (m : f.Mono) : ASp where
  run := fun as Q _ => ∃ (l : List PyData) (xs : List PyData), as = .o l :: xs.map AV.d ∧ f l xs fun r l' => Q r (.o l' :: xs.map AV.d)
  mono := fun vs Q Q' X X' h _ ⟨l, xs, e, q⟩ => ⟨l, xs, e, m _ _ _ _ (fun r l' q => h _ _ q) q⟩
theorem call_L {f : LF} {m : f.Mono} {vs : List AV} {l xs : List PyData} {j : Nat} {env : AEnv} {Q : AV → AEnv → Prop} {X : XQ} (hj : getE env j = some (.o l)) (h : lendD vs = some xs) : callK (spL f m) (.b j :: vs) env Q X ↔ f l xs fun r l' => Q r (setE env j (some (.o l'))) := by
  unfold callK lendK
  rw [hj]
  simp only [lend_d h, lent, lend_lent h]
  constructor
  · rintro ⟨_, l2, ys, e, q⟩
    simp only [List.cons.injEq, AV.o.injEq] at e
    rw [e.1, map_d_inj e.2]
    exact m _ _ _ _ (fun r l' (q : Q r (backL (setE env j (some (.o l'))) vs (ys.map AV.d))) => by rw [lend_back h] at q; exact q) q
  · intro q
    exact ⟨by simp, l, xs, rfl, m _ _ _ _ (fun r l' q => by show Q r (backL (setE env j (some (.o l'))) vs (xs.map AV.d)); rw [lend_back h]; exact q) q⟩
theorem fin_d : ∀ {xs : List PyData} {env : AEnv} {i : Nat}, finals (xs.map AV.d) env i = xs.map AV.d
  | [], _, _ => rfl
  | x :: r, env, i => by show AV.d x :: finals (r.map AV.d) env (i + 1) = _; rw [fin_d]; rfl
theorem retK_mono {R : List Nat} {r : AV} {env : AEnv} {k k' : AV → Prop} (h : ∀ r, k r → k' r) (q : retK R r env k) : retK R r env k' := by
  unfold retK at q ⊢
  split at q
  · exact h _ q
  · exact h _ q
  · refine ⟨q.1, ?_⟩
    have q2 := q.2
    split at q2
    · exact h _ q2
    · exact q2.elim
  · exact h _ q
  · exact q
theorem body_W {np n : Nat} {R : List Nat} {b : Ss} {f : WF} {m : f.Mono} (hl : ∀ xs k, f xs k → xs.length = np) (h : ∀ xs (k : AV → Prop), f xs k → wSs X0 b (initE n (xs.map AV.d)) { nx := fun _ => k (.d .none), rt := fun r env => retK R r env k }) : Body np n R b (spW f m) where
  len := fun as Q X ⟨xs, e, q⟩ => by rw [e, List.length_map]; exact hl _ _ q
  lent := fun as Q X ⟨xs, e, q⟩ i ds z => by
    rw [e, List.getElem?_map] at z
    cases hx : xs[i]? with
    | none => rw [hx] at z; cases z
    | some y => rw [hx] at z; cases z
  run := fun as Q ⟨xs, e, q⟩ => by
    subst e
    refine wSs_mono b ?_ (h xs (fun r => Q r (xs.map AV.d)) q)
    refine ⟨fun env z => ?_, fun r env z => ?_, fun _ z => z, fun _ z => z⟩
    · show Q (.d .none) (finals (xs.map AV.d) env 0)
      rw [fin_d]; exact z
    · exact retK_mono (k := fun r => Q r (xs.map AV.d)) (fun r z => by show Q r (finals (xs.map AV.d) env 0); rw [fin_d]; exact z) z
def endL (env : AEnv) (p : List PyData → Prop) : Prop := match getE env 0 with
  | some (.o l) => p l
  | _ => False
theorem body_L {np n : Nat} {b : Ss} {f : LF} {m : f.Mono} (hl : ∀ l xs k, f l xs k → xs.length + 1 = np) (h : ∀ l xs (k : AV → List PyData → Prop), f l xs k → wSs X0 b (initE n (.o l :: xs.map AV.d)) { nx := fun env => endL env fun l' => k (.d .none) l', rt := fun r env => retK [0] r env fun r' => endL env fun l' => k r' l' }) : Body np n [0] b (spL f m) where
  len := fun as Q X ⟨l, xs, e, q⟩ => by rw [e, List.length_cons, List.length_map]; exact hl _ _ _ q
  lent := fun as Q X ⟨l, xs, e, q⟩ i ds z => by
    rw [e] at z
    cases i with
    | zero => exact List.mem_cons_self
    | succ i =>
      rw [List.getElem?_cons_succ, List.getElem?_map] at z
      cases hx : xs[i]? with
      | none => rw [hx] at z; cases z
      | some y => rw [hx] at z; cases z
  run := fun as Q ⟨l, xs, e, q⟩ => by
    subst e
    have fin : ∀ {env : AEnv} {p : List PyData → Prop}, endL env p → ∃ l', p l' ∧ finals (.o l :: xs.map AV.d) env 0 = .o l' :: xs.map AV.d := fun {env p} z => by
      unfold endL at z
      split at z
      · rename_i l' hg
        refine ⟨l', z, ?_⟩
        show (match getE env 0 with | some (.o ds') => AV.o ds' | _ => AV.o l) :: finals (xs.map AV.d) env 1 = _
        rw [hg, fin_d]
      · exact z.elim
    refine wSs_mono b ?_ (h l xs (fun r l' => Q r (.o l' :: xs.map AV.d)) q)
    refine ⟨fun env z => ?_, fun r env z => ?_, fun _ z => z, fun _ z => z⟩
    · obtain ⟨l', z, e⟩ := fin z
      show Q (.d .none) (finals (.o l :: xs.map AV.d) env 0)
      rw [e]; exact z
    · refine retK_mono (k := fun r' => endL env fun l' => Q r' (.o l' :: xs.map AV.d)) (k' := fun r' => Q r' (finals (.o l :: xs.map AV.d) env 0)) (fun r z => ?_) z
      obtain ⟨l', z, e⟩ := fin z
      show Q r (finals (.o l :: xs.map AV.d) env 0)
      rw [e]; exact z
/-! ### what may raise -/
abbrev WFX := List PyData → (AV → Prop) → (Str → Prop) → Prop
def WFX.Mono (f : WFX) : Prop := ∀ xs k k' e e', (∀ r, k r → k' r) → (∀ c, e c → e' c) → f xs k e → f xs k' e'
/-- data in; e: what is raised -/
def spX (f : WFX) (m : f.Mono) : ASp where
  run := fun as Q X => ∃ xs : List PyData, as = xs.map AV.d ∧ f xs (fun r => Q r as) X
  mono := fun vs Q Q' X X' h hx ⟨xs, e, q⟩ => ⟨xs, e, m _ _ _ _ _ (fun r q => h _ _ q) hx q⟩
theorem call_X {f : WFX} {m : f.Mono} {vs : List AV} {xs : List PyData} {env : AEnv} {Q : AV → AEnv → Prop} {X : XQ} (h : lendD vs = some xs) : (lent vs = [] ∧ callK (spX f m) vs env Q X) ↔ f xs (fun r => Q r env) (fun c => X c env) := by
  unfold callK
  rw [lend_d h, lend_lent h]
  constructor
  · rintro ⟨_, _, ys, e, q⟩
    rw [map_d_inj e]
    exact m _ _ _ _ _ (fun r (q : Q r (backL env vs (xs.map AV.d))) => by rw [lend_back h] at q; exact q) (fun _ z => z) q
  · intro q
    exact ⟨rfl, Nat.zero_le _, xs, rfl, m _ _ _ _ _ (fun r q => by show Q r (backL env vs (xs.map AV.d)); rw [lend_back h]; exact q) (fun _ z => z) q⟩
theorem body_X {np n : Nat} {R : List Nat} {b : Ss} {f : WFX} {m : f.Mono} (hl : ∀ xs k e, f xs k e → xs.length = np) (h : ∀ xs (k : AV → Prop) (e : Str → Prop), f xs k e → wSs (fun c _ => e c) b (initE n (xs.map AV.d)) { nx := fun _ => k (.d .none), rt := fun r env => retK R r env k }) : BodyX np n R b (spX f m) where
  len := fun as Q X ⟨xs, e, q⟩ => by rw [e, List.length_map]; exact hl _ _ _ q
  run := fun as Q X _ ⟨xs, e, q⟩ => by
    subst e
    refine wSs_mono b ?_ (h xs (fun r => Q r (xs.map AV.d)) X q)
    refine ⟨fun env z => ?_, fun r env z => ?_, fun _ z => z, fun _ z => z⟩
    · show Q (.d .none) (finals (xs.map AV.d) env 0)
      rw [fin_d]; exact z
    · exact retK_mono (k := fun r => Q r (xs.map AV.d)) (fun r z => by show Q r (finals (xs.map AV.d) env 0); rw [fin_d]; exact z) z
/-! ### loops -/
/-- a walk by an invariant over what is left -/
theorem for_inv {body : AEnv → AEnds → Prop} {tg : Tg} {D : AEnds} (I : List PyData → AEnv → Prop) (m : ∀ env D D', AEnds.Le D D' → body env D → body env D') (h0 : ∀ env, I [] env → D.nx env)
    (hs : ∀ x xs env, I (x :: xs) env → tgK tg x env fun env1 => body env1 { D with nx := I xs, ct := I xs, bk := D.nx }) : ∀ {items : List PyData} {env : AEnv}, I items env → forW body tg D items env
  | [], env, h => h0 env h
  | x :: xs, env, h => by
    refine tgK_mono (fun env1 q => ?_) (hs x xs env h)
    refine m _ { D with nx := I xs, ct := I xs, bk := D.nx } _ ?_ q
    exact ⟨fun e z => for_inv I m h0 hs z, fun _ _ z => z, fun _ z => z, fun e z => for_inv I m h0 hs z⟩
theorem body_monoX {X : XQ} {b : Ss} (env : AEnv) (D D' : AEnds) (l : AEnds.Le D D') (h : wSs X b env D) : wSs X b env D' := wSs_mono b l h
theorem body_mono {b : Ss} (env : AEnv) (D D' : AEnds) (l : AEnds.Le D D') (h : wSs X0 b env D) : wSs X0 b env D' := wSs_mono b l h
end PF

set_option maxRecDepth 100000
set_option maxHeartbeats 4000000
namespace PF
open PySem PySem.Spec PyProof.Rows L2 PySem.W
/-! ### what a look at the head says of a class that keeps its argument -/
def fileB (P : Program) (K : Frag) (cda : Addr) : Bool := match K.lookup cda with
  | some ⟨_, _, .fields vs, _⟩ => (match (vs[2]? : Option Value) with | some (.str file _) => ((P.main.file : Str) == file) | _ => false)
  | _ => false
def cellB (K : Frag) (cc C : Addr) : Bool := match K.lookup cc with
  | some ⟨_, _, .cell (some (.ref D)), _⟩ => decide (D = C)
  | _ => false
def fdB (P : Program) (K : Frag) (C : Addr) (f : Str) : FuncData → Bool
  | ⟨_, qual, ⟨[], [⟨a0, none, _⟩, ⟨a1, none, _⟩], none, [], [], none, []⟩, .stmts [.Expr (.Call (.Attribute (.Call (.Name n0 _) [] [] _) m0 p2) [.Name n1 _] [] p4) _, .Assign [.Attribute (.Name n2 _) m1 _] (.Name n3 _) _], scope, gl, [(cn, cc)], .none, .none, _, _, _, .ref cda, _, bl⟩ =>
    (decide (a0 = "self") && decide (a1 = f) && decide (n0 = "super") && decide (m0 = "__init__") && decide (n1 = f) && decide (n2 = "self") && decide (m1 = f) && decide (n3 = f) && decide (gl = mainGlobals) && decide (cn = "__class__") && decide (bl = builtinsNs)) &&
    ((p2.endLine == p4.line) && codeIn K (.ref cda) qual && fileB P K cda && cellB K cc C) &&
    (decide (scope.names.lookup ("self" : Str) = some .local) && decide (scope.names.lookup f = some .local) && decide (scope.names.lookup ("__class__" : Str) = some .free) && decide (scope.names.lookup ("super" : Str) = some .globalImplicit) &&
      (scope.names.all fun x => decide (x.2 ≠ .cell)) && decide (scope.kind = .function) && !scope.isGenerator && !scope.isCoroutine) && (decide (f ≠ "self") && !(f == ("__debug__" : Str)))
  | _ => false
theorem fdB_ok {P : Program} {K : Frag} {C fI : Addr} {f : Str} {fd : FuncData} {oc : Value} {od : Option Addr} {osl : Array (Option Value)} (lk : K.lookup fI = some ⟨oc, od, .func fd, osl⟩) (b : fdB P K C f fd = true) : ∃ body scope qual cda cc, _root_.XO.InitF P K C fI f fd body scope qual cda cc := by
  unfold fdB at b
  split at b
  · rename_i nm qual a0 q0 a1 q1 n0 p0 p1 m0 p2 n1 p3 p4 p5 n2 p6 m1 p7 n3 p8 p9 scope gl cn cc doc pm anx cda ct bl
    simp only [Bool.and_eq_true, decide_eq_true_eq, Bool.not_eq_true'] at b
    obtain ⟨⟨⟨A1, A2⟩, A3⟩, s9, s10⟩ := b
    obtain ⟨⟨⟨h1, h2⟩, h3⟩, h4⟩ := A2
    obtain ⟨⟨⟨⟨⟨⟨⟨s1, s2⟩, s3⟩, s4⟩, s5⟩, s6⟩, s7⟩, s8⟩ := A3
    obtain ⟨⟨⟨⟨⟨⟨⟨⟨⟨⟨rfl, rfl⟩, rfl⟩, rfl⟩, rfl⟩, rfl⟩, rfl⟩, rfl⟩, rfl⟩, rfl⟩, rfl⟩ := A1
    refine ⟨_, scope, qual, cda, cc, ⟨⟨_, _, _, lk⟩, ⟨nm, q0, q1, doc, pm, anx, ct, rfl⟩, ⟨p0, p1, p2, p3, p4, p5, p6, p7, p8, p9, rfl, h1⟩, h2, ?_, ?_, s1, s2, s3, s4, fun x hx => of_decide_eq_true (List.all_eq_true.mp s5 x hx), s6, s7, s8, s9, s10⟩⟩
    · unfold fileB at h3
      split at h3
      · rename_i a b vs c ho
        split at h3
        · rename_i file tf hv
          exact ⟨_, _, vs, _, file, tf, ho, hv, h3⟩
        · cases h3
      · cases h3
    · unfold cellB at h4
      split at h4
      · rename_i a b D c ho
        obtain rfl := of_decide_eq_true h4
        exact ⟨_, _, _, ho⟩
      · cases h4
  · cases b
def oexB (K : Frag) (C : Addr) : Bool := match K.lookup C with
  | some ⟨.type t, _, .cls cd, sl⟩ => (match cd.mro, sl.toList with
    | .ref C' :: bm, [_, _, _, _, some (.builtin n), _] => decide (t = "type") && decide (C' = C) && decide (n = "ValueError.__new__") && !cd.hasDel && cd.hasDict && PySem.HandSPX.refsVE bm
    | _, _ => false)
  | _ => false
theorem oexB_ok {K : Frag} {C : Addr} (q : oexB K C = true) : ∃ nm q N bs bm sn sub ab col dd k0 k1 k2 k3 k5, K.lookup C = some (excClassObj nm q C N bs bm true sn sub ab col dd k0 k1 k2 k3 k5 "ValueError.__new__") ∧ PySem.HandSPX.refsVE bm = true := by
  unfold oexB at q
  split at q
  · rename_i t dd cd sl ho
    split at q
    · rename_i C' bm k0 k1 k2 k3 n k5 hm hs
      simp only [Bool.and_eq_true, decide_eq_true_eq, Bool.not_eq_true'] at q
      obtain ⟨⟨⟨⟨⟨rfl, rfl⟩, rfl⟩, hdel⟩, hdc⟩, ht⟩ := q
      obtain ⟨nm, bs, mro, ns, qn, hd, sn, sub, ab, col, del⟩ := cd
      dsimp only at hm hdel hdc
      subst hm hdel hdc
      have hsl : sl = #[k0, k1, k2, k3, some (.builtin "ValueError.__new__"), k5] := by
        obtain ⟨l⟩ := sl
        simp only at hs
        rw [hs]
      subst hsl
      exact ⟨nm, qn, ns, bs, bm, sn, sub, ab, col, dd, k0, k1, k2, k3, k5, ho, ht⟩
    · cases q
  · cases q
def inB (P : Program) (K : Frag) (c f : Str) : Bool :=
  objB K c && (xfB K (He.ga K c) && decide (findIn K (.ref (He.ga K c)) f = some none)) && (oexB K (He.ga K c) && decide (findIn K (.ref (He.ga K c)) "__setattr__" = some (some (.builtin "object.__setattr__"))) && decide (typeIn K (.ref (He.ga K c)) = some (.type "type")) && keepIn K (.ref (He.ga K c))) &&
  (match findIn K (.ref (He.ga K c)) "__init__" with
    | some (some (.ref fI)) => decide (typeIn K (.ref fI) = some (.type "function")) && (match K.lookup fI with | some ⟨_, _, .func fd, _⟩ => fdB P K (He.ga K c) f fd | _ => false)
    | _ => false) &&
  (decide (ks_superIn K (He.ga K c) (He.ga K c) "__init__" = some (some (.builtin "ValueError.__init__"))) && decide (mroIn K (He.ga K c) (.ref (He.ga K c)) = some true) && decide (subIn K (.ref (He.ga K c)) (.type "ValueError") = some true) &&
    excInitIn K (He.ga K c) _root_.XO.exVE "ValueError.__new__" && decide (nsIn K cStatics "thirdparty.any" = some none) && !(P.main.scope.names.lookup ("super" : Str)).isSome)
theorem in_of {P : Program} {K : Frag} {h : Heap} {mg : Str → Option Value} {c f : Str} (X : K.In h) (G : h.Ns mainGlobals mg) (hf : (He.Fa.glo c).ok K = true) (b : inB P K c f = true) (ms : mg "super" = none)
    (h1 : ∀ name qual q0 q1 body scope doc pm an cda ct cc (a u : Value), bindArgs (ksFn name qual (_root_.XO.initPar f q0 q1) body scope .none .none doc pm an (.ref cda) ct cc) ⟨[a, u], []⟩ = pure [(("self" : Str), a), (f, u)])
    (h2 : ∀ name qual q0 q1 body scope doc pm an cda ct cc (a u : Value), bindArgs (ksFn name qual (_root_.XO.initPar f q0 q1) body scope .none .none doc pm an (.ref cda) ct cc) ⟨[a], [(f, u)]⟩ = pure [(("self" : Str), a), (f, u)]) : InOk P K mg c f := by
  unfold inB at b
  simp only [Bool.and_eq_true, decide_eq_true_eq, Bool.not_eq_true'] at b
  obtain ⟨⟨⟨⟨b1, b2, b3⟩, ⟨⟨b4, b5⟩, b6⟩, b7⟩, b8⟩, ⟨⟨⟨⟨b9, b10⟩, b11⟩, b12⟩, b13⟩, b14⟩ := b
  have O := objC_of b1
  have X' := xfB_ok b2
  refine ⟨O, ⟨X', b3⟩, He.glo_ok X G hf, ms, ?_⟩
  split at b8
  · rename_i fI hi
    simp only [Bool.and_eq_true, decide_eq_true_eq] at b8
    obtain ⟨bt, b8⟩ := b8
    split at b8
    · rename_i oc od fd osl lk
      obtain ⟨body, scope, qual, cda, cc, F⟩ := fdB_ok lk b8
      refine ⟨fI, ⟨⟨oexB_ok b4, b5, O.ex.hs, b6, b7⟩, hi, bt, ⟨fd, body, scope, qual, cda, cc, F⟩, b9, b10, b11, b3, b12, b13, b14, ?_⟩, ?_, ?_⟩
      · obtain ⟨nm, q, N, bs, bm, sn, sub, ab, col, dd, k0, k1, k2, k3, k5, hC, _⟩ := oexB_ok b4
        exact ⟨_, by unfold clsIn; rw [hC] <;> rfl⟩
      · intro s a u fd body scope qual cda cc F
        obtain ⟨name, q0, q1, doc, pm, an, ct, rfl⟩ := F.shape
        exact BindsTo.of_eq (h1 _ _ _ _ _ _ _ _ _ _ _ _ _ _)
      · intro s a u fd body scope qual cda cc F
        obtain ⟨name, q0, q1, doc, pm, an, ct, rfl⟩ := F.shape
        exact BindsTo.of_eq (h2 _ _ _ _ _ _ _ _ _ _ _ _ _ _)
    · cases b8
  · cases b8
/-! ### the head's look, the statics with it -/
def hookQ (n : Nat) (ex : Frag → Bool) (fa : List He.Fa) (fn : List He.DefD) : Hook where
  α := Bool × He.AlD
  obs := fun s => let K := He.frG s.heap.get? (cStatics :: He.asD s.heap.get? n); (ex K, He.obsD fa fn K)
  val := fun _ => (true, He.valD fn)
  says := fun _ h => ∃ K : Frag, K.In h ∧ ex K = true ∧ He.SaysD fa fn K
  of := fun _ _ e => ⟨_, He.frG_in, congrArg Prod.fst e, congrArg Prod.snd e⟩
  keeps := fun _ _ _ ⟨K, i, c⟩ k => ⟨K, Frag.In.keeps i k, c⟩
def obQ (n : Nat) (ex : Frag → Bool) (fa : List He.Fa) (fn : List He.DefD) (s : SharedT) : Bool × He.AlD := let K := He.frG (HandSHeadRun.getT s) (cStatics :: He.asD (HandSHeadRun.getT s) n); (ex K, He.obsD fa fn K)
theorem obQ_eq {n : Nat} {ex : Frag → Bool} {fa : List He.Fa} {fn : List He.DefD} (s : SharedT) : obQ n ex fa fn s = (hookQ n ex fa fn).obs s.abs := by
  have e : HandSHeadRun.getT s = s.abs.heap.get? := funext (HandSHeadRun.getT_eq s)
  show (let K := He.frG (HandSHeadRun.getT s) (cStatics :: He.asD (HandSHeadRun.getT s) n); (ex K, He.obsD fa fn K)) = _
  rw [e]
  rfl
example (name qual q0 q1 body scope doc pm an cda ct cc) (a u : Value) : bindArgs (ksFn name qual (_root_.XO.initPar "clicks" q0 q1) body scope .none .none doc pm an (.ref cda) ct cc) ⟨[a, u], []⟩ = pure [(("self" : Str), a), (("clicks" : Str), u)] := rfl
example (name qual q0 q1 body scope doc pm an cda ct cc) (a u : Value) : bindArgs (ksFn name qual (_root_.XO.initPar "clicks" q0 q1) body scope .none .none doc pm an (.ref cda) ct cc) ⟨[a], [(("clicks" : Str), u)]⟩ = pure [(("self" : Str), a), (("clicks" : Str), u)] := rfl
end PF

set_option maxRecDepth 100000
set_option maxHeartbeats 1000000
/-! PK: the calculus by constructors: nothing is unfolded ahead of its values. Printed by mkpk.py. -/
namespace PF
namespace V
open PySem
theorem rd_d {env : AEnv}{k : PyData → Prop}{x : PyData} : rdK env (.d x) k = k x := rfl
theorem rd_o {env : AEnv}{k : PyData → Prop}{ds : List PyData} : rdK env (.o ds) k = k (.list ds) := rfl
theorem rd_b {env : AEnv}{k : PyData → Prop}{j : Nat} : rdK env (.b j) k = match getE env j with | some (.o ds) => k (.list ds) | _ => False := rfl
theorem da_d {k : PyData → Prop}{x : PyData} : dataK (.d x) k = k x := rfl
theorem da_o {k : PyData → Prop}{ds : List PyData} : dataK (.o ds) k = k (.list ds) := rfl
theorem das_n {k : List PyData → Prop} : datasK [] k = k [] := rfl
theorem das_c {k : List PyData → Prop} {v : AV} {vs : List AV} : datasK (v :: vs) k = dataK v fun x => datasK vs fun xs => k (x :: xs) := rfl
theorem rds_n {env : AEnv}{k : List PyData → Prop} : rdsK env [] k = k [] := rfl
theorem rds_c {env : AEnv}{k : List PyData → Prop} {v : AV} {vs : List AV} : rdsK env (v :: vs) k = rdK env v fun x => rdsK env vs fun xs => k (x :: xs) := rfl
theorem tr_b {env : AEnv}{k : Bool → Prop}{b : Bool} : truthK env (.d (.bool b)) k = k b := rfl
theorem tr_i {env : AEnv}{k : Bool → Prop}{i : Int} : truthK env (.d (.int i)) k = k (i != 0) := rfl
theorem tr_n {env : AEnv}{k : Bool → Prop} : truthK env (.d .none) k = k false := rfl
theorem tr_l {env : AEnv}{k : Bool → Prop}{xs : List PyData} : truthK env (.d (.list xs)) k = k (!xs.isEmpty) := rfl
theorem tr_t {env : AEnv}{k : Bool → Prop}{xs : List PyData} : truthK env (.d (.tuple xs)) k = k (!xs.isEmpty) := rfl
theorem tr_o {env : AEnv}{k : Bool → Prop}{xs : List PyData} : truthK env (.o xs) k = k (!xs.isEmpty) := rfl
theorem bn_add {k : AV → Prop}{i j : Int} : binK .add (.int i) (.int j) k = k (.d (.int (i + j))) := rfl
theorem bn_sub {k : AV → Prop}{i j : Int} : binK .sub (.int i) (.int j) k = k (.d (.int (i - j))) := rfl
theorem bn_mul {k : AV → Prop}{i j : Int} : binK .mul (.int i) (.int j) k = (mulOk i j ∧ k (.d (.int (i * j)))) := rfl
theorem bn_fdiv {k : AV → Prop}{i j : Int} : binK .fdiv (.int i) (.int j) k = (divOk j ∧ k (.d (.int (i.fdiv j)))) := rfl
theorem bn_mod {k : AV → Prop}{i j : Int} : binK .mod (.int i) (.int j) k = (j ≠ 0 ∧ k (.d (.int (i.fmod j)))) := rfl
theorem bn_pow {k : AV → Prop}{i j : Int} : binK .pow (.int i) (.int j) k = (powOk i j ∧ k (.d (.int (i ^ j.toNat)))) := rfl
theorem bn_cat {k : AV → Prop}{a b : List PyData} : binK .add (.list a) (.list b) k = (a.length + b.length ≤ sizeLine ∧ k (.o (a ++ b))) := rfl
theorem cp_eq {k : Bool → Prop}{x y : PyData} : cmpK .eq x y k = (SeqAt.shaped x = true ∧ SeqAt.shaped y = true ∧ k (PyData.eqv x y)) := rfl
theorem cp_ne {k : Bool → Prop}{x y : PyData} : cmpK .ne x y k = (SeqAt.shaped x = true ∧ SeqAt.shaped y = true ∧ k (!PyData.eqv x y)) := rfl
theorem cp_lt {k : Bool → Prop}{i j : Int} : cmpK .lt (.int i) (.int j) k = k (decide (i < j)) := rfl
theorem cp_le {k : Bool → Prop}{i j : Int} : cmpK .le (.int i) (.int j) k = k (decide (i ≤ j)) := rfl
theorem cp_gt {k : Bool → Prop}{i j : Int} : cmpK .gt (.int i) (.int j) k = k (decide (j < i)) := rfl
theorem cp_ge {k : Bool → Prop}{i j : Int} : cmpK .ge (.int i) (.int j) k = k (decide (j ≤ i)) := rfl
theorem cp_in {k : Bool → Prop}{x : PyData} {ys : List PyData} : cmpK .isin x (.list ys) k = (SeqAt.shaped x = true ∧ SeqAt.shaped (.list ys) = true ∧ k (ys.any fun z => PyData.eqv z x)) := rfl
theorem cp_eqEl {k : Bool → Prop}{a : List PyData} : cmpK .eqE (.list a) (.list []) k = k a.isEmpty := rfl
theorem cp_neEl {k : Bool → Prop}{a : List PyData} : cmpK .neE (.list a) (.list []) k = k (!a.isEmpty) := rfl
theorem cp_eqEt {k : Bool → Prop}{a : List PyData} : cmpK .eqE (.tuple a) (.tuple []) k = k a.isEmpty := rfl
theorem cp_neEt {k : Bool → Prop}{a : List PyData} : cmpK .neE (.tuple a) (.tuple []) k = k (!a.isEmpty) := rfl
theorem cp_nin {k : Bool → Prop}{x : PyData} {ys : List PyData} : cmpK .notin x (.list ys) k = (SeqAt.shaped x = true ∧ SeqAt.shaped (.list ys) = true ∧ k (!ys.any fun z => PyData.eqv z x)) := rfl
theorem is_n {k : Bool → Prop} : cmpK .is .none .none k = k true := rfl
theorem isn_n {k : Bool → Prop} : cmpK .isnot .none .none k = k false := rfl
theorem is_b {k : Bool → Prop}{b : Bool} : cmpK .is (.bool b) .none k = k false := rfl
theorem isn_b {k : Bool → Prop}{b : Bool} : cmpK .isnot (.bool b) .none k = k true := rfl
theorem is_i {k : Bool → Prop}{i : Int} : cmpK .is (.int i) .none k = k false := rfl
theorem isn_i {k : Bool → Prop}{i : Int} : cmpK .isnot (.int i) .none k = k true := rfl
theorem is_s {k : Bool → Prop}{s : Str} : cmpK .is (.str s) .none k = k false := rfl
theorem isn_s {k : Bool → Prop}{s : Str} : cmpK .isnot (.str s) .none k = k true := rfl
theorem is_l {k : Bool → Prop}{xs : List PyData} : cmpK .is (.list xs) .none k = k false := rfl
theorem isn_l {k : Bool → Prop}{xs : List PyData} : cmpK .isnot (.list xs) .none k = k true := rfl
theorem is_t {k : Bool → Prop}{xs : List PyData} : cmpK .is (.tuple xs) .none k = k false := rfl
theorem isn_t {k : Bool → Prop}{xs : List PyData} : cmpK .isnot (.tuple xs) .none k = k true := rfl
theorem is_bb {k : Bool → Prop}{a b : Bool} : cmpK .is (.bool a) (.bool b) k = k (decide (a = b)) := rfl
theorem isn_bb {k : Bool → Prop}{a b : Bool} : cmpK .isnot (.bool a) (.bool b) k = k (!decide (a = b)) := rfl
theorem ix_l {k : PyData → Prop}{xs : List PyData} {i : Int} : ixK (.list xs) (.int i) k = (match L2.atI xs i with | some z => k z | none => False) := rfl
theorem ix_t {k : PyData → Prop}{xs : List PyData} {i : Int} : ixK (.tuple xs) (.int i) k = (match L2.atI xs i with | some z => k z | none => False) := rfl
theorem sl_l {k : AV → Prop}{xs : List PyData} {lo hi : Option Int} : slK (.list xs) lo hi k = k (.o (cutD xs lo hi)) := rfl
theorem bi_len {k : AV → Prop}{a : List PyData} : biK .len [.list a] k = k (.d (.int a.length)) := rfl
theorem bi_lent {k : AV → Prop}{a : List PyData} : biK .len [.tuple a] k = k (.d (.int a.length)) := rfl
theorem bi_abs {k : AV → Prop}{i : Int} : biK .abs [.int i] k = k (.d (.int (if i < 0 then -i else i))) := rfl
theorem bi_max2 {k : AV → Prop}{i j : Int} : biK .max2 [.int i, .int j] k = k (.d (.int (if j > i then j else i))) := rfl
theorem bi_min2 {k : AV → Prop}{i j : Int} : biK .min2 [.int i, .int j] k = k (.d (.int (if j < i then j else i))) := rfl
theorem bi_int {k : AV → Prop}{i : Int} : biK .int [.int i] k = k (.d (.int i)) := rfl
theorem bi_intb {k : AV → Prop}{b : Bool} : biK .int [.bool b] k = k (.d (.int (if b then 1 else 0))) := rfl
theorem bi_list {k : AV → Prop}{a : List PyData} : biK .list [.list a] k = k (.o a) := rfl
theorem bi_listt {k : AV → Prop}{a : List PyData} : biK .list [.tuple a] k = k (.o a) := rfl
theorem bi_tup {k : AV → Prop}{a : List PyData} : biK .tuple [.list a] k = k (.d (.tuple a)) := rfl
theorem bi_tupt {k : AV → Prop}{a : List PyData} : biK .tuple [.tuple a] k = k (.d (.tuple a)) := rfl
theorem bi_sum {k : AV → Prop}{a : List PyData} : biK .sum [.list a] k = (match intsOf a with | some ns => k (.d (.int ns.sum)) | none => False) := rfl
theorem bi_any {k : AV → Prop}{a : List PyData} : biK .any [.list a] k = (match boolsOf a with | some bs => k (.d (.bool (bs.any id))) | none => False) := rfl
theorem bi_all {k : AV → Prop}{a : List PyData} : biK .all [.list a] k = (match boolsOf a with | some bs => k (.d (.bool (bs.all id))) | none => False) := rfl
theorem bi_min1 {k : AV → Prop}{a : List PyData} : biK .min1 [.list a] k = (match intsOf a with | some ns => 0 < ns.length ∧ ∀ m, m ∈ ns → (∀ y, y ∈ ns → m ≤ y) → k (.d (.int m)) | none => False) := rfl
theorem bi_max1 {k : AV → Prop}{a : List PyData} : biK .max1 [.list a] k = (match intsOf a with | some ns => 0 < ns.length ∧ ∀ m, m ∈ ns → (∀ y, y ∈ ns → y ≤ m) → k (.d (.int m)) | none => False) := rfl
theorem bi_sorted {k : AV → Prop}{a : List PyData} : biK .sorted [.list a] k = sortK a k := rfl
theorem bi_repr {k : AV → Prop}{x : PyData} : biK .repr [x] k = ((okR x = true ∧ (shX x).length ≤ sizeLine ∧ x.depth ≤ 64) ∧ k (.d (.str (shX x)))) := rfl
theorem sq_d {k : List PyData → Prop}{xs : List PyData} : seqK (.d (.list xs)) k = k xs := rfl
theorem sq_t {k : List PyData → Prop}{xs : List PyData} : seqK (.d (.tuple xs)) k = k xs := rfl
theorem sq_o {k : List PyData → Prop}{xs : List PyData} : seqK (.o xs) k = k xs := rfl
theorem ls_d {k : List PyData → Prop}{xs : List PyData} : lstK (.d (.list xs)) k = k xs := rfl
theorem ls_o {k : List PyData → Prop}{xs : List PyData} : lstK (.o xs) k = k xs := rfl
theorem tg_n {env : AEnv}{k : AEnv → Prop}{i : Nat} {x : PyData} : tgK (.nm i) x env k = k (setE env i (some (.d x))) := rfl
theorem tg_t {env : AEnv}{k : AEnv → Prop}{is : List Nat} {xs : List PyData} : tgK (.tp is) (.tuple xs) env k = (xs.length = is.length ∧ k (setMany is xs env)) := rfl
theorem vd_0 {env : AEnv}{x : PyData}{Q : AV → AEnv → Prop} {X : XQ} : wE (.var 0) (some (.d x) :: env) Q X = Q (.d x) (some (.d x) :: env) := rfl
theorem vo_0 {env : AEnv}{x : List PyData}{Q : AV → AEnv → Prop} {X : XQ} : wE (.var 0) (some (.o x) :: env) Q X = Q (.b 0) (some (.o x) :: env) := rfl
theorem vd_1 {a0 : Option AV} {env : AEnv}{x : PyData}{Q : AV → AEnv → Prop} {X : XQ} : wE (.var 1) (a0 :: some (.d x) :: env) Q X = Q (.d x) (a0 :: some (.d x) :: env) := rfl
theorem vo_1 {a0 : Option AV} {env : AEnv}{x : List PyData}{Q : AV → AEnv → Prop} {X : XQ} : wE (.var 1) (a0 :: some (.o x) :: env) Q X = Q (.b 1) (a0 :: some (.o x) :: env) := rfl
theorem vd_2 {a0 a1 : Option AV} {env : AEnv}{x : PyData}{Q : AV → AEnv → Prop} {X : XQ} : wE (.var 2) (a0 :: a1 :: some (.d x) :: env) Q X = Q (.d x) (a0 :: a1 :: some (.d x) :: env) := rfl
theorem vo_2 {a0 a1 : Option AV} {env : AEnv}{x : List PyData}{Q : AV → AEnv → Prop} {X : XQ} : wE (.var 2) (a0 :: a1 :: some (.o x) :: env) Q X = Q (.b 2) (a0 :: a1 :: some (.o x) :: env) := rfl
theorem vd_3 {a0 a1 a2 : Option AV} {env : AEnv}{x : PyData}{Q : AV → AEnv → Prop} {X : XQ} : wE (.var 3) (a0 :: a1 :: a2 :: some (.d x) :: env) Q X = Q (.d x) (a0 :: a1 :: a2 :: some (.d x) :: env) := rfl
theorem vo_3 {a0 a1 a2 : Option AV} {env : AEnv}{x : List PyData}{Q : AV → AEnv → Prop} {X : XQ} : wE (.var 3) (a0 :: a1 :: a2 :: some (.o x) :: env) Q X = Q (.b 3) (a0 :: a1 :: a2 :: some (.o x) :: env) := rfl
theorem vd_4 {a0 a1 a2 a3 : Option AV} {env : AEnv}{x : PyData}{Q : AV → AEnv → Prop} {X : XQ} : wE (.var 4) (a0 :: a1 :: a2 :: a3 :: some (.d x) :: env) Q X = Q (.d x) (a0 :: a1 :: a2 :: a3 :: some (.d x) :: env) := rfl
theorem vo_4 {a0 a1 a2 a3 : Option AV} {env : AEnv}{x : List PyData}{Q : AV → AEnv → Prop} {X : XQ} : wE (.var 4) (a0 :: a1 :: a2 :: a3 :: some (.o x) :: env) Q X = Q (.b 4) (a0 :: a1 :: a2 :: a3 :: some (.o x) :: env) := rfl
theorem vd_5 {a0 a1 a2 a3 a4 : Option AV} {env : AEnv}{x : PyData}{Q : AV → AEnv → Prop} {X : XQ} : wE (.var 5) (a0 :: a1 :: a2 :: a3 :: a4 :: some (.d x) :: env) Q X = Q (.d x) (a0 :: a1 :: a2 :: a3 :: a4 :: some (.d x) :: env) := rfl
theorem vo_5 {a0 a1 a2 a3 a4 : Option AV} {env : AEnv}{x : List PyData}{Q : AV → AEnv → Prop} {X : XQ} : wE (.var 5) (a0 :: a1 :: a2 :: a3 :: a4 :: some (.o x) :: env) Q X = Q (.b 5) (a0 :: a1 :: a2 :: a3 :: a4 :: some (.o x) :: env) := rfl
theorem vd_6 {a0 a1 a2 a3 a4 a5 : Option AV} {env : AEnv}{x : PyData}{Q : AV → AEnv → Prop} {X : XQ} : wE (.var 6) (a0 :: a1 :: a2 :: a3 :: a4 :: a5 :: some (.d x) :: env) Q X = Q (.d x) (a0 :: a1 :: a2 :: a3 :: a4 :: a5 :: some (.d x) :: env) := rfl
theorem vo_6 {a0 a1 a2 a3 a4 a5 : Option AV} {env : AEnv}{x : List PyData}{Q : AV → AEnv → Prop} {X : XQ} : wE (.var 6) (a0 :: a1 :: a2 :: a3 :: a4 :: a5 :: some (.o x) :: env) Q X = Q (.b 6) (a0 :: a1 :: a2 :: a3 :: a4 :: a5 :: some (.o x) :: env) := rfl
theorem vd_7 {a0 a1 a2 a3 a4 a5 a6 : Option AV} {env : AEnv}{x : PyData}{Q : AV → AEnv → Prop} {X : XQ} : wE (.var 7) (a0 :: a1 :: a2 :: a3 :: a4 :: a5 :: a6 :: some (.d x) :: env) Q X = Q (.d x) (a0 :: a1 :: a2 :: a3 :: a4 :: a5 :: a6 :: some (.d x) :: env) := rfl
theorem vo_7 {a0 a1 a2 a3 a4 a5 a6 : Option AV} {env : AEnv}{x : List PyData}{Q : AV → AEnv → Prop} {X : XQ} : wE (.var 7) (a0 :: a1 :: a2 :: a3 :: a4 :: a5 :: a6 :: some (.o x) :: env) Q X = Q (.b 7) (a0 :: a1 :: a2 :: a3 :: a4 :: a5 :: a6 :: some (.o x) :: env) := rfl
theorem vd_8 {a0 a1 a2 a3 a4 a5 a6 a7 : Option AV} {env : AEnv}{x : PyData}{Q : AV → AEnv → Prop} {X : XQ} : wE (.var 8) (a0 :: a1 :: a2 :: a3 :: a4 :: a5 :: a6 :: a7 :: some (.d x) :: env) Q X = Q (.d x) (a0 :: a1 :: a2 :: a3 :: a4 :: a5 :: a6 :: a7 :: some (.d x) :: env) := rfl
theorem vo_8 {a0 a1 a2 a3 a4 a5 a6 a7 : Option AV} {env : AEnv}{x : List PyData}{Q : AV → AEnv → Prop} {X : XQ} : wE (.var 8) (a0 :: a1 :: a2 :: a3 :: a4 :: a5 :: a6 :: a7 :: some (.o x) :: env) Q X = Q (.b 8) (a0 :: a1 :: a2 :: a3 :: a4 :: a5 :: a6 :: a7 :: some (.o x) :: env) := rfl
theorem vd_9 {a0 a1 a2 a3 a4 a5 a6 a7 a8 : Option AV} {env : AEnv}{x : PyData}{Q : AV → AEnv → Prop} {X : XQ} : wE (.var 9) (a0 :: a1 :: a2 :: a3 :: a4 :: a5 :: a6 :: a7 :: a8 :: some (.d x) :: env) Q X = Q (.d x) (a0 :: a1 :: a2 :: a3 :: a4 :: a5 :: a6 :: a7 :: a8 :: some (.d x) :: env) := rfl
theorem vo_9 {a0 a1 a2 a3 a4 a5 a6 a7 a8 : Option AV} {env : AEnv}{x : List PyData}{Q : AV → AEnv → Prop} {X : XQ} : wE (.var 9) (a0 :: a1 :: a2 :: a3 :: a4 :: a5 :: a6 :: a7 :: a8 :: some (.o x) :: env) Q X = Q (.b 9) (a0 :: a1 :: a2 :: a3 :: a4 :: a5 :: a6 :: a7 :: a8 :: some (.o x) :: env) := rfl
theorem vd_10 {a0 a1 a2 a3 a4 a5 a6 a7 a8 a9 : Option AV} {env : AEnv}{x : PyData}{Q : AV → AEnv → Prop} {X : XQ} : wE (.var 10) (a0 :: a1 :: a2 :: a3 :: a4 :: a5 :: a6 :: a7 :: a8 :: a9 :: some (.d x) :: env) Q X = Q (.d x) (a0 :: a1 :: a2 :: a3 :: a4 :: a5 :: a6 :: a7 :: a8 :: a9 :: some (.d x) :: env) := rfl
theorem vo_10 {a0 a1 a2 a3 a4 a5 a6 a7 a8 a9 : Option AV} {env : AEnv}{x : List PyData}{Q : AV → AEnv → Prop} {X : XQ} : wE (.var 10) (a0 :: a1 :: a2 :: a3 :: a4 :: a5 :: a6 :: a7 :: a8 :: a9 :: some (.o x) :: env) Q X = Q (.b 10) (a0 :: a1 :: a2 :: a3 :: a4 :: a5 :: a6 :: a7 :: a8 :: a9 :: some (.o x) :: env) := rfl
theorem vd_11 {a0 a1 a2 a3 a4 a5 a6 a7 a8 a9 a10 : Option AV} {env : AEnv}{x : PyData}{Q : AV → AEnv → Prop} {X : XQ} : wE (.var 11) (a0 :: a1 :: a2 :: a3 :: a4 :: a5 :: a6 :: a7 :: a8 :: a9 :: a10 :: some (.d x) :: env) Q X = Q (.d x) (a0 :: a1 :: a2 :: a3 :: a4 :: a5 :: a6 :: a7 :: a8 :: a9 :: a10 :: some (.d x) :: env) := rfl
theorem vo_11 {a0 a1 a2 a3 a4 a5 a6 a7 a8 a9 a10 : Option AV} {env : AEnv}{x : List PyData}{Q : AV → AEnv → Prop} {X : XQ} : wE (.var 11) (a0 :: a1 :: a2 :: a3 :: a4 :: a5 :: a6 :: a7 :: a8 :: a9 :: a10 :: some (.o x) :: env) Q X = Q (.b 11) (a0 :: a1 :: a2 :: a3 :: a4 :: a5 :: a6 :: a7 :: a8 :: a9 :: a10 :: some (.o x) :: env) := rfl
theorem vd_12 {a0 a1 a2 a3 a4 a5 a6 a7 a8 a9 a10 a11 : Option AV} {env : AEnv}{x : PyData}{Q : AV → AEnv → Prop} {X : XQ} : wE (.var 12) (a0 :: a1 :: a2 :: a3 :: a4 :: a5 :: a6 :: a7 :: a8 :: a9 :: a10 :: a11 :: some (.d x) :: env) Q X = Q (.d x) (a0 :: a1 :: a2 :: a3 :: a4 :: a5 :: a6 :: a7 :: a8 :: a9 :: a10 :: a11 :: some (.d x) :: env) := rfl
theorem vo_12 {a0 a1 a2 a3 a4 a5 a6 a7 a8 a9 a10 a11 : Option AV} {env : AEnv}{x : List PyData}{Q : AV → AEnv → Prop} {X : XQ} : wE (.var 12) (a0 :: a1 :: a2 :: a3 :: a4 :: a5 :: a6 :: a7 :: a8 :: a9 :: a10 :: a11 :: some (.o x) :: env) Q X = Q (.b 12) (a0 :: a1 :: a2 :: a3 :: a4 :: a5 :: a6 :: a7 :: a8 :: a9 :: a10 :: a11 :: some (.o x) :: env) := rfl
theorem vd_13 {a0 a1 a2 a3 a4 a5 a6 a7 a8 a9 a10 a11 a12 : Option AV} {env : AEnv}{x : PyData}{Q : AV → AEnv → Prop} {X : XQ} : wE (.var 13) (a0 :: a1 :: a2 :: a3 :: a4 :: a5 :: a6 :: a7 :: a8 :: a9 :: a10 :: a11 :: a12 :: some (.d x) :: env) Q X = Q (.d x) (a0 :: a1 :: a2 :: a3 :: a4 :: a5 :: a6 :: a7 :: a8 :: a9 :: a10 :: a11 :: a12 :: some (.d x) :: env) := rfl
theorem vo_13 {a0 a1 a2 a3 a4 a5 a6 a7 a8 a9 a10 a11 a12 : Option AV} {env : AEnv}{x : List PyData}{Q : AV → AEnv → Prop} {X : XQ} : wE (.var 13) (a0 :: a1 :: a2 :: a3 :: a4 :: a5 :: a6 :: a7 :: a8 :: a9 :: a10 :: a11 :: a12 :: some (.o x) :: env) Q X = Q (.b 13) (a0 :: a1 :: a2 :: a3 :: a4 :: a5 :: a6 :: a7 :: a8 :: a9 :: a10 :: a11 :: a12 :: some (.o x) :: env) := rfl
theorem vd_14 {a0 a1 a2 a3 a4 a5 a6 a7 a8 a9 a10 a11 a12 a13 : Option AV} {env : AEnv}{x : PyData}{Q : AV → AEnv → Prop} {X : XQ} : wE (.var 14) (a0 :: a1 :: a2 :: a3 :: a4 :: a5 :: a6 :: a7 :: a8 :: a9 :: a10 :: a11 :: a12 :: a13 :: some (.d x) :: env) Q X = Q (.d x) (a0 :: a1 :: a2 :: a3 :: a4 :: a5 :: a6 :: a7 :: a8 :: a9 :: a10 :: a11 :: a12 :: a13 :: some (.d x) :: env) := rfl
theorem vo_14 {a0 a1 a2 a3 a4 a5 a6 a7 a8 a9 a10 a11 a12 a13 : Option AV} {env : AEnv}{x : List PyData}{Q : AV → AEnv → Prop} {X : XQ} : wE (.var 14) (a0 :: a1 :: a2 :: a3 :: a4 :: a5 :: a6 :: a7 :: a8 :: a9 :: a10 :: a11 :: a12 :: a13 :: some (.o x) :: env) Q X = Q (.b 14) (a0 :: a1 :: a2 :: a3 :: a4 :: a5 :: a6 :: a7 :: a8 :: a9 :: a10 :: a11 :: a12 :: a13 :: some (.o x) :: env) := rfl
theorem vd_15 {a0 a1 a2 a3 a4 a5 a6 a7 a8 a9 a10 a11 a12 a13 a14 : Option AV} {env : AEnv}{x : PyData}{Q : AV → AEnv → Prop} {X : XQ} : wE (.var 15) (a0 :: a1 :: a2 :: a3 :: a4 :: a5 :: a6 :: a7 :: a8 :: a9 :: a10 :: a11 :: a12 :: a13 :: a14 :: some (.d x) :: env) Q X = Q (.d x) (a0 :: a1 :: a2 :: a3 :: a4 :: a5 :: a6 :: a7 :: a8 :: a9 :: a10 :: a11 :: a12 :: a13 :: a14 :: some (.d x) :: env) := rfl
theorem vo_15 {a0 a1 a2 a3 a4 a5 a6 a7 a8 a9 a10 a11 a12 a13 a14 : Option AV} {env : AEnv}{x : List PyData}{Q : AV → AEnv → Prop} {X : XQ} : wE (.var 15) (a0 :: a1 :: a2 :: a3 :: a4 :: a5 :: a6 :: a7 :: a8 :: a9 :: a10 :: a11 :: a12 :: a13 :: a14 :: some (.o x) :: env) Q X = Q (.b 15) (a0 :: a1 :: a2 :: a3 :: a4 :: a5 :: a6 :: a7 :: a8 :: a9 :: a10 :: a11 :: a12 :: a13 :: a14 :: some (.o x) :: env) := rfl
theorem e_int {env : AEnv}{Q : AV → AEnv → Prop} {X : XQ}{i : Int} : wE (.int i) env Q X = Q (.d (.int i)) env := rfl
theorem e_bool {env : AEnv}{Q : AV → AEnv → Prop} {X : XQ}{b : Bool} : wE (.bool b) env Q X = Q (.d (.bool b)) env := rfl
theorem e_none {env : AEnv}{Q : AV → AEnv → Prop} {X : XQ} : wE (.none) env Q X = Q (.d .none) env := rfl
theorem e_str {env : AEnv}{Q : AV → AEnv → Prop} {X : XQ}{s : Str} : wE (.str s) env Q X = Q (.d (.str s)) env := rfl
theorem e_glob {env : AEnv}{Q : AV → AEnv → Prop} {X : XQ}{x : Str} {v : PyData} : wE (.glob x v) env Q X = Q (.d v) env := rfl
theorem e_bin {env : AEnv}{Q : AV → AEnv → Prop} {X : XQ}{op : BOp} {a b : E} : wE (.bin op a b) env Q X = wE a env (fun x env1 => wE b env1 (fun y env2 => rdK env2 x fun dx => rdK env2 y fun dy => binK op dx dy fun r => Q r env2) X) X := rfl
theorem e_not {env : AEnv}{Q : AV → AEnv → Prop} {X : XQ}{a : E} : wE (.not a) env Q X = wE a env (fun x env1 => truthK env1 x fun b => Q (.d (.bool (!b))) env1) X := rfl
theorem e_and {env : AEnv}{Q : AV → AEnv → Prop} {X : XQ}{a b : E} : wE (.and a b) env Q X = wE a env (fun x env1 => truthK env1 x fun t => if t = true then wE b env1 Q X else Q x env1) X := rfl
theorem e_or {env : AEnv}{Q : AV → AEnv → Prop} {X : XQ}{a b : E} : wE (.or a b) env Q X = wE a env (fun x env1 => truthK env1 x fun t => if t = true then Q x env1 else wE b env1 Q X) X := rfl
theorem e_cmp {env : AEnv}{Q : AV → AEnv → Prop} {X : XQ}{op : COp} {a b : E} : wE (.cmp op a b) env Q X = wE a env (fun x env1 => wE b env1 (fun y env2 => rdK env2 x fun dx => rdK env2 y fun dy => cmpK op dx dy fun r => Q (.d (.bool r)) env2) X) X := rfl
theorem e_chain {env : AEnv}{Q : AV → AEnv → Prop} {X : XQ}{o1 o2 : COp} {a b c : E} : wE (.chain o1 o2 a b c) env Q X = wE a env (fun x env1 => wE b env1 (fun y env2 => rdK env2 x fun dx => rdK env2 y fun dy => cmpK o1 dx dy fun r => if r = true then wE c env2 (fun z env3 => rdK env3 y fun dy => rdK env3 z fun dz => cmpK o2 dy dz fun r2 => Q (.d (.bool r2)) env3) X else Q (.d (.bool false)) env2) X) X := rfl
theorem e_ife {env : AEnv}{Q : AV → AEnv → Prop} {X : XQ}{c a b : E} : wE (.ife c a b) env Q X = wE c env (fun x env1 => truthK env1 x fun t => if t = true then wE a env1 Q X else wE b env1 Q X) X := rfl
theorem e_tup {env : AEnv}{Q : AV → AEnv → Prop} {X : XQ}{es : Es} : wE (.tup es) env Q X = wEs es env (fun vs env1 => datasK vs fun ds => Q (.d (.tuple ds)) env1) X := rfl
theorem e_lst {env : AEnv}{Q : AV → AEnv → Prop} {X : XQ}{es : Es} : wE (.lst es) env Q X = wEs es env (fun vs env1 => datasK vs fun ds => Q (.o ds) env1) X := rfl
theorem e_ix {env : AEnv}{Q : AV → AEnv → Prop} {X : XQ}{a i : E} : wE (.ix a i) env Q X = wE a env (fun x env1 => wE i env1 (fun y env2 => rdK env2 x fun dx => rdK env2 y fun dy => ixK dx dy fun z => Q (.d z) env2) X) X := rfl
theorem e_un {env : AEnv}{Q : AV → AEnv → Prop} {X : XQ} {f : UN} {a : E} : wE (.un f a) env Q X = wE a env (fun v env1 => rdK env1 v fun x => unK f x fun y => Q (.d y) env1) X := rfl
theorem e_mkA {env : AEnv}{Q : AV → AEnv → Prop} {X : XQ} {c f : Str} {b : Bool} {e : E} : wE (.mkA c f b e) env Q X = wE e env (fun v env1 => dataK v fun x => Q (.d (objA c f x)) env1) X := rfl
theorem e_ixS {env : AEnv}{Q : AV → AEnv → Prop} {X : XQ} {a i : E} : wE (.ixS a i) env Q X = wE a env (fun x env1 => wE i env1 (fun y env2 => rdK env2 x fun dx => rdK env2 y fun dy => ixSK dx dy fun z => Q (.d z) env2) X) X := rfl
theorem u_len {z : Str} {k : PyData → Prop} : unK .lenS (.str z) k = (z.length ≤ sizeLine ∧ k (.int z.length)) := rfl
theorem u_mk {c s : Str} {k : PyData → Prop} : unK (.mkV c) (.str s) k = k (objM c s) := rfl
theorem u_att {c f g : Str} {v : PyData} {k : PyData → Prop} : unK (.att f) (objA c g v) k = (g = f ∧ k v) := rfl
theorem u_vA {c g : Str} {v : PyData} {k : PyData → Prop} : unK .instV (objA c g v) k = k (.bool true) := rfl
theorem u_vM {c s : Str} {k : PyData → Prop} : unK .instV (objM c s) k = k (.bool true) := rfl
theorem e_mkE {env : AEnv}{Q : AV → AEnv → Prop} {X : XQ} {x s : Str} : wE (.mkE x s) env Q X = Q (.d (objM x s)) env := rfl
theorem e_callM {env : AEnv}{Q : AV → AEnv → Prop} {X : XQ}{x : Str} {sp : ASp} {es : Es} : wE (.callM x sp es) env Q X = wEs es env (fun vs env1 => callMK sp vs env1 Q X) X := rfl
theorem e_callR {env : AEnv}{Q : AV → AEnv → Prop} {X : XQ}{x : Str} {sp : ASp} {es : Es} : wE (.callR x sp es) env Q X = wEs es env (fun vs env1 => rdsK env1 vs fun ds => callRK sp ds env1 Q X) X := rfl
theorem e_call {env : AEnv}{Q : AV → AEnv → Prop} {X : XQ}{x : Str} {sp : ASp} {es : Es} : wE (.call x sp es) env Q X = wEs es env (fun vs env1 => callK sp vs env1 Q X) X := rfl
theorem e_callK {env : AEnv}{Q : AV → AEnv → Prop} {X : XQ}{x : Str} {sp : ASp} {ps ks : List Str} {es : Es} : wE (.callK x sp ps ks es) env Q X = wEs es env (fun vs env1 => match reorder ps ks vs with | some us => callK sp us env1 Q X | none => False) X := rfl
theorem e_bi {env : AEnv}{Q : AV → AEnv → Prop} {X : XQ}{f : BI} {es : Es} : wE (.bi f es) env Q X = wEs es env (fun vs env1 => rdsK env1 vs fun ds => biK f ds fun r => Q r env1) X := rfl
theorem e_instC {env : AEnv}{Q : AV → AEnv → Prop} {X : XQ}{a : E} {c : Str} {ts : List (Str × Bool)} : wE (.instC a c ts) env Q X = wE a env (fun x env1 => rdK env1 x fun dx => insK dx ts fun b => Q (.d (.bool b)) env1) X := rfl
theorem e_inst {env : AEnv}{Q : AV → AEnv → Prop} {X : XQ}{a : E} {ts : List Ty} : wE (.inst a ts) env Q X = wE a env (fun x env1 => rdK env1 x fun dx => Q (.d (.bool (isTy dx ts))) env1) X := rfl
theorem e_comp {env : AEnv}{Q : AV → AEnv → Prop} {X : XQ}{elt c : E} {cond : Option Unit} {tg : Tg} {it : It} {own : List (Str × Nat)} : wE (.comp elt cond c tg it own) env Q X = wIt it env (fun items env1 => noOwn env1 own ∧ compW cond (fun e q => wE c e q X) (fun e q => wE elt e q X) tg own items env1 [] fun ds env2 => Q (.o ds) (backE env1 env2 own)) X := rfl
def negK (v : AV) (k : Int → Prop) : Prop := match v with | .d (.int i) => k i | _ => False
theorem ng {p : Int → Prop} {i : Int} : negK (.d (.int i)) p = p i := rfl
theorem e_neg {env : AEnv} {Q : AV → AEnv → Prop} {X : XQ} {a : E} : wE (.neg a) env Q X = wE a env (fun x env1 => negK x fun i => Q (.d (.int (-i))) env1) X := by first | rfl | (simp only [wE, wIt, wS]; congr 1; funext v env1; congr 1; funext u env2; congr 1; funext t env3; rfl)
theorem e_slU {env : AEnv} {Q : AV → AEnv → Prop} {X : XQ} {a b : E} : wE (.slU a b) env Q X = wE a env (fun x env1 => wE b env1 (fun y env2 => negK y fun i => rdK env2 x fun dx => slK dx none (some i) fun r => Q r env2) X) X := by first | rfl | (simp only [wE, wIt, wS]; congr 1; funext v env1; congr 1; funext u env2; congr 1; funext t env3; rfl)
theorem e_slL {env : AEnv} {Q : AV → AEnv → Prop} {X : XQ} {a b : E} : wE (.slL a b) env Q X = wE a env (fun x env1 => wE b env1 (fun y env2 => negK y fun i => rdK env2 x fun dx => slK dx (some i) none fun r => Q r env2) X) X := by first | rfl | (simp only [wE, wIt, wS]; congr 1; funext v env1; congr 1; funext u env2; congr 1; funext t env3; rfl)
theorem e_lrg1 {env : AEnv} {Q : AV → AEnv → Prop} {X : XQ} {a : E} : wE (.lrg1 a) env Q X = wE a env (fun v env1 => negK v fun n => rangeK 0 n fun xs => Q (.o xs) env1) X := by first | rfl | (simp only [wE, wIt, wS]; congr 1; funext v env1; congr 1; funext u env2; congr 1; funext t env3; rfl)
theorem e_lrg3 {env : AEnv} {Q : AV → AEnv → Prop} {X : XQ} {a b c : E} : wE (.lrg3 a b c) env Q X = wE a env (fun v env1 => wE b env1 (fun u env2 => wE c env2 (fun t env3 => negK v fun m => negK u fun n => negK t fun s => rangeCK m n s fun xs => Q (.o xs) env3) X) X) X := by
  simp only [wE]; congr 1; funext v env1; congr 1; funext u env2; congr 1; funext t env3
  cases v with
  | d x =>
    cases x <;> first | rfl | (cases u with
      | d y => cases y <;> first | rfl | (cases t with | d z => cases z <;> rfl | o _ => rfl | b _ => rfl | p _ _ => rfl | m _ => rfl)
      | o _ => rfl
      | b _ => rfl
      | p _ _ => rfl
      | m _ => rfl)
  | o _ => rfl
  | b _ => rfl
  | p _ _ => rfl
  | m _ => rfl
def revK (x : PyData) (k : List PyData → Prop) : Prop := match x with | .list xs => k xs | _ => False
theorem rv_l {k : List PyData → Prop} {xs : List PyData} : revK (.list xs) k = k xs := rfl
theorem e_slRev {env : AEnv} {Q : AV → AEnv → Prop} {X : XQ} {a : E} : wE (.slRev a) env Q X = wE a env (fun x env1 => rdK env1 x fun dx => revK dx fun xs => Q (.o xs.reverse) env1) X := by first | rfl | (simp only [wE, wIt, wS]; congr 1)
theorem it_r3 {env : AEnv} {R : List PyData → AEnv → Prop} {X : XQ} {a b c : E} : wIt (.range3 a b c) env R X = wE a env (fun v env1 => wE b env1 (fun u env2 => wE c env2 (fun t env3 => negK v fun m => negK u fun n => negK t fun s => rangeCK m n s fun xs => R xs env3) X) X) X := by
  simp only [wIt]; congr 1; funext v env1; congr 1; funext u env2; congr 1; funext t env3
  cases v with
  | d x =>
    cases x <;> first | rfl | (cases u with
      | d y => cases y <;> first | rfl | (cases t with | d z => cases z <;> rfl | o _ => rfl | b _ => rfl | p _ _ => rfl | m _ => rfl)
      | o _ => rfl
      | b _ => rfl
      | p _ _ => rfl
      | m _ => rfl)
  | o _ => rfl
  | b _ => rfl
  | p _ _ => rfl
  | m _ => rfl
theorem es_n {env : AEnv}{R : List AV → AEnv → Prop} {X : XQ} : wEs .nil env R X = R [] env := rfl
theorem es_c {env : AEnv}{R : List AV → AEnv → Prop} {X : XQ} {a : E} {es : Es} : wEs (.cons a es) env R X = wE a env (fun v env1 => wEs es env1 (fun vs env2 => R (v :: vs) env2) X) X := rfl
theorem it_seq {env : AEnv}{R : List PyData → AEnv → Prop} {X : XQ}{a : E} : wIt (.seq a) env R X = wE a env (fun v env1 => seqK v fun xs => R xs env1) X := rfl
theorem it_r1 {env : AEnv} {R : List PyData → AEnv → Prop} {X : XQ} {a : E} : wIt (.range1 a) env R X = wE a env (fun v env1 => negK v fun n => rangeK 0 n fun xs => R xs env1) X := by first | rfl | (simp only [wE, wIt, wS]; congr 1; funext v env1; congr 1; funext u env2; congr 1; funext t env3; rfl)
theorem it_r2 {env : AEnv} {R : List PyData → AEnv → Prop} {X : XQ} {a b : E} : wIt (.range2 a b) env R X = wE a env (fun v env1 => wE b env1 (fun u env2 => negK v fun m => negK u fun n => rangeK m n fun xs => R xs env2) X) X := by
  simp only [wIt]; congr 1; funext v env1; congr 1; funext u env2
  cases v with
  | d x =>
    cases x <;> first | rfl | (cases u with
      | d y => cases y <;> rfl
      | o _ => rfl
      | b _ => rfl
      | p _ _ => rfl
      | m _ => rfl)
  | o _ => rfl
  | b _ => rfl
  | p _ _ => rfl
  | m _ => rfl
theorem it_en {env : AEnv}{R : List PyData → AEnv → Prop} {X : XQ}{a : E} : wIt (.enum a) env R X = wE a env (fun v env1 => lstK v fun xs => R (enumL 0 xs) env1) X := rfl
theorem it_zip {env : AEnv}{R : List PyData → AEnv → Prop} {X : XQ}{a b : E} : wIt (.zip a b) env R X = wE a env (fun v env1 => wE b env1 (fun u env2 => seqK v fun xs => seqK u fun ys => R (zipL xs ys) env2) X) X := rfl
theorem ss_n {env : AEnv}{D : AEnds} {X : XQ} : wSs X .nil env D = D.nx env := rfl
theorem ss_c {env : AEnv}{D : AEnds} {X : XQ}{s : S} {ss : Ss} : wSs X (.cons s ss) env D = wS X s env { D with nx := fun env1 => wSs X ss env1 D } := rfl
theorem s_asgF {env : AEnv}{D : AEnds} {X : XQ}{i : Nat} {a : E} : wS X (.asgF i a) env D = wE a env (fun v env1 => dataK v fun x => D.nx (setE env1 i (some (.d x)))) X0 := rfl
def keepK (v : AV) (k : AV → Prop) : Prop := match v with | .b _ => False | .p _ _ => False | .m _ => False | v => k v
theorem kp_d {k : AV → Prop}{x : PyData} : keepK (.d x) k = k (.d x) := rfl
theorem kp_o {k : AV → Prop}{x : List PyData} : keepK (.o x) k = k (.o x) := rfl
theorem s_asg {env : AEnv} {D : AEnds} {X : XQ} {i : Nat} {a : E} : wS X (.asg i a) env D = wE a env (fun v env1 => keepK v fun v => D.nx (setE env1 i (some v))) X0 := by first | rfl | (simp only [wE, wIt, wS]; congr 1; funext v env1; congr 1; funext u env2; congr 1; funext t env3; rfl)
theorem s_par {env : AEnv}{D : AEnds} {X : XQ}{is : List Nat} {es : Es} : wS X (.par is es) env D = wEs es env (fun vs env1 => datasK vs fun xs => xs.length = is.length ∧ D.nx (setMany is xs env1)) X0 := rfl
theorem s_parN {env : AEnv}{D : AEnds} {X : XQ}{is js : List Nat} {es : Es} : wS X (.parN is es js) env D = wEs es env (fun vs env1 => datasK vs fun xs => xs.length = is.length ∧ D.nx (setNils js (setMany is xs env1))) X0 := rfl
def tupK (v : AV) (k : PyData → Prop) : Prop := match v with | .d x => k x | _ => False
theorem tp_d {k : PyData → Prop}{x : PyData} : tupK (.d x) k = k x := rfl
def prK (v : AV) (k : List PyData → PyData → Prop) : Prop := match v with | .p ds x => k ds x | _ => False
theorem pr_p {k : List PyData → PyData → Prop} {ds : List PyData} {x : PyData} : prK (.p ds x) k = k ds x := rfl
theorem s_unpP {env : AEnv} {D : AEnds} {X : XQ} {i j : Nat} {a : E} : wS X (.unpP i j a) env D = wE a env (fun v env1 => prK v fun ds x => D.nx (setE (setE env1 i (some (.o ds))) j (some (.d x)))) X0 := by simp only [wS]; congr 1
theorem rd_p {env : AEnv} {k : PyData → Prop} {ds : List PyData} {x : PyData} : rdK env (.p ds x) k = k (.tuple [.list ds, x]) := rfl
theorem da_p {k : PyData → Prop} {ds : List PyData} {x : PyData} : dataK (.p ds x) k = k (.tuple [.list ds, x]) := rfl
theorem s_unp {env : AEnv} {D : AEnds} {X : XQ} {is : List Nat} {a : E} : wS X (.unp is a) env D = wE a env (fun v env1 => tupK v fun x => tgK (.tp is) x env1 D.nx) X0 := by first | rfl | (simp only [wE, wIt, wS]; congr 1; funext v env1; congr 1; funext u env2; congr 1; funext t env3; rfl)
theorem s_expr {env : AEnv}{D : AEnds} {X : XQ}{a : E} : wS X (.expr a) env D = wE a env (fun _ env1 => D.nx env1) X0 := rfl
theorem s_ret {env : AEnv}{D : AEnds} {X : XQ}{a : E} : wS X (.ret a) env D = wE a env (fun v env1 => D.rt v env1) X0 := rfl
theorem s_retN {env : AEnv}{D : AEnds} {X : XQ} : wS X .retN env D = D.rt (.d .none) env := rfl
theorem s_ite {env : AEnv}{D : AEnds} {X : XQ}{c : E} {a b : Ss} : wS X (.ite c a b) env D = wE c env (fun v env1 => truthK env1 v fun t => if t = true then wSs X a env1 D else wSs X b env1 D) X0 := rfl
theorem s_for {env : AEnv}{D : AEnds} {X : XQ}{tg : Tg} {it : It} {body : Ss} : wS X (.forS tg it body) env D = wIt it env (fun items env1 => forW (fun e D' => wSs X body e D') tg D items env1) X0 := rfl
theorem s_pass {env : AEnv}{D : AEnds} {X : XQ} : wS X .pass env D = D.nx env := rfl
theorem s_brk {env : AEnv}{D : AEnds} {X : XQ} : wS X .brk env D = D.bk env := rfl
theorem s_cont {env : AEnv}{D : AEnds} {X : XQ} : wS X .cont env D = D.ct env := rfl
theorem fz_0 {env : AEnv}{x : List PyData}{D : AEnds} {X : XQ} : wS X (.frz 0) (some (.o x) :: env) D = D.nx (some (.d (.list x)) :: env) := rfl
def ownK_0 (env : AEnv) (k : List PyData → Prop) : Prop := match getE env 0 with | some (.o ds) => k ds | _ => False
theorem ow_0 {env : AEnv}{x : List PyData} {p : List PyData → Prop} : ownK_0 (some (.o x) :: env) p = p x := rfl
theorem ap_0 {env : AEnv}{x : List PyData} {a : E} {D : AEnds} {X : XQ} : wS X (.append 0 a) (some (.o x) :: env) D = wE a (some (.o x) :: env) (fun v env1 => dataK v fun y => ownK_0 env1 fun ds => ds.length < sizeLine ∧ D.nx (setE env1 0 (some (.o (ds ++ [y]))))) X0 := by first | rfl | (simp only [wE, wIt, wS]; congr 1; funext v env1; congr 1; funext u env2; congr 1; funext t env3; rfl)
theorem fz_1 {a0 : Option AV} {env : AEnv}{x : List PyData}{D : AEnds} {X : XQ} : wS X (.frz 1) (a0 :: some (.o x) :: env) D = D.nx (a0 :: some (.d (.list x)) :: env) := rfl
def ownK_1 (env : AEnv) (k : List PyData → Prop) : Prop := match getE env 1 with | some (.o ds) => k ds | _ => False
theorem ow_1 {a0 : Option AV} {env : AEnv}{x : List PyData} {p : List PyData → Prop} : ownK_1 (a0 :: some (.o x) :: env) p = p x := rfl
theorem ap_1 {a0 : Option AV} {env : AEnv}{x : List PyData} {a : E} {D : AEnds} {X : XQ} : wS X (.append 1 a) (a0 :: some (.o x) :: env) D = wE a (a0 :: some (.o x) :: env) (fun v env1 => dataK v fun y => ownK_1 env1 fun ds => ds.length < sizeLine ∧ D.nx (setE env1 1 (some (.o (ds ++ [y]))))) X0 := by first | rfl | (simp only [wE, wIt, wS]; congr 1; funext v env1; congr 1; funext u env2; congr 1; funext t env3; rfl)
theorem fz_2 {a0 a1 : Option AV} {env : AEnv}{x : List PyData}{D : AEnds} {X : XQ} : wS X (.frz 2) (a0 :: a1 :: some (.o x) :: env) D = D.nx (a0 :: a1 :: some (.d (.list x)) :: env) := rfl
def ownK_2 (env : AEnv) (k : List PyData → Prop) : Prop := match getE env 2 with | some (.o ds) => k ds | _ => False
theorem ow_2 {a0 a1 : Option AV} {env : AEnv}{x : List PyData} {p : List PyData → Prop} : ownK_2 (a0 :: a1 :: some (.o x) :: env) p = p x := rfl
theorem ap_2 {a0 a1 : Option AV} {env : AEnv}{x : List PyData} {a : E} {D : AEnds} {X : XQ} : wS X (.append 2 a) (a0 :: a1 :: some (.o x) :: env) D = wE a (a0 :: a1 :: some (.o x) :: env) (fun v env1 => dataK v fun y => ownK_2 env1 fun ds => ds.length < sizeLine ∧ D.nx (setE env1 2 (some (.o (ds ++ [y]))))) X0 := by first | rfl | (simp only [wE, wIt, wS]; congr 1; funext v env1; congr 1; funext u env2; congr 1; funext t env3; rfl)
theorem fz_3 {a0 a1 a2 : Option AV} {env : AEnv}{x : List PyData}{D : AEnds} {X : XQ} : wS X (.frz 3) (a0 :: a1 :: a2 :: some (.o x) :: env) D = D.nx (a0 :: a1 :: a2 :: some (.d (.list x)) :: env) := rfl
def ownK_3 (env : AEnv) (k : List PyData → Prop) : Prop := match getE env 3 with | some (.o ds) => k ds | _ => False
theorem ow_3 {a0 a1 a2 : Option AV} {env : AEnv}{x : List PyData} {p : List PyData → Prop} : ownK_3 (a0 :: a1 :: a2 :: some (.o x) :: env) p = p x := rfl
theorem ap_3 {a0 a1 a2 : Option AV} {env : AEnv}{x : List PyData} {a : E} {D : AEnds} {X : XQ} : wS X (.append 3 a) (a0 :: a1 :: a2 :: some (.o x) :: env) D = wE a (a0 :: a1 :: a2 :: some (.o x) :: env) (fun v env1 => dataK v fun y => ownK_3 env1 fun ds => ds.length < sizeLine ∧ D.nx (setE env1 3 (some (.o (ds ++ [y]))))) X0 := by first | rfl | (simp only [wE, wIt, wS]; congr 1; funext v env1; congr 1; funext u env2; congr 1; funext t env3; rfl)
theorem fz_4 {a0 a1 a2 a3 : Option AV} {env : AEnv}{x : List PyData}{D : AEnds} {X : XQ} : wS X (.frz 4) (a0 :: a1 :: a2 :: a3 :: some (.o x) :: env) D = D.nx (a0 :: a1 :: a2 :: a3 :: some (.d (.list x)) :: env) := rfl
def ownK_4 (env : AEnv) (k : List PyData → Prop) : Prop := match getE env 4 with | some (.o ds) => k ds | _ => False
theorem ow_4 {a0 a1 a2 a3 : Option AV} {env : AEnv}{x : List PyData} {p : List PyData → Prop} : ownK_4 (a0 :: a1 :: a2 :: a3 :: some (.o x) :: env) p = p x := rfl
theorem ap_4 {a0 a1 a2 a3 : Option AV} {env : AEnv}{x : List PyData} {a : E} {D : AEnds} {X : XQ} : wS X (.append 4 a) (a0 :: a1 :: a2 :: a3 :: some (.o x) :: env) D = wE a (a0 :: a1 :: a2 :: a3 :: some (.o x) :: env) (fun v env1 => dataK v fun y => ownK_4 env1 fun ds => ds.length < sizeLine ∧ D.nx (setE env1 4 (some (.o (ds ++ [y]))))) X0 := by first | rfl | (simp only [wE, wIt, wS]; congr 1; funext v env1; congr 1; funext u env2; congr 1; funext t env3; rfl)
theorem fz_5 {a0 a1 a2 a3 a4 : Option AV} {env : AEnv}{x : List PyData}{D : AEnds} {X : XQ} : wS X (.frz 5) (a0 :: a1 :: a2 :: a3 :: a4 :: some (.o x) :: env) D = D.nx (a0 :: a1 :: a2 :: a3 :: a4 :: some (.d (.list x)) :: env) := rfl
def ownK_5 (env : AEnv) (k : List PyData → Prop) : Prop := match getE env 5 with | some (.o ds) => k ds | _ => False
theorem ow_5 {a0 a1 a2 a3 a4 : Option AV} {env : AEnv}{x : List PyData} {p : List PyData → Prop} : ownK_5 (a0 :: a1 :: a2 :: a3 :: a4 :: some (.o x) :: env) p = p x := rfl
theorem ap_5 {a0 a1 a2 a3 a4 : Option AV} {env : AEnv}{x : List PyData} {a : E} {D : AEnds} {X : XQ} : wS X (.append 5 a) (a0 :: a1 :: a2 :: a3 :: a4 :: some (.o x) :: env) D = wE a (a0 :: a1 :: a2 :: a3 :: a4 :: some (.o x) :: env) (fun v env1 => dataK v fun y => ownK_5 env1 fun ds => ds.length < sizeLine ∧ D.nx (setE env1 5 (some (.o (ds ++ [y]))))) X0 := by first | rfl | (simp only [wE, wIt, wS]; congr 1; funext v env1; congr 1; funext u env2; congr 1; funext t env3; rfl)
theorem fz_6 {a0 a1 a2 a3 a4 a5 : Option AV} {env : AEnv}{x : List PyData}{D : AEnds} {X : XQ} : wS X (.frz 6) (a0 :: a1 :: a2 :: a3 :: a4 :: a5 :: some (.o x) :: env) D = D.nx (a0 :: a1 :: a2 :: a3 :: a4 :: a5 :: some (.d (.list x)) :: env) := rfl
def ownK_6 (env : AEnv) (k : List PyData → Prop) : Prop := match getE env 6 with | some (.o ds) => k ds | _ => False
theorem ow_6 {a0 a1 a2 a3 a4 a5 : Option AV} {env : AEnv}{x : List PyData} {p : List PyData → Prop} : ownK_6 (a0 :: a1 :: a2 :: a3 :: a4 :: a5 :: some (.o x) :: env) p = p x := rfl
theorem ap_6 {a0 a1 a2 a3 a4 a5 : Option AV} {env : AEnv}{x : List PyData} {a : E} {D : AEnds} {X : XQ} : wS X (.append 6 a) (a0 :: a1 :: a2 :: a3 :: a4 :: a5 :: some (.o x) :: env) D = wE a (a0 :: a1 :: a2 :: a3 :: a4 :: a5 :: some (.o x) :: env) (fun v env1 => dataK v fun y => ownK_6 env1 fun ds => ds.length < sizeLine ∧ D.nx (setE env1 6 (some (.o (ds ++ [y]))))) X0 := by first | rfl | (simp only [wE, wIt, wS]; congr 1; funext v env1; congr 1; funext u env2; congr 1; funext t env3; rfl)
theorem fz_7 {a0 a1 a2 a3 a4 a5 a6 : Option AV} {env : AEnv}{x : List PyData}{D : AEnds} {X : XQ} : wS X (.frz 7) (a0 :: a1 :: a2 :: a3 :: a4 :: a5 :: a6 :: some (.o x) :: env) D = D.nx (a0 :: a1 :: a2 :: a3 :: a4 :: a5 :: a6 :: some (.d (.list x)) :: env) := rfl
def ownK_7 (env : AEnv) (k : List PyData → Prop) : Prop := match getE env 7 with | some (.o ds) => k ds | _ => False
theorem ow_7 {a0 a1 a2 a3 a4 a5 a6 : Option AV} {env : AEnv}{x : List PyData} {p : List PyData → Prop} : ownK_7 (a0 :: a1 :: a2 :: a3 :: a4 :: a5 :: a6 :: some (.o x) :: env) p = p x := rfl
theorem ap_7 {a0 a1 a2 a3 a4 a5 a6 : Option AV} {env : AEnv}{x : List PyData} {a : E} {D : AEnds} {X : XQ} : wS X (.append 7 a) (a0 :: a1 :: a2 :: a3 :: a4 :: a5 :: a6 :: some (.o x) :: env) D = wE a (a0 :: a1 :: a2 :: a3 :: a4 :: a5 :: a6 :: some (.o x) :: env) (fun v env1 => dataK v fun y => ownK_7 env1 fun ds => ds.length < sizeLine ∧ D.nx (setE env1 7 (some (.o (ds ++ [y]))))) X0 := by first | rfl | (simp only [wE, wIt, wS]; congr 1; funext v env1; congr 1; funext u env2; congr 1; funext t env3; rfl)
theorem fz_8 {a0 a1 a2 a3 a4 a5 a6 a7 : Option AV} {env : AEnv}{x : List PyData}{D : AEnds} {X : XQ} : wS X (.frz 8) (a0 :: a1 :: a2 :: a3 :: a4 :: a5 :: a6 :: a7 :: some (.o x) :: env) D = D.nx (a0 :: a1 :: a2 :: a3 :: a4 :: a5 :: a6 :: a7 :: some (.d (.list x)) :: env) := rfl
def ownK_8 (env : AEnv) (k : List PyData → Prop) : Prop := match getE env 8 with | some (.o ds) => k ds | _ => False
theorem ow_8 {a0 a1 a2 a3 a4 a5 a6 a7 : Option AV} {env : AEnv}{x : List PyData} {p : List PyData → Prop} : ownK_8 (a0 :: a1 :: a2 :: a3 :: a4 :: a5 :: a6 :: a7 :: some (.o x) :: env) p = p x := rfl
theorem ap_8 {a0 a1 a2 a3 a4 a5 a6 a7 : Option AV} {env : AEnv}{x : List PyData} {a : E} {D : AEnds} {X : XQ} : wS X (.append 8 a) (a0 :: a1 :: a2 :: a3 :: a4 :: a5 :: a6 :: a7 :: some (.o x) :: env) D = wE a (a0 :: a1 :: a2 :: a3 :: a4 :: a5 :: a6 :: a7 :: some (.o x) :: env) (fun v env1 => dataK v fun y => ownK_8 env1 fun ds => ds.length < sizeLine ∧ D.nx (setE env1 8 (some (.o (ds ++ [y]))))) X0 := by first | rfl | (simp only [wE, wIt, wS]; congr 1; funext v env1; congr 1; funext u env2; congr 1; funext t env3; rfl)
theorem fz_9 {a0 a1 a2 a3 a4 a5 a6 a7 a8 : Option AV} {env : AEnv}{x : List PyData}{D : AEnds} {X : XQ} : wS X (.frz 9) (a0 :: a1 :: a2 :: a3 :: a4 :: a5 :: a6 :: a7 :: a8 :: some (.o x) :: env) D = D.nx (a0 :: a1 :: a2 :: a3 :: a4 :: a5 :: a6 :: a7 :: a8 :: some (.d (.list x)) :: env) := rfl
def ownK_9 (env : AEnv) (k : List PyData → Prop) : Prop := match getE env 9 with | some (.o ds) => k ds | _ => False
theorem ow_9 {a0 a1 a2 a3 a4 a5 a6 a7 a8 : Option AV} {env : AEnv}{x : List PyData} {p : List PyData → Prop} : ownK_9 (a0 :: a1 :: a2 :: a3 :: a4 :: a5 :: a6 :: a7 :: a8 :: some (.o x) :: env) p = p x := rfl
theorem ap_9 {a0 a1 a2 a3 a4 a5 a6 a7 a8 : Option AV} {env : AEnv}{x : List PyData} {a : E} {D : AEnds} {X : XQ} : wS X (.append 9 a) (a0 :: a1 :: a2 :: a3 :: a4 :: a5 :: a6 :: a7 :: a8 :: some (.o x) :: env) D = wE a (a0 :: a1 :: a2 :: a3 :: a4 :: a5 :: a6 :: a7 :: a8 :: some (.o x) :: env) (fun v env1 => dataK v fun y => ownK_9 env1 fun ds => ds.length < sizeLine ∧ D.nx (setE env1 9 (some (.o (ds ++ [y]))))) X0 := by first | rfl | (simp only [wE, wIt, wS]; congr 1; funext v env1; congr 1; funext u env2; congr 1; funext t env3; rfl)
theorem fz_10 {a0 a1 a2 a3 a4 a5 a6 a7 a8 a9 : Option AV} {env : AEnv}{x : List PyData}{D : AEnds} {X : XQ} : wS X (.frz 10) (a0 :: a1 :: a2 :: a3 :: a4 :: a5 :: a6 :: a7 :: a8 :: a9 :: some (.o x) :: env) D = D.nx (a0 :: a1 :: a2 :: a3 :: a4 :: a5 :: a6 :: a7 :: a8 :: a9 :: some (.d (.list x)) :: env) := rfl
def ownK_10 (env : AEnv) (k : List PyData → Prop) : Prop := match getE env 10 with | some (.o ds) => k ds | _ => False
theorem ow_10 {a0 a1 a2 a3 a4 a5 a6 a7 a8 a9 : Option AV} {env : AEnv}{x : List PyData} {p : List PyData → Prop} : ownK_10 (a0 :: a1 :: a2 :: a3 :: a4 :: a5 :: a6 :: a7 :: a8 :: a9 :: some (.o x) :: env) p = p x := rfl
theorem ap_10 {a0 a1 a2 a3 a4 a5 a6 a7 a8 a9 : Option AV} {env : AEnv}{x : List PyData} {a : E} {D : AEnds} {X : XQ} : wS X (.append 10 a) (a0 :: a1 :: a2 :: a3 :: a4 :: a5 :: a6 :: a7 :: a8 :: a9 :: some (.o x) :: env) D = wE a (a0 :: a1 :: a2 :: a3 :: a4 :: a5 :: a6 :: a7 :: a8 :: a9 :: some (.o x) :: env) (fun v env1 => dataK v fun y => ownK_10 env1 fun ds => ds.length < sizeLine ∧ D.nx (setE env1 10 (some (.o (ds ++ [y]))))) X0 := by first | rfl | (simp only [wE, wIt, wS]; congr 1; funext v env1; congr 1; funext u env2; congr 1; funext t env3; rfl)
theorem fz_11 {a0 a1 a2 a3 a4 a5 a6 a7 a8 a9 a10 : Option AV} {env : AEnv}{x : List PyData}{D : AEnds} {X : XQ} : wS X (.frz 11) (a0 :: a1 :: a2 :: a3 :: a4 :: a5 :: a6 :: a7 :: a8 :: a9 :: a10 :: some (.o x) :: env) D = D.nx (a0 :: a1 :: a2 :: a3 :: a4 :: a5 :: a6 :: a7 :: a8 :: a9 :: a10 :: some (.d (.list x)) :: env) := rfl
def ownK_11 (env : AEnv) (k : List PyData → Prop) : Prop := match getE env 11 with | some (.o ds) => k ds | _ => False
theorem ow_11 {a0 a1 a2 a3 a4 a5 a6 a7 a8 a9 a10 : Option AV} {env : AEnv}{x : List PyData} {p : List PyData → Prop} : ownK_11 (a0 :: a1 :: a2 :: a3 :: a4 :: a5 :: a6 :: a7 :: a8 :: a9 :: a10 :: some (.o x) :: env) p = p x := rfl
theorem ap_11 {a0 a1 a2 a3 a4 a5 a6 a7 a8 a9 a10 : Option AV} {env : AEnv}{x : List PyData} {a : E} {D : AEnds} {X : XQ} : wS X (.append 11 a) (a0 :: a1 :: a2 :: a3 :: a4 :: a5 :: a6 :: a7 :: a8 :: a9 :: a10 :: some (.o x) :: env) D = wE a (a0 :: a1 :: a2 :: a3 :: a4 :: a5 :: a6 :: a7 :: a8 :: a9 :: a10 :: some (.o x) :: env) (fun v env1 => dataK v fun y => ownK_11 env1 fun ds => ds.length < sizeLine ∧ D.nx (setE env1 11 (some (.o (ds ++ [y]))))) X0 := by first | rfl | (simp only [wE, wIt, wS]; congr 1; funext v env1; congr 1; funext u env2; congr 1; funext t env3; rfl)
theorem fz_12 {a0 a1 a2 a3 a4 a5 a6 a7 a8 a9 a10 a11 : Option AV} {env : AEnv}{x : List PyData}{D : AEnds} {X : XQ} : wS X (.frz 12) (a0 :: a1 :: a2 :: a3 :: a4 :: a5 :: a6 :: a7 :: a8 :: a9 :: a10 :: a11 :: some (.o x) :: env) D = D.nx (a0 :: a1 :: a2 :: a3 :: a4 :: a5 :: a6 :: a7 :: a8 :: a9 :: a10 :: a11 :: some (.d (.list x)) :: env) := rfl
def ownK_12 (env : AEnv) (k : List PyData → Prop) : Prop := match getE env 12 with | some (.o ds) => k ds | _ => False
theorem ow_12 {a0 a1 a2 a3 a4 a5 a6 a7 a8 a9 a10 a11 : Option AV} {env : AEnv}{x : List PyData} {p : List PyData → Prop} : ownK_12 (a0 :: a1 :: a2 :: a3 :: a4 :: a5 :: a6 :: a7 :: a8 :: a9 :: a10 :: a11 :: some (.o x) :: env) p = p x := rfl
theorem ap_12 {a0 a1 a2 a3 a4 a5 a6 a7 a8 a9 a10 a11 : Option AV} {env : AEnv}{x : List PyData} {a : E} {D : AEnds} {X : XQ} : wS X (.append 12 a) (a0 :: a1 :: a2 :: a3 :: a4 :: a5 :: a6 :: a7 :: a8 :: a9 :: a10 :: a11 :: some (.o x) :: env) D = wE a (a0 :: a1 :: a2 :: a3 :: a4 :: a5 :: a6 :: a7 :: a8 :: a9 :: a10 :: a11 :: some (.o x) :: env) (fun v env1 => dataK v fun y => ownK_12 env1 fun ds => ds.length < sizeLine ∧ D.nx (setE env1 12 (some (.o (ds ++ [y]))))) X0 := by first | rfl | (simp only [wE, wIt, wS]; congr 1; funext v env1; congr 1; funext u env2; congr 1; funext t env3; rfl)
theorem fz_13 {a0 a1 a2 a3 a4 a5 a6 a7 a8 a9 a10 a11 a12 : Option AV} {env : AEnv}{x : List PyData}{D : AEnds} {X : XQ} : wS X (.frz 13) (a0 :: a1 :: a2 :: a3 :: a4 :: a5 :: a6 :: a7 :: a8 :: a9 :: a10 :: a11 :: a12 :: some (.o x) :: env) D = D.nx (a0 :: a1 :: a2 :: a3 :: a4 :: a5 :: a6 :: a7 :: a8 :: a9 :: a10 :: a11 :: a12 :: some (.d (.list x)) :: env) := rfl
def ownK_13 (env : AEnv) (k : List PyData → Prop) : Prop := match getE env 13 with | some (.o ds) => k ds | _ => False
theorem ow_13 {a0 a1 a2 a3 a4 a5 a6 a7 a8 a9 a10 a11 a12 : Option AV} {env : AEnv}{x : List PyData} {p : List PyData → Prop} : ownK_13 (a0 :: a1 :: a2 :: a3 :: a4 :: a5 :: a6 :: a7 :: a8 :: a9 :: a10 :: a11 :: a12 :: some (.o x) :: env) p = p x := rfl
theorem ap_13 {a0 a1 a2 a3 a4 a5 a6 a7 a8 a9 a10 a11 a12 : Option AV} {env : AEnv}{x : List PyData} {a : E} {D : AEnds} {X : XQ} : wS X (.append 13 a) (a0 :: a1 :: a2 :: a3 :: a4 :: a5 :: a6 :: a7 :: a8 :: a9 :: a10 :: a11 :: a12 :: some (.o x) :: env) D = wE a (a0 :: a1 :: a2 :: a3 :: a4 :: a5 :: a6 :: a7 :: a8 :: a9 :: a10 :: a11 :: a12 :: some (.o x) :: env) (fun v env1 => dataK v fun y => ownK_13 env1 fun ds => ds.length < sizeLine ∧ D.nx (setE env1 13 (some (.o (ds ++ [y]))))) X0 := by first | rfl | (simp only [wE, wIt, wS]; congr 1; funext v env1; congr 1; funext u env2; congr 1; funext t env3; rfl)
theorem fz_14 {a0 a1 a2 a3 a4 a5 a6 a7 a8 a9 a10 a11 a12 a13 : Option AV} {env : AEnv}{x : List PyData}{D : AEnds} {X : XQ} : wS X (.frz 14) (a0 :: a1 :: a2 :: a3 :: a4 :: a5 :: a6 :: a7 :: a8 :: a9 :: a10 :: a11 :: a12 :: a13 :: some (.o x) :: env) D = D.nx (a0 :: a1 :: a2 :: a3 :: a4 :: a5 :: a6 :: a7 :: a8 :: a9 :: a10 :: a11 :: a12 :: a13 :: some (.d (.list x)) :: env) := rfl
def ownK_14 (env : AEnv) (k : List PyData → Prop) : Prop := match getE env 14 with | some (.o ds) => k ds | _ => False
theorem ow_14 {a0 a1 a2 a3 a4 a5 a6 a7 a8 a9 a10 a11 a12 a13 : Option AV} {env : AEnv}{x : List PyData} {p : List PyData → Prop} : ownK_14 (a0 :: a1 :: a2 :: a3 :: a4 :: a5 :: a6 :: a7 :: a8 :: a9 :: a10 :: a11 :: a12 :: a13 :: some (.o x) :: env) p = p x := rfl
theorem ap_14 {a0 a1 a2 a3 a4 a5 a6 a7 a8 a9 a10 a11 a12 a13 : Option AV} {env : AEnv}{x : List PyData} {a : E} {D : AEnds} {X : XQ} : wS X (.append 14 a) (a0 :: a1 :: a2 :: a3 :: a4 :: a5 :: a6 :: a7 :: a8 :: a9 :: a10 :: a11 :: a12 :: a13 :: some (.o x) :: env) D = wE a (a0 :: a1 :: a2 :: a3 :: a4 :: a5 :: a6 :: a7 :: a8 :: a9 :: a10 :: a11 :: a12 :: a13 :: some (.o x) :: env) (fun v env1 => dataK v fun y => ownK_14 env1 fun ds => ds.length < sizeLine ∧ D.nx (setE env1 14 (some (.o (ds ++ [y]))))) X0 := by first | rfl | (simp only [wE, wIt, wS]; congr 1; funext v env1; congr 1; funext u env2; congr 1; funext t env3; rfl)
theorem fz_15 {a0 a1 a2 a3 a4 a5 a6 a7 a8 a9 a10 a11 a12 a13 a14 : Option AV} {env : AEnv}{x : List PyData}{D : AEnds} {X : XQ} : wS X (.frz 15) (a0 :: a1 :: a2 :: a3 :: a4 :: a5 :: a6 :: a7 :: a8 :: a9 :: a10 :: a11 :: a12 :: a13 :: a14 :: some (.o x) :: env) D = D.nx (a0 :: a1 :: a2 :: a3 :: a4 :: a5 :: a6 :: a7 :: a8 :: a9 :: a10 :: a11 :: a12 :: a13 :: a14 :: some (.d (.list x)) :: env) := rfl
def ownK_15 (env : AEnv) (k : List PyData → Prop) : Prop := match getE env 15 with | some (.o ds) => k ds | _ => False
theorem ow_15 {a0 a1 a2 a3 a4 a5 a6 a7 a8 a9 a10 a11 a12 a13 a14 : Option AV} {env : AEnv}{x : List PyData} {p : List PyData → Prop} : ownK_15 (a0 :: a1 :: a2 :: a3 :: a4 :: a5 :: a6 :: a7 :: a8 :: a9 :: a10 :: a11 :: a12 :: a13 :: a14 :: some (.o x) :: env) p = p x := rfl
theorem ap_15 {a0 a1 a2 a3 a4 a5 a6 a7 a8 a9 a10 a11 a12 a13 a14 : Option AV} {env : AEnv}{x : List PyData} {a : E} {D : AEnds} {X : XQ} : wS X (.append 15 a) (a0 :: a1 :: a2 :: a3 :: a4 :: a5 :: a6 :: a7 :: a8 :: a9 :: a10 :: a11 :: a12 :: a13 :: a14 :: some (.o x) :: env) D = wE a (a0 :: a1 :: a2 :: a3 :: a4 :: a5 :: a6 :: a7 :: a8 :: a9 :: a10 :: a11 :: a12 :: a13 :: a14 :: some (.o x) :: env) (fun v env1 => dataK v fun y => ownK_15 env1 fun ds => ds.length < sizeLine ∧ D.nx (setE env1 15 (some (.o (ds ++ [y]))))) X0 := by first | rfl | (simp only [wE, wIt, wS]; congr 1; funext v env1; congr 1; funext u env2; congr 1; funext t env3; rfl)
theorem bn_catt {k : AV → Prop}{a b : List PyData} : binK .add (.tuple a) (.tuple b) k = (a.length + b.length ≤ sizeLine ∧ k (.d (.tuple (a ++ b)))) := rfl
theorem sl_t {k : AV → Prop}{xs : List PyData} {lo hi : Option Int} : slK (.tuple xs) lo hi k = k (.d (.tuple (cutD xs lo hi))) := rfl
theorem e_ixOf {env : AEnv}{Q : AV → AEnv → Prop} {X : XQ}{a b : E} : wE (.ixOf a b) env Q X = wE a env (fun x env1 => lstK x fun ds => wE b env1 (fun y env2 => rdK env2 y fun dy => ixOfK (.list ds) dy fun j => Q (.d (.int (j : Nat))) env2) X) X := rfl
def dicK (j : Nat) (env : AEnv) (k : List (Ky × PyData) → Prop) : Prop := match getE env j with | some (.m kvs) => k kvs | _ => False
theorem dc_0 {env : AEnv}{x : List (Ky × PyData)} {p : List (Ky × PyData) → Prop} : dicK 0 (some (.m x) :: env) p = p x := rfl
theorem dc_1 {a0 : Option AV} {env : AEnv}{x : List (Ky × PyData)} {p : List (Ky × PyData) → Prop} : dicK 1 (a0 :: some (.m x) :: env) p = p x := rfl
theorem dc_2 {a0 a1 : Option AV} {env : AEnv}{x : List (Ky × PyData)} {p : List (Ky × PyData) → Prop} : dicK 2 (a0 :: a1 :: some (.m x) :: env) p = p x := rfl
theorem dc_3 {a0 a1 a2 : Option AV} {env : AEnv}{x : List (Ky × PyData)} {p : List (Ky × PyData) → Prop} : dicK 3 (a0 :: a1 :: a2 :: some (.m x) :: env) p = p x := rfl
theorem dc_4 {a0 a1 a2 a3 : Option AV} {env : AEnv}{x : List (Ky × PyData)} {p : List (Ky × PyData) → Prop} : dicK 4 (a0 :: a1 :: a2 :: a3 :: some (.m x) :: env) p = p x := rfl
theorem dc_5 {a0 a1 a2 a3 a4 : Option AV} {env : AEnv}{x : List (Ky × PyData)} {p : List (Ky × PyData) → Prop} : dicK 5 (a0 :: a1 :: a2 :: a3 :: a4 :: some (.m x) :: env) p = p x := rfl
theorem dc_6 {a0 a1 a2 a3 a4 a5 : Option AV} {env : AEnv}{x : List (Ky × PyData)} {p : List (Ky × PyData) → Prop} : dicK 6 (a0 :: a1 :: a2 :: a3 :: a4 :: a5 :: some (.m x) :: env) p = p x := rfl
theorem dc_7 {a0 a1 a2 a3 a4 a5 a6 : Option AV} {env : AEnv}{x : List (Ky × PyData)} {p : List (Ky × PyData) → Prop} : dicK 7 (a0 :: a1 :: a2 :: a3 :: a4 :: a5 :: a6 :: some (.m x) :: env) p = p x := rfl
theorem dc_8 {a0 a1 a2 a3 a4 a5 a6 a7 : Option AV} {env : AEnv}{x : List (Ky × PyData)} {p : List (Ky × PyData) → Prop} : dicK 8 (a0 :: a1 :: a2 :: a3 :: a4 :: a5 :: a6 :: a7 :: some (.m x) :: env) p = p x := rfl
theorem dc_9 {a0 a1 a2 a3 a4 a5 a6 a7 a8 : Option AV} {env : AEnv}{x : List (Ky × PyData)} {p : List (Ky × PyData) → Prop} : dicK 9 (a0 :: a1 :: a2 :: a3 :: a4 :: a5 :: a6 :: a7 :: a8 :: some (.m x) :: env) p = p x := rfl
theorem dc_10 {a0 a1 a2 a3 a4 a5 a6 a7 a8 a9 : Option AV} {env : AEnv}{x : List (Ky × PyData)} {p : List (Ky × PyData) → Prop} : dicK 10 (a0 :: a1 :: a2 :: a3 :: a4 :: a5 :: a6 :: a7 :: a8 :: a9 :: some (.m x) :: env) p = p x := rfl
theorem dc_11 {a0 a1 a2 a3 a4 a5 a6 a7 a8 a9 a10 : Option AV} {env : AEnv}{x : List (Ky × PyData)} {p : List (Ky × PyData) → Prop} : dicK 11 (a0 :: a1 :: a2 :: a3 :: a4 :: a5 :: a6 :: a7 :: a8 :: a9 :: a10 :: some (.m x) :: env) p = p x := rfl
theorem dc_12 {a0 a1 a2 a3 a4 a5 a6 a7 a8 a9 a10 a11 : Option AV} {env : AEnv}{x : List (Ky × PyData)} {p : List (Ky × PyData) → Prop} : dicK 12 (a0 :: a1 :: a2 :: a3 :: a4 :: a5 :: a6 :: a7 :: a8 :: a9 :: a10 :: a11 :: some (.m x) :: env) p = p x := rfl
theorem dc_13 {a0 a1 a2 a3 a4 a5 a6 a7 a8 a9 a10 a11 a12 : Option AV} {env : AEnv}{x : List (Ky × PyData)} {p : List (Ky × PyData) → Prop} : dicK 13 (a0 :: a1 :: a2 :: a3 :: a4 :: a5 :: a6 :: a7 :: a8 :: a9 :: a10 :: a11 :: a12 :: some (.m x) :: env) p = p x := rfl
theorem dc_14 {a0 a1 a2 a3 a4 a5 a6 a7 a8 a9 a10 a11 a12 a13 : Option AV} {env : AEnv}{x : List (Ky × PyData)} {p : List (Ky × PyData) → Prop} : dicK 14 (a0 :: a1 :: a2 :: a3 :: a4 :: a5 :: a6 :: a7 :: a8 :: a9 :: a10 :: a11 :: a12 :: a13 :: some (.m x) :: env) p = p x := rfl
theorem dc_15 {a0 a1 a2 a3 a4 a5 a6 a7 a8 a9 a10 a11 a12 a13 a14 : Option AV} {env : AEnv}{x : List (Ky × PyData)} {p : List (Ky × PyData) → Prop} : dicK 15 (a0 :: a1 :: a2 :: a3 :: a4 :: a5 :: a6 :: a7 :: a8 :: a9 :: a10 :: a11 :: a12 :: a13 :: a14 :: some (.m x) :: env) p = p x := rfl
theorem e_din {env : AEnv}{Q : AV → AEnv → Prop} {X : XQ}{neg : Bool} {j : Nat} {a : E} : wE (.din neg j a) env Q X = wE a env (fun v env1 => rdK env1 v fun x => keyK x fun ks => dicK j env1 fun kvs => Q (.d (.bool (if neg = true then !hasKy kvs ks else hasKy kvs ks))) env1) X := rfl
theorem e_dkeys {env : AEnv}{Q : AV → AEnv → Prop} {X : XQ}{j : Nat} : wE (.dkeys j) env Q X = dicK j env fun kvs => Q (.o (kvs.map fun kv => kyD kv.1)) env := rfl
def sortD (kvs : List (Ky × PyData)) (k : AV → Prop) : Prop := match kysI (kvs.map (·.1)) with | some nss => (∀ ns ∈ nss, ns ≠ []) ∧ ∀ nss' : List (List Int), nss'.Perm nss → SrtO.Srtd SG.ltL nss' → k (.o (nss'.map tupD)) | none => False
theorem e_dsort {env : AEnv}{Q : AV → AEnv → Prop} {X : XQ}{j : Nat} : wE (.dsort j) env Q X = dicK j env fun kvs => sortD kvs fun r => Q r env := rfl
theorem s_parG {env : AEnv} {D : AEnds} {X : XQ} {i j l : Nat} {a b c : E} : wS X (.parG i j l a b c) env D = wE a env (fun v0 env0 => dataK v0 fun x0 => wE b env0 (fun v env1 => wE c env1 (fun u env2 => dataK u fun y => match v with
      | .b _ => False
      | .p _ _ => False
      | .m _ => False
      | v => D.nx (setE (setE (setE env2 j (some v)) i (some (.d x0))) l (some (.d y)))) X0) X0) X0 := by first | rfl | simp only [wS]
theorem s_dnewP {env : AEnv} {D : AEnds} {X : XQ} {j : Nat} {e : E} : wS X (.dnewP j e) env D = wE e env (fun v env1 => rdK env1 v fun x => pairsK x fun kvs => D.nx (setE env1 j (some (.m kvs)))) X0 := by first | rfl | simp only [wS]
theorem it_zip3 {env : AEnv}{R : List PyData → AEnv → Prop} {X : XQ}{a b c : E} : wIt (.zip3 a b c) env R X = wE a env (fun v env1 => wE b env1 (fun u env2 => wE c env2 (fun t env3 => seqK v fun xs => seqK u fun ys => seqK t fun zs => R (zipL3 xs ys zs) env3) X) X) X := by first | rfl | simp only [wIt]
theorem e_ssort {env : AEnv}{Q : AV → AEnv → Prop} {X : XQ}{a : E} : wE (.ssort a) env Q X = wE a env (fun x env1 => rdK env1 x fun dx => ssK dx fun ns => Q (.o (ns.map .int)) env1) X := by first | rfl | simp only [wE]
theorem s_parI {env : AEnv} {D : AEnds} {X : XQ} {i j : Nat} {a b : E} : wS X (.parI i j a b) env D = wE a env (fun v0 env0 => dataK v0 fun x0 => wE b env0 (fun v env1 => match v with
      | .b _ => False
      | .p _ _ => False
      | .m _ => False
      | v => D.nx (setE (setE env1 j (some v)) i (some (.d x0)))) X0) X0 := by first | rfl | simp only [wS]
theorem s_parH {env : AEnv} {D : AEnds} {X : XQ} {i j l : Nat} {a b c : E} : wS X (.parH i j l a b c) env D = wE a env (fun v0 env0 => dataK v0 fun x0 => wE b env0 (fun v1 env1 => dataK v1 fun x1 => wE c env1 (fun v env2 => match v with
      | .b _ => False
      | .p _ _ => False
      | .m _ => False
      | v => D.nx (setE (setE (setE env2 l (some v)) i (some (.d x0))) j (some (.d x1)))) X0) X0) X0 := by first | rfl | simp only [wS]
theorem s_dnew {env : AEnv}{D : AEnds} {X : XQ}{j : Nat} {a b : E} : wS X (.dnew j a b) env D = wE a env (fun v env1 => wE b env1 (fun u env2 => rdK env2 v fun x => keyK x fun ks => dataK u fun y => flatD y = true ∧ D.nx (setE env2 j (some (.m [(ks, y)])))) X0) X0 := rfl
theorem s_dset {env : AEnv}{D : AEnds} {X : XQ}{j : Nat} {a b : E} : wS X (.dset j a b) env D = wE b env (fun u env1 => dataK u fun y => dicK j env1 fun _ => wE a env1 (fun v env2 => rdK env2 v fun x => keyK x fun ks => dicK j env2 fun kvs => (kvs.length < sizeLine ∧ flatD y = true) ∧ D.nx (setE env2 j (some (.m (putKy kvs ks y))))) X0) X0 := rfl
theorem s_rexpr {env : AEnv} {D : AEnds} {X : XQ} {r : RE} : wS X (.rexpr r) env D = wR X r env fun _ env1 => D.nx env1 := rfl
theorem s_rret {env : AEnv} {D : AEnds} {X : XQ} {r : RE} : wS X (.rret r) env D = wR X r env fun v env1 => D.rt v env1 := rfl
theorem s_raiseX {env : AEnv} {D : AEnds} {X : XQ} {c t : Str} : wS X (.raiseX c t) env D = X c env := rfl
theorem s_raise {env : AEnv} {D : AEnds} {X : XQ} {c : Str} : wS X (.raise c) env D = False := rfl
theorem s_tryC {env : AEnv} {D : AEnds} {X : XQ} {b : Ss} {c : Str} {cs : List Str} {i j : Nat} : wS X (.tryC b c cs i j) env D = wSs (fun c env1 => c ∈ cs ∧ i < env1.length ∧ D.nx (setE (setE env1 i Option.none) j (some (.d (objD c))))) b env D := rfl
theorem r_e {env : AEnv} {Q : AV → AEnv → Prop} {X : XQ} {a : E} : wR X (.e a) env Q = wE a env Q X0 := rfl
theorem r_call {env : AEnv} {Q : AV → AEnv → Prop} {X : XQ} {x : Str} {sp : ASp} {es : Es} : wR X (.call x sp es) env Q = wEs es env (fun vs env1 => lent vs = [] ∧ callK sp vs env1 Q X) X0 := rfl
theorem r_callK {env : AEnv} {Q : AV → AEnv → Prop} {X : XQ} {x : Str} {sp : ASp} {ps ks : List Str} {es : Es} : wR X (.callK x sp ps ks es) env Q = wEs es env (fun vs env1 => match reorder ps ks vs with | some us => lent us = [] ∧ callK sp us env1 Q X | Option.none => False) X0 := rfl
theorem r_ife {env : AEnv} {Q : AV → AEnv → Prop} {X : XQ} {c : E} {a b : RE} : wR X (.ife c a b) env Q = wE c env (fun x env1 => truthK env1 x fun t => if t = true then wR X a env1 Q else wR X b env1 Q) X0 := rfl
end V
end PF

set_option maxRecDepth 100000
set_option maxHeartbeats 4000000
namespace PF
open PySem PySem.Spec PyProof.Rows L2
/-! ### one of three exceptions that keep an argument, raised and caught at once -/
def tryS (c0 f0 c1 f1 c2 f2 cx : Str) : S := .ite (.bool true) (.cons (.tryC (.cons (.raiseX "X" "") .nil) cx ["X"] 3 2) (.cons (.ite (.cmp .eq (.neg (.var 0)) (.int 0)) (.cons (.asgF 2 (.mkA c0 f0 false (.var 1))) .nil)
  (.cons (.ite (.cmp .eq (.neg (.var 0)) (.int (-1))) (.cons (.asgF 2 (.mkA c1 f1 false (.var 1))) .nil) (.cons (.asgF 2 (.mkA c2 f2 false (.var 1))) .nil)) .nil)) .nil)) .nil
theorem setE_setE : ∀ (env : AEnv) (i : Nat) (v w : Option AV), setE (setE env i v) i w = setE env i w
  | [], _, _, _ => rfl
  | _ :: _, 0, _, _ => rfl
  | x :: l, i + 1, v, w => by show x :: setE (setE l i v) i w = x :: setE l i w; rw [setE_setE l i v w]
def cat3 (w : Int) (c0 c1 c2 : Str) : Str := if w = 0 then c0 else if w = 1 then c1 else c2
theorem try_red {X : XQ} {c0 f0 c1 f1 c2 f2 cx : Str} {env : AEnv} {D : AEnds} (h : wS X (tryS c0 f0 c1 f1 c2 f2 cx) env D) :
    ∃ (w : Int) (x : PyData), getE env 0 = some (.d (.int w)) ∧ getE env 1 = some (.d x) ∧ 3 < env.length ∧ D.nx (setE (setE env 3 none) 2 (some (.d (objA (cat3 w c0 c1 c2) (cat3 w f0 f1 f2) x)))) := by
  unfold tryS at h
  simp only [wS, wSs, wE, truthK, rdK, truth, if_true, List.mem_cons, List.not_mem_nil, or_false] at h
  obtain ⟨_, hl, h⟩ := h
  have g0 : ∀ v : Option AV, getE (setE (setE env 3 none) 2 v) 0 = getE env 0 := fun v => by rw [get_set, if_neg (by decide), get_set, if_neg (by decide)]
  have g1 : ∀ v : Option AV, getE (setE (setE env 3 none) 2 v) 1 = getE env 1 := fun v => by rw [get_set, if_neg (by decide), get_set, if_neg (by decide)]
  rw [g0, g1] at h
  have fin : ∀ {c f : Str} {v : Option AV}, (match getE env 1 with
      | some (AV.d x) => dataK (AV.d x) fun x => dataK (AV.d (objA c f x)) fun x => D.nx (setE (setE (setE env 3 none) 2 v) 2 (some (AV.d x)))
      | some (AV.o ds) => dataK (AV.b 1) fun x => dataK (AV.d (objA c f x)) fun x => D.nx (setE (setE (setE env 3 none) 2 v) 2 (some (AV.d x)))
      | x => False) → ∃ x, getE env 1 = some (.d x) ∧ D.nx (setE (setE env 3 none) 2 (some (.d (objA c f x)))) := fun {c f v} h => by
    split at h
    · rename_i x e
      exact ⟨x, e, by
        have h' : D.nx (setE (setE (setE env 3 none) 2 v) 2 (some (AV.d (objA c f x)))) := h
        rwa [setE_setE] at h'⟩
    · exact h.elim
    · exact h.elim
  cases e0 : getE env 0 with
  | none => rw [e0] at h; exact h.elim
  | some a =>
    cases a with
    | d y =>
      rw [e0] at h
      cases y with
      | int w =>
        simp only [cmpK] at h
        have n0 : PyData.eqv (.int (-w)) (.int 0) = decide (w = 0) := by
          show decide (-w = 0) = decide (w = 0)
          exact decide_eq_decide.mpr (by omega)
        have n1 : PyData.eqv (.int (-w)) (.int (-1)) = decide (w = 1) := by
          show decide (-w = -1) = decide (w = 1)
          exact decide_eq_decide.mpr (by omega)
        rw [n0, n1] at h
        obtain ⟨_, _, h⟩ := h
        unfold cat3
        by_cases w0 : w = 0
        · rw [if_pos (by simp [w0])] at h
          obtain ⟨x, e, q⟩ := fin h
          exact ⟨w, x, rfl, e, hl, by rw [if_pos w0, if_pos w0]; exact q⟩
        · rw [if_neg (by simp [w0])] at h
          obtain ⟨_, _, h⟩ := h
          by_cases w1 : w = 1
          · rw [if_pos (by simp [w1])] at h
            obtain ⟨x, e, q⟩ := fin h
            exact ⟨w, x, rfl, e, hl, by rw [if_neg w0, if_neg w0, if_pos w1, if_pos w1]; exact q⟩
          · rw [if_neg (by simp [w1])] at h
            obtain ⟨x, e, q⟩ := fin h
            exact ⟨w, x, rfl, e, hl, by rw [if_neg w0, if_neg w0, if_neg w1, if_neg w1]; exact q⟩
      | _ => exact (h : False).elim
    | _ => rw [e0] at h; exact (h : False).elim
section
variable {P : Program} {w : World} {K : PySem.W.Frag} {mg : Str → Option Value} {base : Heap} {k : Nat} {Z : Sc} {X : Cx}
abbrev tRz (K : PySem.W.Frag) (c f : Str) (W : WX) : TS := fun _ σ H => tVar 1 σ H fun v H1 => ∀ dx, H1 dx = none → W (.ref (He.ga K c)) (some dx) σ (upd H1 dx (.xd [(f, v)]))
theorem ps_rz {c f xv : Str} {W : WX} {p1 p2 p3 p4 : Pos} (C : Whr P w K mg base k Z X) (kk : 2 ≤ k) (A : InOk P K mg c f) (hv : nameIs Z 1 xv = true) (hg : glIs Z c = true) (tk : Takes X W) : PS X (.Raise (some (.Call (.Name c p1) [.Name xv p2] [] p3)) none p4) (tRz X.K c f W) := by
  obtain ⟨fI, T, b1, b2⟩ := A.i
  obtain ⟨a1, a2, a3, a4⟩ := C.var hv
  obtain ⟨g1, g2⟩ := C.gl hg
  obtain ⟨k', rfl⟩ : ∃ k', k = k' + 2 := ⟨k - 2, by omega⟩
  have eK := C.K
  have eP := C.prog
  have eM := C.mg
  subst eK eP eM
  exact ps_raise C.g.calm tk (_root_.XO.pmk_init T A.s C.g.room A.g g1 b1 (pe_var a1 a2 a3 a4) rfl g2)
theorem ps_caught {Wx : WX} {R : List Nat} {c0 f0 c1 f1 c2 f2 cx xv xj xe : Str} {cs : List Str} {e0 e1 : Expr} {p1 p2 p3 p4 q1 q2 q3 q4 r1 r2 r3 r4 np py pm sp pos pos' i0 i1 : Pos} (c : Whr P w K mg base k Z X) (tp : Top X) (kk : 2 ≤ k) (A0 : InOk P K mg c0 f0) (A1 : InOk P K mg c1 f1) (A2 : InOk P K mg c2 f2) (C : CatchOk K mg cx cs) (m0 : c0 ∈ cs) (m1 : c1 ∈ cs) (m2 : c2 ∈ cs)
    (h0 : chkE Z (.cmp .eq (.var 0) (.int 0)) e0 = true) (h1 : chkE Z (.cmp .eq (.var 0) (.int 1)) e1 = true) (hv : nameIs Z 1 xv = true) (hj : storeIs Z 2 xj = true) (he : nameIs Z 3 xe = true) (hel : Z.sc.names.lookup xe = some .local) (g0 : glIs Z c0 = true) (g1 : glIs Z c1 = true) (g2 : glIs Z c2 = true) (gx : glIs Z cx = true)
    (r2R : 2 ∉ R) (r3R : 3 ∉ R) :
    PS X (.Try [.If e0 [.Raise (some (.Call (.Name c0 p1) [.Name xv p2] [] p3)) none p4] [] i0, .If e1 [.Raise (some (.Call (.Name c1 q1) [.Name xv q2] [] q3)) none q4] [] i1, .Raise (some (.Call (.Name c2 r1) [.Name xv r2] [] r3)) none r4] [.ExceptHandler (some (.Name cx np)) (some xe) [.Assign [.Name xj py] (.Name xe pm) sp] pos'] [] [] pos)
      (TSof X.K Wx R (tryS c0 f0 c1 f1 c2 f2 cx)) := by
  obtain ⟨a1, a2, a3, a4⟩ := c.var he
  obtain ⟨b1, b2, b3⟩ := c.store hj
  obtain ⟨d1, d2⟩ := c.gl gx
  have C' : CatchOk X.K X.mg cx cs := by rw [c.K, c.mg]; exact C
  refine ps_weak (_root_.XO.ps_tryV (c := .ref (He.ga X.K cx)) (tb := fun W => tSeq (tIfS (TTof X.K (.cmp .eq (.var 0) (.int 0))) (tSeq (tRz X.K c0 f0 W) tNext) tNext) (tSeq (tIfS (TTof X.K (.cmp .eq (.var 0) (.int 1))) (tSeq (tRz X.K c1 f1 W) tNext) tNext) (tSeq (tRz X.K c2 f2 W) tNext)))
    (ts := fun a cls d => tAsg (tVar 3) (gName 2)) tp.s tp.f tp.x (by rw [c.g.hN]; exact c.g.nd) a1 (by
        unfold Env.kindOf
        rw [c.g.sc]
        exact hel) ⟨d1, d2, .inl C'.g⟩ (by simp) (fun W pn xe tk ps => ?_) (fun a oe cls d pn => ?_)) fun D σ H ⟨F, O, env, fr, eo, hw⟩ => ?_
  · have ct := c.tr pn xe ps
    exact pss_cons (ps_if (sT (.cmp .eq (.var 0) (.int 0)) ct h0 ⟨trivial, trivial⟩ rfl) (pss_cons (ps_rz ct kk A0 hv g0 tk) pss_nil) pss_nil) (pss_cons (ps_if (sT (.cmp .eq (.var 0) (.int 1)) ct h1 ⟨trivial, trivial⟩ rfl) (pss_cons (ps_rz ct kk A1 hv g1 tk) pss_nil) pss_nil) (pss_cons (ps_rz ct kk A2 hv g2 tk) pss_nil))
  · exact pss_weak (pss_cons (ps_set (X := X.suite a ((a, oe) :: pn)) (by show X.N.Nodup; rw [c.g.hN]; exact c.g.nd) b1 b2 (pe_var a1 a2 a3 a4) rfl b3) pss_nil) fun D σ H h => h
  · obtain ⟨y, x, y0, x0, hl, nx⟩ := try_red hw
    have fin : ∀ (cc ff : Str), cc ∈ cs → InOk P K mg cc ff → cat3 y c0 c1 c2 = cc → cat3 y f0 f1 f2 = ff → ∀ H', EnvOk X.K F O H' σ env → Chg O H H' →
        tRz X.K cc ff (_root_.XO.wTrV X.K (.ref (He.ga X.K cx)) 3 (fun a cls d => tAsg (tVar 3) (gName 2)) D) D σ H' := fun cc ff hm A e1 e2 H' eo' ch => by
      obtain ⟨v, hv, hx⟩ := eo'.dat 1 x x0
      have A' : InOk P X.K X.mg cc ff := by rw [c.K, c.mg]; exact A
      refine ⟨v, hv, fun dx hd => ⟨(C'.t cc hm).2, fun a ha => ?_⟩⟩
      have il : 3 < σ.length := by rw [eo'.len]; exact hl
      refine ⟨.ref a, List.getElem?_set_self il, fun hn => ?_⟩
      have had : a ≠ dx := fun z => by rw [z, upd_same] at ha; cases ha
      have ha' : H' a = none := by rwa [upd_ne had] at ha
      have g1 := eo'.grow (same_new (o := .xd [(ff, v)]) hd)
      have g2 := g1.grow (same_new (o := _root_.XO.ExV (.ref (He.ga X.K cc)) (some dx) a) ha)
      have cc2 : Chg O H' (upd (upd H' dx (.xd [(ff, v)])) a (_root_.XO.ExV (.ref (He.ga X.K cc)) (some dx) a)) := (chg_new hd).trans (chg_new ha)
      have g3 := g2.setN (i := 3) (w := none) (fr.no r3R)
      have g4 := g3.setD (i := 2) (v := .ref a) (x := objA cc ff x) (fr.no r2R) (.objA A'.o A'.a (by rw [wo_out (eo'.notO ha'), upd_same]) (by rw [wo_out (eo'.notO hd), upd_ne (Ne.symm had), upd_same]) (dp_mono cc2.wo hx))
      have es : ((σ.set 3 (some (V.ref a))).set 2 (some (V.ref a))).set 3 none = (σ.set 3 none).set 2 (some (V.ref a)) := by
        rw [List.set_comm _ _ (by decide), List.set_set]
      show D.nx (((σ.set 3 (some (V.ref a))).set 2 (some (V.ref a))).set 3 none) _
      rw [es]
      rw [e1, e2] at nx
      exact nx _ _ O g4 ((Ext.of ch).trans (.of cc2))
    have n0 : PyData.eqv (.int y) (.int 0) = decide (y = 0) := rfl
    have n1 : PyData.eqv (.int y) (.int 1) = decide (y = 1) := rfl
    refine ⟨F, O, env, eo, ?_⟩
    simp only [wE, y0, rdK, cmpK, truthK, truth]
    refine ⟨rfl, rfl, fun H1 e1' ch1 => ?_⟩
    rw [n0]
    by_cases z0 : y = 0
    · rw [if_pos (by simp [z0])]
      exact fin c0 f0 m0 A0 (by unfold cat3; rw [if_pos z0]) (by unfold cat3; rw [if_pos z0]) H1 e1' ch1
    · rw [if_neg (by simp [z0])]
      refine ⟨F, O, env, e1', ?_⟩
      simp only [wE, y0, rdK, cmpK, truthK, truth]
      refine ⟨rfl, rfl, fun H2 e2' ch2 => ?_⟩
      rw [n1]
      by_cases z1 : y = 1
      · rw [if_pos (by simp [z1])]
        exact fin c1 f1 m1 A1 (by unfold cat3; rw [if_neg z0, if_pos z1]) (by unfold cat3; rw [if_neg z0, if_pos z1]) H2 e2' (ch1.trans ch2)
      · rw [if_neg (by simp [z1])]
        exact fin c2 f2 m2 A2 (by unfold cat3; rw [if_neg z0, if_neg z1]) (by unfold cat3; rw [if_neg z0, if_neg z1]) H2 e2' (ch1.trans ch2)
/-- THE RULE for a def, its statements by hand -/
theorem fn_gH {x qual : Str} {st : Stmt} {f : Addr} {fd : FuncData} {N ps : List Str} {R : List Nat} {b : Ss} {sp : ASp} (Fn : Fun K x qual st f fd) (S : FnScope N ps (defScope st)) (B : Body ps.length N.length R b sp)
    (hb : ∀ X : Cx, Whr P w K mg base k ⟨N, defScope st, fun _ => true, R⟩ X → Top X → Takes X (fun _ _ _ _ => False) → PSs X (defBody st) (TSsof X.K (fun _ _ _ _ => False) R b)) (hbn : ∀ x ∈ bnames, mg x = none) : FnG P w K mg base (k + 1) f fd ps (liftSp K sp) := by
  have hpl : ps.length ≤ N.length := by
    have := congrArg List.length S.pre
    rw [List.length_take] at this
    omega
  have hlen : ∀ vs H Q E, liftSp K sp vs H Q E → vs.length = ps.length := fun vs H Q E ⟨as, O, ao, hr⟩ => by rw [ao.len]; exact B.len _ _ _ hr
  obtain ⟨oc, od, kV, doc, pm, an, cdv, ct, osl, rfl, lk, hcd⟩ := Fn.ex
  refine ⟨hlen, fun A outer s H args us vs Q hr hg e0 hb' rv hsp => ?_⟩
  have old : ∀ c o, base.get? c = some o → s.heap.get? c = some o := fun c o z => (e0.bs c o z).1
  have KX : K.In s.heap := e0.mod.kin.keeps old
  refine codeAny_call_function hr.depth (KX _ _ lk) rfl S.co S.gen rfl (PySem.W.codeRec_of KX hcd) (hb' _ _ _ _ ?_)
  refine wpAny_newFunctionEnv_cells S.kind (fun y hy => ?_) fun env he s1 ic => ?_
  · obtain ⟨n, v⟩ := y
    have hm : n ∈ ps := (List.of_mem_zip hy).1
    rcases S.par n hm with q | q
    · exact .inl q
    · exact .inr ⟨q, PySem.W.cellsFrom_some _ _ _ (.inl q)⟩
  · subst he
    refine ⟨(e0.mod.nolimit.keeps old).keeps ic.toInCall.keep, codeAny_func ?_⟩
    have I := inv_start (CX := CX0) (E := E0) (cd := cdv) S hr.hd e0 (hlen _ _ _ _ hsp) rv ic
    have I' := I.wish (fun _ _ => False)
    have c : Whr P w K mg base k ⟨N, defScope st, fun _ => true, R⟩ (cxOf CX0 P w K mg base N qual (defScope st) f cdv A outer s H E0).nox :=
      ⟨⟨rfl, S.nd, rfl, S.kind, fun _ _ => rfl, rfl, hr.deeper _, hg, PassesOwn.never⟩, rfl, rfl, rfl, rfl, rfl, hbn⟩
    have go := (hb _ c ⟨rfl, rfl, rfl⟩ takes_no).run [] s1 (L2.start N vs) H { nx := fun _ H' => Q .non H', rt := Q } I' (body_red B hpl hsp)
    refine wpAny_mono go (fun fl s' hs => ?_) fun _ _ z => z.elim
    have done : ∀ {σ' : L2.St} {H' : Hp} {v : V} {u : Value}, Inv (cxOf CX0 P w K mg base N qual (defScope st) f cdv A outer s H E0).nox [] σ' H' s' → RelV v u → Q v H' → CE outer P w H s Q u s' := fun {σ' H' v u} J r q => ⟨v, H', J.os, J.bare, J.base, J.hok, r, q⟩
    cases fl with
    | ret u =>
      obtain ⟨v, σ', H', J, r, q⟩ := hs
      exact done J r q
    | next =>
      obtain ⟨σ', H', J, q⟩ := hs
      exact done (v := V.non) (u := Value.none) J rfl q
    | brk =>
      obtain ⟨_, _, _, q⟩ := hs
      exact False.elim q
    | cont =>
      obtain ⟨_, _, _, q⟩ := hs
      exact False.elim q
/-- what a look at the head says of a clause: classes that keep their argument too -/
def catQ (K : PySem.W.Frag) (c : Str) (cs : List Str) : Bool := cs.all fun c' => objB K c' && decide (PySem.W.exmOne K (.ref (He.ga K c')) (.ref (He.ga K c)) = some true)
theorem catQ_of {h : Heap} {c : Str} {cs : List Str} (X : K.In h) (G : h.Ns mainGlobals mg) (f : (He.Fa.glo c).ok K = true) (b : catQ K c cs = true) : CatchOk K mg c cs := by
  unfold catQ at b
  refine ⟨He.glo_ok X G f, fun c' hc => ?_⟩
  have := List.all_eq_true.mp b c' hc
  simp only [Bool.and_eq_true, decide_eq_true_eq] at this
  exact ⟨objC_of this.1, this.2⟩
end
end PF

set_option maxRecDepth 100000
set_option maxHeartbeats 4000000
namespace PF
open PySem PySem.Spec PyProof.Rows L2
/-! ### a family of classes right under one, by few looks -/
def incB : List Nat → Bool
  | a :: b :: r => decide (a < b) && incB (b :: r)
  | _ => true
theorem inc_pw : ∀ {l : List Nat}, incB l = true → l.Pairwise (· < ·)
  | [], _ => .nil
  | [a], _ => .cons (fun _ h => nomatch h) .nil
  | a :: b :: r, h => by
    have h' : (decide (a < b) && incB (b :: r)) = true := h
    rw [Bool.and_eq_true, decide_eq_true_eq] at h'
    have ih := inc_pw h'.2
    refine .cons (fun x hx => ?_) ih
    rcases List.mem_cons.mp hx with rfl | hx
    · exact h'.1
    · exact Nat.lt_trans h'.1 ((List.pairwise_cons.mp ih).1 x hx)
def mroB (K : PySem.W.Frag) (c : Str) (l : List Value) : Bool := match PySem.W.clsIn K (He.ga K c) with
  | some cd => cd.mro == l
  | none => false
def famB (K : PySem.W.Frag) (W : Str) (CL : List Str) : Bool :=
  ((W :: CL).all fun c => decide (PySem.W.typeIn K (.ref (He.ga K c)) = some (.type "type"))) && (CL.all fun c => mroB K c (.ref (He.ga K c) :: .ref (He.ga K W) :: exTail)) && mroB K W (.ref (He.ga K W) :: exTail) && incB ((W :: CL).map (He.ga K))
theorem pw_inj {α : Type} {f : α → Nat} : ∀ {l : List α}, (l.map f).Pairwise (· < ·) → ∀ {a b : α}, a ∈ l → b ∈ l → f a = f b → a = b
  | [], _, _, _, h, _, _ => nomatch h
  | x :: l, h, a, b, ha, hb, e => by
    rw [List.map_cons, List.pairwise_cons] at h
    rcases List.mem_cons.mp ha with e1 | ha'
    · rcases List.mem_cons.mp hb with e2 | hb'
      · rw [e1, e2]
      · have := h.1 (f b) (List.mem_map.mpr ⟨b, hb', rfl⟩)
        rw [← e, e1] at this
        exact absurd this (Nat.lt_irrefl _)
    · rcases List.mem_cons.mp hb with e2 | hb'
      · have := h.1 (f a) (List.mem_map.mpr ⟨a, ha', rfl⟩)
        rw [e, e2] at this
        exact absurd this (Nat.lt_irrefl _)
      · exact pw_inj h.2 ha' hb' e
section
variable {K : PySem.W.Frag} {h : Heap} {mg : Str → Option Value} {W c : Str} {CL : List Str}
theorem mro_of {l : List Value} (b : mroB K c l = true) : ∃ cd, PySem.W.clsIn K (He.ga K c) = some cd ∧ cd.mro = l := by
  unfold mroB at b
  split at b
  · rename_i cd e
    exact ⟨cd, e, eq_of_beq b⟩
  · cases b
theorem fam_of (b : famB K W CL = true) : (∀ d ∈ W :: CL, PySem.W.typeIn K (.ref (He.ga K d)) = some (.type "type")) ∧ (∀ d ∈ CL, mroB K d (.ref (He.ga K d) :: .ref (He.ga K W) :: exTail) = true) ∧ mroB K W (.ref (He.ga K W) :: exTail) = true ∧ ((W :: CL).map (He.ga K)).Pairwise (· < ·) := by
  unfold famB at b
  simp only [Bool.and_eq_true] at b
  obtain ⟨⟨⟨b1, b2⟩, b3⟩, b4⟩ := b
  exact ⟨fun d hd => of_decide_eq_true (List.all_eq_true.mp b1 d hd), fun d hd => List.all_eq_true.mp b2 d hd, b3, inc_pw b4⟩
theorem kit_ref {a c : Str} {l : List Value} {r : Bool} (hc : ∃ l', mroB K c l' = true) (tc : PySem.W.typeIn K (.ref (He.ga K c)) = some (.type "type")) (ha : mroB K a l = true) (hl : l.isEmpty = false) (hr : l.contains (.ref (He.ga K c)) = r) (he : He.ga K a = He.ga K c → r = true) :
    PySem.W.kitOne K (.ref (He.ga K a)) (.ref (He.ga K c)) = some r := by
  unfold PySem.W.kitOne
  by_cases e : He.ga K a = He.ga K c
  · rw [if_pos (by rw [e]; exact beq_self_eq_true _), he e]
  · rw [if_neg (fun z => e (Value.ref.inj (eq_of_beq z)))]
    obtain ⟨l', hc⟩ := hc
    obtain ⟨cc, e1, _⟩ := mro_of hc
    obtain ⟨ca, e2, e3⟩ := mro_of ha
    unfold PySem.W.kitCls
    dsimp only
    rw [if_pos (by rw [e1, tc]; rfl)]
    show PySem.W.mroIn K (He.ga K a) (.ref (He.ga K c)) = some r
    unfold PySem.W.mroIn
    rw [e2, Option.bind_some, e3, hl, hr]
    rfl
theorem kit_non (hc : ∃ l', mroB K c l' = true) (tc : PySem.W.typeIn K (.ref (He.ga K c)) = some (.type "type")) : PySem.W.kitOne K (.type "NoneType") (.ref (He.ga K c)) = some false := by
  obtain ⟨l', hc⟩ := hc
  obtain ⟨cc, e1, _⟩ := mro_of hc
  unfold PySem.W.kitOne
  rw [if_neg (fun z => by have := eq_of_beq z; cases this)]
  unfold PySem.W.kitCls
  dsimp only
  rw [if_pos (by rw [e1, tc]; rfl)]
  have : PySem.W.subIn K (.type "NoneType") (.ref (He.ga K c)) = (fastBuiltinMro "NoneType").map (·.contains (.ref (He.ga K c))) := rfl
  rw [this]
  have e : fastBuiltinMro "NoneType" = some [.type "NoneType", .type "object"] := by decide +kernel
  rw [e]
  rfl
theorem tail_no {a : Addr} : exTail.contains (.ref a) = false := rfl
theorem inst_fam (X : K.In h) (G : h.Ns mainGlobals mg) (f : (He.Fa.glo c).ok K = true) (b : famB K W CL = true) (hc : c ∈ CL) : InstOk K mg c ((W :: CL).map fun d => (d, decide (d = c))) := by
  obtain ⟨f1, f2, f3, f4⟩ := fam_of b
  have hc' : c ∈ W :: CL := List.mem_cons_of_mem _ hc
  have nW : He.ga K W ≠ He.ga K c := by
    rw [List.map_cons, List.pairwise_cons] at f4
    exact Nat.ne_of_lt (f4.1 (He.ga K c) (List.mem_map.mpr ⟨c, hc, rfl⟩))
  refine ⟨He.glo_ok X G f, kit_non ⟨_, f2 c hc⟩ (f1 c hc'), fun p hp => ?_⟩
  obtain ⟨d, hd, rfl⟩ := List.mem_map.mp hp
  have inj : He.ga K d = He.ga K c → d = c := fun e => pw_inj f4 hd hc' e
  rcases List.mem_cons.mp hd with rfl | hd
  · refine kit_ref ⟨_, f2 c hc⟩ (f1 c hc') f3 rfl ?_ fun e => decide_eq_true (inj e)
    rw [List.contains_cons, tail_no, Bool.or_false]
    rw [decide_eq_false (fun e => nW (by rw [e]))]
    exact beq_eq_false_iff_ne.mpr fun z => nW (Value.ref.inj z).symm
  · refine kit_ref ⟨_, f2 c hc⟩ (f1 c hc') (f2 d hd) rfl ?_ fun e => decide_eq_true (inj e)
    rw [List.contains_cons, List.contains_cons, tail_no, Bool.or_false]
    rw [show (Value.ref (He.ga K c) == Value.ref (He.ga K W)) = false from beq_eq_false_iff_ne.mpr fun z => nW (Value.ref.inj z).symm, Bool.or_false]
    by_cases e : d = c
    · subst e
      rw [decide_eq_true rfl]
      exact beq_self_eq_true _
    · rw [decide_eq_false e]
      exact beq_eq_false_iff_ne.mpr fun z => e (inj (Value.ref.inj z).symm)
theorem inst_famW (X : K.In h) (G : h.Ns mainGlobals mg) (f : (He.Fa.glo W).ok K = true) (b : famB K W CL = true) : InstOk K mg W ((W :: CL).map fun d => (d, true)) := by
  obtain ⟨f1, f2, f3, f4⟩ := fam_of b
  refine ⟨He.glo_ok X G f, kit_non ⟨_, f3⟩ (f1 W List.mem_cons_self), fun p hp => ?_⟩
  obtain ⟨d, hd, rfl⟩ := List.mem_map.mp hp
  rcases List.mem_cons.mp hd with rfl | hd
  · exact kit_ref ⟨_, f3⟩ (f1 d List.mem_cons_self) f3 rfl (by rw [List.contains_cons, beq_self_eq_true, Bool.true_or]) fun _ => rfl
  · exact kit_ref ⟨_, f3⟩ (f1 W List.mem_cons_self) (f2 d hd) rfl (by rw [List.contains_cons, List.contains_cons, beq_self_eq_true, Bool.true_or, Bool.or_true]) fun _ => rfl
end
end PF

set_option maxRecDepth 100000
set_option maxHeartbeats 1000000
/-! NA: sizes, places, calls, comprehensions: what the laws' bodies have in common -/
namespace NL
open PySem PF
theorem atI_lt {α : Type} {xs : List α} {i : Int} (h0 : 0 ≤ i) (h1 : i < xs.length) : L2.atI xs i = xs[i.toNat]? := by
  unfold L2.atI L2.ixN
  rw [if_pos h0, if_pos h1]
  rfl
theorem atI_0 {α : Type} {x : α} {xs : List α} : L2.atI (x :: xs) 0 = some x := by
  rw [atI_lt (by decide) (by simp only [List.length_cons]; omega)]
  rfl
theorem atI_1 {α : Type} {x y : α} {xs : List α} : L2.atI (x :: y :: xs) 1 = some y := by
  rw [atI_lt (by decide) (by simp only [List.length_cons]; omega)]
  rfl
theorem atI_2 {α : Type} {x y z : α} {xs : List α} : L2.atI (x :: y :: z :: xs) 2 = some z := by
  rw [atI_lt (by decide) (by simp only [List.length_cons]; omega)]
  rfl
theorem set_0 {α : Type} {x w : α} {xs : List α} : List.set (x :: xs) (Int.toNat 0) w = w :: xs := rfl
theorem set_2 {α : Type} {x y z w : α} {xs : List α} : List.set (x :: y :: z :: xs) (Int.toNat 2) w = x :: y :: w :: xs := rfl
theorem call_W0 {f : WF} {m : f.Mono} {env : AEnv} {Q : AV → AEnv → Prop} {X : XQ} : callK (spW f m) [] env Q X ↔ f [] fun r => Q r env := call_W rfl
theorem call_W1 {f : WF} {m : f.Mono} {a : PyData} {env : AEnv} {Q : AV → AEnv → Prop} {X : XQ} : callK (spW f m) [.d a] env Q X ↔ f [a] fun r => Q r env := call_W rfl
theorem call_W1o {f : WF} {m : f.Mono} {a : List PyData} {env : AEnv} {Q : AV → AEnv → Prop} {X : XQ} : callK (spW f m) [.o a] env Q X ↔ f [.list a] fun r => Q r env := call_W rfl
theorem call_W2 {f : WF} {m : f.Mono} {a b : PyData} {env : AEnv} {Q : AV → AEnv → Prop} {X : XQ} : callK (spW f m) [.d a, .d b] env Q X ↔ f [a, b] fun r => Q r env := call_W rfl
theorem call_W2o {f : WF} {m : f.Mono} {a : PyData} {b : List PyData} {env : AEnv} {Q : AV → AEnv → Prop} {X : XQ} : callK (spW f m) [.d a, .o b] env Q X ↔ f [a, .list b] fun r => Q r env := call_W rfl
theorem call_W3 {f : WF} {m : f.Mono} {a b c : PyData} {env : AEnv} {Q : AV → AEnv → Prop} {X : XQ} : callK (spW f m) [.d a, .d b, .d c] env Q X ↔ f [a, b, c] fun r => Q r env := call_W rfl
theorem call_W4 {f : WF} {m : f.Mono} {a b c d : PyData} {env : AEnv} {Q : AV → AEnv → Prop} {X : XQ} : callK (spW f m) [.d a, .d b, .d c, .d d] env Q X ↔ f [a, b, c, d] fun r => Q r env := call_W rfl
theorem call_W5 {f : WF} {m : f.Mono} {a b c d e : PyData} {env : AEnv} {Q : AV → AEnv → Prop} {X : XQ} : callK (spW f m) [.d a, .d b, .d c, .d d, .d e] env Q X ↔ f [a, b, c, d, e] fun r => Q r env := call_W rfl
theorem call_L0 {f : LF} {m : f.Mono} {l : List PyData} {env : AEnv} {Q : AV → AEnv → Prop} {X : XQ} : callK (spL f m) [.b 0] (some (.o l) :: env) Q X ↔ f l [] fun r l' => Q r (some (.o l') :: env) := call_L (vs := []) (xs := []) (env := some (.o l) :: env) rfl rfl
theorem call_L1 {f : LF} {m : f.Mono} {l : List PyData} {a : PyData} {env : AEnv} {Q : AV → AEnv → Prop} {X : XQ} : callK (spL f m) [.b 0, .d a] (some (.o l) :: env) Q X ↔ f l [a] fun r l' => Q r (some (.o l') :: env) := call_L (vs := [.d a]) (xs := [a]) (env := some (.o l) :: env) rfl rfl
theorem call_L1o {f : LF} {m : f.Mono} {l a : List PyData} {env : AEnv} {Q : AV → AEnv → Prop} {X : XQ} : callK (spL f m) [.b 0, .o a] (some (.o l) :: env) Q X ↔ f l [.list a] fun r l' => Q r (some (.o l') :: env) := call_L (vs := [.o a]) (xs := [.list a]) (env := some (.o l) :: env) rfl rfl
theorem call_L2 {f : LF} {m : f.Mono} {l : List PyData} {a b : PyData} {env : AEnv} {Q : AV → AEnv → Prop} {X : XQ} : callK (spL f m) [.b 0, .d a, .d b] (some (.o l) :: env) Q X ↔ f l [a, b] fun r l' => Q r (some (.o l') :: env) := call_L (vs := [.d a, .d b]) (xs := [a, b]) (env := some (.o l) :: env) rfl rfl
theorem call_L3 {f : LF} {m : f.Mono} {l : List PyData} {a b c : PyData} {env : AEnv} {Q : AV → AEnv → Prop} {X : XQ} : callK (spL f m) [.b 0, .d a, .d b, .d c] (some (.o l) :: env) Q X ↔ f l [a, b, c] fun r l' => Q r (some (.o l') :: env) := call_L (vs := [.d a, .d b, .d c]) (xs := [a, b, c]) (env := some (.o l) :: env) rfl rfl
/-! ### sizes -/
def sz (n : Nat) (x : Int) : Prop := x.natAbs < 2 ^ n
theorem sz.mono {n m : Nat} {x : Int} (h : sz n x) (l : n ≤ m) : sz m x := Nat.lt_of_lt_of_le h (Nat.pow_le_pow_right (by decide) l)
theorem sz.mul {n m : Nat} {x y : Int} (h : sz n x) (g : sz m y) : sz (n + m) (x * y) := by
  unfold sz at *
  rw [Int.natAbs_mul, Nat.pow_add]
  exact Nat.mul_lt_mul'' h g
theorem sz.add {n : Nat} {x y : Int} (h : sz n x) (g : sz n y) : sz (n + 1) (x + y) := by
  unfold sz at *
  rw [Nat.pow_succ]
  have := Int.natAbs_add_le x y
  omega
theorem sz.neg {n : Nat} {x : Int} (h : sz n x) : sz n (-x) := by
  unfold sz at *
  rw [Int.natAbs_neg]
  exact h
theorem sz.sub {n : Nat} {x y : Int} (h : sz n x) (g : sz n y) : sz (n + 1) (x - y) := by
  rw [Int.sub_eq_add_neg]
  exact h.add g.neg
theorem sz.le {n : Nat} {x y : Int} (h : sz n y) (h0 : 0 ≤ x) (l : x ≤ y) : sz n x := by
  unfold sz at *
  omega
theorem sz.abs {n : Nat} {x y : Int} (h : sz n y) (l : x.natAbs ≤ y.natAbs) : sz n x := by
  unfold sz at *
  omega
theorem sz.log {n : Nat} {x : Int} (h : sz n x) : x.natAbs.log2 ≤ n := by
  by_cases z : x.natAbs = 0
  · rw [z]; exact Nat.zero_le _
  · exact Nat.le_of_lt ((Nat.log2_lt z).mpr h)
theorem sz.log' {n : Nat} {x : Int} (h : sz n x) (p : 0 < n) : x.natAbs.log2 < n := by
  by_cases z : x.natAbs = 0
  · rw [z]; exact p
  · exact (Nat.log2_lt z).mpr h
theorem sz.mulOk {n m : Nat} {x y : Int} (h : sz n x) (g : sz m y) (l : n + m < 1000000) : mulOk x y := by
  unfold PF.mulOk
  have := h.log
  have := g.log
  omega
theorem sz.divOk {n : Nat} {x : Int} (h : sz n x) (l : n < 9000) (p : x ≠ 0) : divOk x := ⟨p, by have := h.log; omega⟩
theorem sz.bits {n : Nat} {x : Int} (h : sz n x) : Builtin.Int.intBits x ≤ n := by
  unfold Builtin.Int.intBits
  split
  · exact Nat.zero_le _
  · rename_i z
    have z' : x.natAbs ≠ 0 := fun q => z (by rw [Int.natAbs_eq_zero.mp q]; rfl)
    exact (Nat.log2_lt z').mpr h
theorem sz.pow {n : Nat} {x e : Int} (h : sz n x) (h0 : 0 ≤ e) (l : (n : Int) * e ≤ 2 ^ 27) : powOk x e := by
  refine ⟨h0, Int.le_trans (Int.mul_le_mul_of_nonneg_right ?_ h0) l⟩
  have := h.bits
  omega
theorem sz_lit {x : Int} {n : Nat} (h : x.natAbs < 2 ^ n) : sz n x := h
theorem s10 : sz 4 10 := by unfold sz; decide
theorem fdiv_p {a b : Int} (h : 0 < b) : a.fdiv b = a / b := by rw [Int.fdiv_eq_ediv_of_nonneg _ (by omega)]
theorem fmod_p {a b : Int} (h : 0 < b) : a.fmod b = a % b := by rw [Int.fmod_eq_emod_of_nonneg _ (by omega)]
theorem sz.div {n : Nat} {x y : Int} (h : sz n x) : sz n (x / y) := h.abs (by rw [← Int.natAbs_natCast (x / y).natAbs]; exact Int.natAbs_ediv_le_natAbs x y)
/-! ### a text of two numbers -/
theorem int_len {i : Int} (h : sz 1919 i) : (PyData.shown (.int i)).length ≤ 2000 := by
  have e : PyData.shown (.int i) = Str.ofString (toString i) := by simp only [PyData.shown]
  rw [e, PySem.ofString_length]
  have h1 := int_text_length_le (a := i) (k := 1919) (by decide) (h.log' (by decide))
  omega
theorem ok_of (s : String) : PyData.strOk (Str.ofString s) = true := by
  rw [Str.ofString_eq_toList]
  unfold PyData.strOk
  rw [Array.all_eq_true]
  intro i hi
  simp only [List.getElem_toArray, List.getElem_map, decide_eq_true_eq]
  have hi2 : i < s.toList.length := by simpa using hi
  generalize s.toList[i]'hi2 = c
  have := c.valid
  unfold Char.toNat
  simp only [UInt32.isValidChar, Nat.isValidChar] at this
  omega
theorem ok_app {a b : Str} (ha : PyData.strOk a = true) (hb : PyData.strOk b = true) : PyData.strOk (a ++ b) = true := by
  show (a.cps ++ b.cps).all _ = true
  rw [Array.all_append]
  unfold PyData.strOk at ha hb
  rw [ha, hb]
  rfl
theorem ok_join : ∀ {ts : List Str}, (∀ t ∈ ts, PyData.strOk t = true) → PyData.strOk (Str.join ", " ts) = true
  | [], _ => by decide +kernel
  | [x], h => h x List.mem_cons_self
  | x :: y :: r, h => ok_app (ok_app (h x List.mem_cons_self) (ok_of ", ")) (ok_join (ts := y :: r) fun t ht => h t (List.mem_cons_of_mem _ ht))
def Sw (x : PyData) : Prop := SeqAt.shaped (.str x.shown) = true
theorem sw_of {x : PyData} (h : PyData.strOk x.shown = true) : Sw x := by
  unfold Sw SeqAt.shaped
  simp [PyData.canLay0, h, PyData.depth]
theorem sw_none : Sw .none := by unfold Sw; decide +kernel
theorem sw_bool (b : Bool) : Sw (.bool b) := by cases b <;> (unfold Sw; decide +kernel)
theorem shown_int (i : Int) : PyData.shown (.int i) = Str.ofString (toString i) := by simp only [PyData.shown]
theorem sw_int (i : Int) : Sw (.int i) := sw_of (by rw [shown_int]; exact ok_of _)
theorem shp_list {xs : List PyData} (h : ∀ x ∈ xs, x.canLay0 = true ∧ x.depth ≤ 60) : SeqAt.shaped (.list xs) = true := by
  have h1 : PyData.canLayAll0 xs = true := by
    induction xs with
    | nil => rfl
    | cons x xs ih => simp [PyData.canLayAll0, (h x List.mem_cons_self).1, ih fun y hy => h y (List.mem_cons_of_mem _ hy)]
  have h2 : PyData.depthAll xs ≤ 60 := by
    clear h1
    induction xs with
    | nil => simp [PyData.depthAll]
    | cons x xs ih =>
      have := (h x List.mem_cons_self).2
      have := ih fun y hy => h y (List.mem_cons_of_mem _ hy)
      simp only [PyData.depthAll]
      omega
  unfold SeqAt.shaped
  simp only [PyData.canLay0, h1, PyData.depth, Bool.true_and]
  exact decide_eq_true (by omega)
theorem eqvAll_same : ∀ {xs : List PyData}, (∀ x ∈ xs, PyData.eqv x x = true) → PyData.eqvAll xs xs = true
  | [], _ => rfl
  | x :: xs, h => by
    simp only [PyData.eqvAll, h x List.mem_cons_self, Bool.true_and]
    exact eqvAll_same fun y hy => h y (List.mem_cons_of_mem _ hy)
def Rp (x : PyData) : Prop := x.showable = true ∧ x.hasDict = false ∧ x.shown.length ≤ sizeLine ∧ x.depth ≤ 64
theorem rp_none : Rp .none := ⟨rfl, rfl, by decide +kernel, by decide⟩
theorem rp_bool (b : Bool) : Rp (.bool b) := by cases b <;> exact ⟨rfl, rfl, by decide +kernel, by decide⟩
def tn (a b : Int) : PyData := .tuple [.int a, .int b]
theorem showable_int {i : Int} (h : sz 1919 i) : (PyData.int i).showable = true := by
  simp only [PyData.showable, decide_eq_true_eq]
  have := h.log' (by decide)
  omega
theorem rp_int {a : Int} (h : sz 1919 a) : Rp (.int a) := ⟨showable_int h, rfl, by have := int_len h; rw [sizeLine_eq]; omega, by simp [PyData.depth]⟩
theorem rp_tn {a b : Int} (ha : sz 1919 a) (hb : sz 1919 b) : Rp (tn a b) := by
  have h1 := int_len ha
  have h2 := int_len hb
  refine ⟨?_, by simp [tn, PyData.hasDict, PyData.hasDictAll], ?_, by simp [tn, PyData.depth, PyData.depthAll]⟩
  · simp only [tn, PyData.showable, PyData.showableAll, Bool.and_eq_true]
    have h3 := showable_int ha
    have h4 := showable_int hb
    simp only [PyData.showable] at h3 h4
    exact ⟨h3, h4, trivial⟩
  · have e : (tn a b).shown = tupleText [PyData.shown (.int a), PyData.shown (.int b)] := by simp only [tn, PyData.shown, PyData.shownAll]
    rw [e]
    unfold tupleText
    rw [strLen_append, strLen_append]
    have h5 := join_length_add [PyData.shown (.int a), PyData.shown (.int b)] (by simp)
    rw [piled_cons, piled_cons, piled_nil] at h5
    have h6 : (("(" : Str)).length = 1 := rfl
    have h7 : ((((if ([PyData.shown (.int a), PyData.shown (.int b)].length == 1) = true then ",)" else ")" : String)) : Str)).length ≤ 2 := by
      show (((")" : String) : Str)).length ≤ 2
      decide +kernel
    rw [sizeLine_eq]
    omega
theorem sw_tn (a b : Int) : Sw (tn a b) := by
  refine sw_of ?_
  have e : (tn a b).shown = tupleText [PyData.shown (.int a), PyData.shown (.int b)] := by simp only [tn, PyData.shown, PyData.shownAll]
  rw [e]
  unfold tupleText
  refine ok_app (ok_app (ok_of "(") (ok_join fun t ht => ?_)) (ok_of _)
  simp only [List.mem_cons, List.not_mem_nil, or_false] at ht
  rcases ht with rfl | rfl
  · rw [shown_int]; exact ok_of _
  · rw [shown_int]; exact ok_of _
theorem eqv_tn {a b : Int} : PyData.eqv (.tuple [.int a, .int b]) (.tuple [.int a, .int b]) = true := by simp [PyData.eqv, PyData.eqvAll]
theorem eqv_str (s : Str) : PyData.eqv (.str s) (.str s) = true := by simp [PyData.eqv]
/-! ### lists of numbers -/
def iv (lo hi : Int) : List Int := (List.range (hi - lo).toNat).map fun (i : Nat) => lo + (i : Int)
theorem rangeL_iv {lo hi : Int} : rangeL lo hi = (iv lo hi).map .int := by
  unfold rangeL iv
  rw [List.map_map]
  rfl
theorem mem_iv {lo hi t : Int} : t ∈ iv lo hi ↔ lo ≤ t ∧ t < hi := by
  unfold iv
  simp only [List.mem_map, List.mem_range]
  constructor
  · rintro ⟨i, h, rfl⟩; omega
  · intro h; exact ⟨(t - lo).toNat, by omega, by omega⟩
theorem iv_len (lo hi : Int) : (iv lo hi).length = (hi - lo).toNat := by simp [iv]
theorem iv_nil {lo hi : Int} (h : hi ≤ lo) : iv lo hi = [] := by
  unfold iv
  rw [show (hi - lo).toNat = 0 by omega]
  rfl
theorem iv_cons {lo hi : Int} (h : lo < hi) : iv lo hi = lo :: iv (lo + 1) hi := by
  unfold iv
  rw [show (hi - lo).toNat = (hi - (lo + 1)).toNat + 1 by omega, List.range_succ_eq_map, List.map_cons, List.map_map]
  congr 1
  · simp
  · refine List.map_congr_left fun i _ => ?_
    simp only [Function.comp, Nat.succ_eq_add_one]
    omega
theorem iv_app {lo mid hi : Int} (h1 : lo ≤ mid) (h2 : mid ≤ hi) : iv lo hi = iv lo mid ++ iv mid hi := by
  generalize hn : (mid - lo).toNat = n
  induction n generalizing lo with
  | zero =>
    have : mid = lo := by omega
    subst this
    rw [iv_nil (Int.le_refl _)]
    rfl
  | succ n ih =>
    rw [iv_cons (show lo < hi by omega), iv_cons (show lo < mid by omega), ih (lo := lo + 1) (by omega) (by omega)]
    rfl
def oneOf (L : List Int) (i : Int) : Int := (L[i.toNat]?).getD 0
theorem atI_ints {L : List Int} {i : Int} (h0 : 0 ≤ i) (h1 : i < L.length) : L2.atI (L.map PyData.int) i = some (.int (oneOf L i)) := by
  have h : i.toNat < L.length := by omega
  rw [atI_lt h0 (by rw [List.length_map]; exact h1), List.getElem?_map, List.getElem?_eq_getElem h]
  simp [oneOf, List.getElem?_eq_getElem h]
theorem oneOf_mem {L : List Int} {i : Int} (h0 : 0 ≤ i) (h1 : i < L.length) : oneOf L i ∈ L := by
  have h : i.toNat < L.length := by omega
  unfold oneOf
  rw [List.getElem?_eq_getElem h]
  exact List.getElem_mem h
inductive All2 {α β : Type} (R : α → β → Prop) : List α → List β → Prop
  | nil : All2 R [] []
  | cons {a : α} {b : β} {as : List α} {bs : List β} (h : R a b) (t : All2 R as bs) : All2 R (a :: as) (b :: bs)
/-! ### comprehensions -/
/-- each item gives an answer of its kind; those for which p holds -/
theorem comp_r {cond : Option Unit} {ec ee : AEnv → (AV → AEnv → Prop) → Prop} {tg : Tg} {own : List (Str × Nat)} (E : Option PyData → AEnv) (p : PyData → Bool) (R : PyData → PyData → Prop) (hw : ∀ x, wipeE (E (some x)) own = E none) :
    ∀ (ds : List PyData) (acc : List PyData) (env : AEnv) (Q : List PyData → AEnv → Prop), wipeE env own = E none →
    (∀ x ∈ ds, ∀ k : AEnv → Prop, k (E (some x)) → tgK tg x (E none) k) →
    (cond = none → ∀ x ∈ ds, p x = true) →
    (∀ x ∈ ds, cond ≠ none → ∀ q : AV → AEnv → Prop, q (.d (.bool (p x))) (E (some x)) → ec (E (some x)) q) →
    (∀ x ∈ ds, p x = true → ∀ q : AV → AEnv → Prop, (∀ y, R x y → q (.d y) (E (some x))) → ee (E (some x)) q) →
    (∀ ys env', (env' = env ∨ ∃ x, env' = E (some x)) → All2 R (ds.filter p) ys → Q (acc ++ ys) env') →
    compW cond ec ee tg own ds env acc Q
  | [], acc, env, Q, h0, ht, hn, hc, he, hQ => by
    have := hQ [] env (.inl rfl) .nil
    rw [List.append_nil] at this
    exact this
  | x :: ds, acc, env, Q, h0, ht, hn, hc, he, hQ => by
    unfold compW
    rw [h0]
    refine ht x List.mem_cons_self _ ?_
    have step : ∀ y, R x y → p x = true → compW cond ec ee tg own ds (E (some x)) (acc ++ [y]) Q := fun y hy hp => by
      refine comp_r E p R hw ds _ _ Q (hw x) (fun z hz => ht z (List.mem_cons_of_mem _ hz)) (fun q z hz => hn q z (List.mem_cons_of_mem _ hz)) (fun z hz => hc z (List.mem_cons_of_mem _ hz)) (fun z hz => he z (List.mem_cons_of_mem _ hz)) fun ys env' h1 h2 => ?_
      rw [List.append_assoc]
      refine hQ (y :: ys) env' (.inr ?_) ?_
      · rcases h1 with h1 | h1
        · exact ⟨x, h1⟩
        · exact h1
      · rw [List.filter_cons_of_pos hp]
        exact .cons hy h2
    have skip : p x = false → compW cond ec ee tg own ds (E (some x)) acc Q := fun hp => by
      refine comp_r E p R hw ds _ _ Q (hw x) (fun z hz => ht z (List.mem_cons_of_mem _ hz)) (fun q z hz => hn q z (List.mem_cons_of_mem _ hz)) (fun z hz => hc z (List.mem_cons_of_mem _ hz)) (fun z hz => he z (List.mem_cons_of_mem _ hz)) fun ys env' h1 h2 => ?_
      refine hQ ys env' (.inr ?_) ?_
      · rcases h1 with h1 | h1
        · exact ⟨x, h1⟩
        · exact h1
      · rw [List.filter_cons_of_neg (by simp [hp])]
        exact h2
    cases cond with
    | none => exact he x List.mem_cons_self (hn rfl x List.mem_cons_self) _ fun y hy => step y hy (hn rfl x List.mem_cons_self)
    | some u =>
      refine hc x List.mem_cons_self (by simp) _ ?_
      show (if p x = true then _ else _)
      split
      · rename_i hp
        exact he x List.mem_cons_self hp _ fun y hy => step y hy hp
      · rename_i hp
        exact skip (by simpa using hp)
theorem all2_eq {f : PyData → PyData} : ∀ {xs ys : List PyData}, All2 (fun x y => y = f x) xs ys → ys = xs.map f
  | _, _, .nil => rfl
  | _, _, .cons h t => by rw [h, all2_eq t]; rfl
/-- the same with one answer for each item, the slots as they were -/
theorem comp_f {cond : Option Unit} {ec ee : AEnv → (AV → AEnv → Prop) → Prop} {tg : Tg} {own : List (Str × Nat)} {env : AEnv} {ds : List PyData} {K : List PyData → AEnv → Prop} (E : Option PyData → AEnv) (p : PyData → Bool) (f : PyData → PyData)
    (h0 : wipeE env own = E none) (hw : ∀ x, wipeE (E (some x)) own = E none) (hb0 : backE env env own = env) (hb : ∀ x, backE env (E (some x)) own = env)
    (ht : ∀ x ∈ ds, ∀ k : AEnv → Prop, k (E (some x)) → tgK tg x (E none) k) (hn : cond = none → ∀ x ∈ ds, p x = true)
    (hc : ∀ x ∈ ds, cond ≠ none → ∀ q : AV → AEnv → Prop, q (.d (.bool (p x))) (E (some x)) → ec (E (some x)) q)
    (he : ∀ x ∈ ds, p x = true → ∀ q : AV → AEnv → Prop, q (.d (f x)) (E (some x)) → ee (E (some x)) q) (hQ : ∀ env', backE env env' own = env → K ((ds.filter p).map f) env') :
    compW cond ec ee tg own ds env [] K := by
  refine comp_r E p (fun x y => y = f x) hw ds [] env _ h0 ht hn hc (fun x hx hp q z => he x hx hp q (z _ rfl)) fun ys env' h1 h2 => ?_
  rw [all2_eq h2, List.nil_append]
  rcases h1 with rfl | ⟨x, rfl⟩
  · exact hQ _ hb0
  · exact hQ _ (hb x)
/-- the same with answers of a kind -/
theorem comp_k {cond : Option Unit} {ec ee : AEnv → (AV → AEnv → Prop) → Prop} {tg : Tg} {own : List (Str × Nat)} {env : AEnv} {ds : List PyData} {K : List PyData → AEnv → Prop} (E : Option PyData → AEnv) (p : PyData → Bool) (R : PyData → PyData → Prop)
    (h0 : wipeE env own = E none) (hw : ∀ x, wipeE (E (some x)) own = E none) (hb0 : backE env env own = env) (hb : ∀ x, backE env (E (some x)) own = env)
    (ht : ∀ x ∈ ds, ∀ k : AEnv → Prop, k (E (some x)) → tgK tg x (E none) k) (hn : cond = none → ∀ x ∈ ds, p x = true)
    (hc : ∀ x ∈ ds, cond ≠ none → ∀ q : AV → AEnv → Prop, q (.d (.bool (p x))) (E (some x)) → ec (E (some x)) q)
    (he : ∀ x ∈ ds, p x = true → ∀ q : AV → AEnv → Prop, (∀ y, R x y → q (.d y) (E (some x))) → ee (E (some x)) q) (hQ : ∀ ys env', All2 R (ds.filter p) ys → backE env env' own = env → K ys env') :
    compW cond ec ee tg own ds env [] K := by
  refine comp_r E p R hw ds [] env _ h0 ht hn hc he fun ys env' h1 h2 => ?_
  rw [List.nil_append]
  rcases h1 with rfl | ⟨x, rfl⟩
  · exact hQ _ _ h2 hb0
  · exact hQ _ _ h2 (hb x)
/-! ### bodies with their ends unseen -/
theorem body_LT {np n : Nat} {b : Ss} {f : LF} {m : f.Mono} (hl : ∀ l xs k, f l xs k → xs.length + 1 = np)
    (h : ∀ l xs (k : AV → List PyData → Prop), f l xs k → ∀ D : AEnds, (∀ v env l', getE env 0 = some (.o l') → k (.d v) l' → D.rt (.d v) env) → (∀ ds env l', getE env 0 = some (.o l') → k (.o ds) l' → D.rt (.o ds) env) → wSs X0 b (initE n (.o l :: xs.map AV.d)) D) : Body np n [0] b (spL f m) :=
  body_L hl fun l xs k hf => h l xs k hf _ (fun v env l' he z => by
    show retK [0] (.d v) env fun r' => endL env fun l' => k r' l'
    simp only [retK, endL, he]
    exact z) (fun v env l' he z => by
    show retK [0] (.o v) env fun r' => endL env fun l' => k r' l'
    simp only [retK, endL, he]
    exact z)
theorem body_WT {np n : Nat} {b : Ss} {f : WF} {m : f.Mono} (hl : ∀ xs k, f xs k → xs.length = np)
    (h : ∀ xs (k : AV → Prop), f xs k → ∀ D : AEnds, (∀ v env, k (.d v) → D.rt (.d v) env) → (∀ ds env, k (.o ds) → D.rt (.o ds) env) → (∀ env, k (.d .none) → D.nx env) → wSs X0 b (initE n (xs.map AV.d)) D) : Body np n [] b (spW f m) :=
  body_W hl fun xs k hf => h xs k hf _ (fun v env z => z) (fun v env z => z) (fun env z => z)
end NL

set_option maxRecDepth 100000
set_option maxHeartbeats 1000000
/-! NB: progressions, in plain numbers -/
namespace NL
open PySem PF
theorem gcd_step {x y : Int} : Int.gcd y (x % y) = Int.gcd x y := by
  have e : x % y = x - (x / y) * y := by
    have := Int.emod_add_mul_ediv x y
    have := Int.mul_comm y (x / y)
    omega
  rw [e, Int.gcd_sub_mul_right_right, Int.gcd_comm]
theorem gcd_posR {u v : Int} (hv : 0 < v) : 0 < ((Int.gcd u v : Nat) : Int) := by
  have := Int.gcd_pos_of_ne_zero_right u (show v ≠ 0 by omega)
  omega
theorem gcd_leR {u v : Int} (hv : 0 < v) : ((Int.gcd u v : Nat) : Int) ≤ v := Int.le_of_dvd hv (Int.gcd_dvd_right u v)
theorem cut_g {u v : Int} (hv : 0 < v) : ∃ g a b : Int, 0 < g ∧ g = Int.gcd u v ∧ u = g * a ∧ v = g * b ∧ u / Int.gcd u v = a ∧ v / Int.gcd u v = b ∧ 0 < b ∧ Int.gcd a b = 1 := by
  have gp := gcd_posR (u := u) hv
  obtain ⟨a, ha⟩ := Int.gcd_dvd_left u v
  obtain ⟨b, hb⟩ := Int.gcd_dvd_right u v
  have ea : u / Int.gcd u v = a := Int.ediv_eq_of_eq_mul_right (by omega) ha
  have eb : v / Int.gcd u v = b := Int.ediv_eq_of_eq_mul_right (by omega) hb
  refine ⟨_, a, b, gp, rfl, ha, hb, ea, eb, ?_, ?_⟩
  · rcases Int.lt_trichotomy b 0 with z | z | z
    · have := Int.mul_neg_of_pos_of_neg gp z
      omega
    · subst z; simp at hb; omega
    · exact z
  · have := Int.gcd_ediv_gcd_ediv_gcd (i := u) (j := v) (by omega)
    rw [ea, eb] at this
    exact this
theorem dvd_mod {L t x : Int} : L ∣ t - x % L ↔ L ∣ t - x := by
  have e := Int.emod_add_mul_ediv x L
  constructor
  · rintro ⟨k, h⟩; exact ⟨k - x / L, by grind⟩
  · rintro ⟨k, h⟩; exact ⟨k + x / L, by grind⟩
theorem dvd_cancel {g L x : Int} (hg : 0 < g) : g * L ∣ g * x ↔ L ∣ x := by
  constructor
  · rintro ⟨k, h⟩
    refine ⟨k, Int.eq_of_mul_eq_mul_left (a := g) (by omega) ?_⟩
    rw [h]; grind
  · rintro ⟨k, h⟩
    exact ⟨k, by rw [h]; grind⟩
/-- what time_in tells -/
theorem tim_some {g n L c r q t : Int} (hg : 0 < g) (hr : r * n = 1 + q * L) : g * L ∣ g * n * t - g * c ↔ L ∣ t - (c * r) % L := by
  rw [dvd_mod]
  have e : g * n * t - g * c = g * (n * t - c) := by grind
  rw [e, dvd_cancel hg]
  constructor
  · rintro ⟨k, h⟩
    exact ⟨r * k - q * t, by grind⟩
  · rintro ⟨k, h⟩
    refine ⟨n * k + c * q, ?_⟩
    have h1 : t = c * r + L * k := by omega
    subst h1
    grind
theorem tim_none {g n L b t : Int} (h : g * L ∣ g * n * t - b) : g ∣ b := by
  obtain ⟨k, h⟩ := h
  exact ⟨n * t - L * k, by grind⟩
/-- what both_in tells -/
theorem both_some {f1 f2 L1 L2 g M t x : Int} (hL : 0 < L1) (hM : L2 = g * M) (ht : ∀ s, L2 ∣ L1 * s - (f2 - f1) ↔ M ∣ s - t) : (L1 ∣ x - f1 ∧ L2 ∣ x - f2) ↔ L1 * M ∣ x - (f1 + t * L1) % (L1 * M) := by
  rw [dvd_mod]
  constructor
  · rintro ⟨⟨s, h1⟩, h2⟩
    have e : x - f2 = L1 * s - (f2 - f1) := by omega
    rw [e, ht] at h2
    obtain ⟨k, h2⟩ := h2
    exact ⟨k, by grind⟩
  · rintro ⟨k, h⟩
    have e : x - f1 = L1 * (t + M * k) := by grind
    refine ⟨⟨_, e⟩, ?_⟩
    have e2 : x - f2 = L1 * (t + M * k) - (f2 - f1) := by omega
    rw [e2, ht]
    exact ⟨k, by omega⟩
theorem both_none {f1 f2 L1 L2 x : Int} (ht : ∀ s, ¬ L2 ∣ L1 * s - (f2 - f1)) : ¬ (L1 ∣ x - f1 ∧ L2 ∣ x - f2) := by
  rintro ⟨⟨s, h1⟩, h2⟩
  have e : x - f2 = L1 * s - (f2 - f1) := by omega
  rw [e] at h2
  exact ht s h2
/-! ### common multiples -/
def lcm2 (w l : Int) : Int := w / Int.gcd w l * l
def lcmL (ls : List Int) : Int := ls.foldl lcm2 1
theorem lcm2_eq {w l : Int} (hl : 0 < l) : ∃ g M N : Int, 0 < g ∧ g = Int.gcd w l ∧ l = g * M ∧ w = g * N ∧ lcm2 w l = w * M ∧ l / Int.gcd w l = M ∧ 0 < M ∧ Int.gcd N M = 1 := by
  obtain ⟨g, a, b, gp, hg, ha, hb, ea, eb, bp, co⟩ := cut_g (u := w) hl
  refine ⟨g, b, a, gp, hg, hb, ha, ?_, eb, bp, co⟩
  unfold lcm2
  rw [ea]
  rw [hb, ha]
  grind
theorem lcm2_pos {w l : Int} (hw : 0 < w) (hl : 0 < l) : 0 < lcm2 w l := by
  obtain ⟨g, M, N, gp, hg, h1, hN, h2, h3, h4, co⟩ := lcm2_eq (w := w) hl
  rw [h2]
  exact Int.mul_pos hw h4
theorem lcm2_le {w l : Int} (hw : 0 < w) (hl : 0 < l) : lcm2 w l ≤ w * l := by
  obtain ⟨g, M, N, gp, hg, h1, hN, h2, h3, h4, co⟩ := lcm2_eq (w := w) hl
  rw [h2, h1]
  have : M ≤ g * M := by
    have := Int.mul_le_mul_of_nonneg_right (show 1 ≤ g by omega) (show 0 ≤ M by omega)
    omega
  exact Int.mul_le_mul_of_nonneg_left this (by omega)
theorem lcm2_left {w l : Int} (hl : 0 < l) : w ∣ lcm2 w l := by
  obtain ⟨g, M, N, gp, hg, h1, hN, h2, h3, h4, co⟩ := lcm2_eq (w := w) hl
  exact ⟨M, h2⟩
theorem lcm2_right {w l : Int} (hl : 0 < l) : l ∣ lcm2 w l := ⟨w / Int.gcd w l, by unfold lcm2; rw [Int.mul_comm]⟩
theorem lcm2_dvd {w l x : Int} (hl : 0 < l) (h1 : w ∣ x) (h2 : l ∣ x) : lcm2 w l ∣ x := by
  obtain ⟨g, M, N, gp, hg, e1, hN, e2, e3, e4, co⟩ := lcm2_eq (w := w) hl
  rw [e2]
  obtain ⟨k, rfl⟩ := h1
  obtain ⟨j, h2⟩ := h2
  have : M ∣ N * k := by
    refine ⟨j, Int.eq_of_mul_eq_mul_left (a := g) (by omega) ?_⟩
    rw [← Int.mul_assoc, ← hN, h2, e1]; grind
  have hd : M ∣ k := by
    refine Int.natAbs_dvd_natAbs.mp (Nat.Coprime.dvd_of_dvd_mul_left (k := M.natAbs) (m := N.natAbs) ?_ ?_)
    · rw [Int.gcd_comm] at co; exact co
    · have := Int.natAbs_dvd_natAbs.mpr this
      rwa [Int.natAbs_mul] at this
  obtain ⟨i, rfl⟩ := hd
  exact ⟨i, by grind⟩
theorem lcmL_snoc (ls : List Int) (l : Int) : lcmL (ls ++ [l]) = lcm2 (lcmL ls) l := by simp [lcmL, List.foldl_append]
theorem lcmL_nil : lcmL [] = 1 := rfl
theorem foldl_pos : ∀ {ls : List Int} {w : Int}, 0 < w → (∀ l ∈ ls, 0 < l) → 0 < ls.foldl lcm2 w
  | [], w, hw, _ => hw
  | l :: ls, w, hw, h => foldl_pos (ls := ls) (lcm2_pos hw (h l List.mem_cons_self)) fun x hx => h x (List.mem_cons_of_mem _ hx)
theorem lcmL_pos {ls : List Int} (h : ∀ l ∈ ls, 0 < l) : 0 < lcmL ls := foldl_pos (by decide) h
theorem foldl_dvd : ∀ {ls : List Int} {w x : Int}, (∀ l ∈ ls, 0 < l) → w ∣ x → (∀ l ∈ ls, l ∣ x) → ls.foldl lcm2 w ∣ x
  | [], w, x, _, hw, _ => hw
  | l :: ls, w, x, hp, hw, h => foldl_dvd (ls := ls) (fun y hy => hp y (List.mem_cons_of_mem _ hy)) (lcm2_dvd (hp l List.mem_cons_self) hw (h l List.mem_cons_self)) fun y hy => h y (List.mem_cons_of_mem _ hy)
theorem lcmL_dvd {ls : List Int} {x : Int} (hp : ∀ l ∈ ls, 0 < l) (h : ∀ l ∈ ls, l ∣ x) : lcmL ls ∣ x := foldl_dvd hp (Int.one_dvd x) h
theorem foldl_sz {n : Nat} : ∀ {ls : List Int} {w : Int} {m : Nat}, (∀ l ∈ ls, 0 < l ∧ sz n l) → 0 < w → sz m w → sz (m + n * ls.length) (ls.foldl lcm2 w)
  | [], w, m, _, _, s => s
  | l :: ls, w, m, h, hw, s => by
    obtain ⟨lp, ls'⟩ := h l List.mem_cons_self
    have := foldl_sz (ls := ls) (m := m + n) (fun x hx => h x (List.mem_cons_of_mem _ hx)) (lcm2_pos hw lp) ((s.mul ls').le (Int.le_of_lt (lcm2_pos hw lp)) (lcm2_le hw lp))
    refine this.mono ?_
    rw [List.length_cons, Nat.mul_add]
    omega
theorem lcmL_sz {n : Nat} {ls : List Int} (h : ∀ l ∈ ls, 0 < l ∧ sz n l) : sz (1 + n * ls.length) (lcmL ls) := foldl_sz (m := 1) h (by decide) (by unfold sz; decide)
def prodL (ls : List Int) : Int := ls.foldr (· * ·) 1
theorem prodL_cons (l : Int) (ls : List Int) : prodL (l :: ls) = l * prodL ls := rfl
theorem prodL_pos : ∀ {ls : List Int}, (∀ l ∈ ls, 0 < l) → 0 < prodL ls
  | [], _ => by decide
  | l :: ls, h => Int.mul_pos (h l List.mem_cons_self) (prodL_pos (ls := ls) fun x hx => h x (List.mem_cons_of_mem _ hx))
theorem prodL_app : ∀ (ds rs : List Int), prodL (ds ++ rs) = prodL ds * prodL rs
  | [], rs => by rw [List.nil_append]; show _ = 1 * prodL rs; rw [Int.one_mul]
  | d :: ds, rs => by rw [List.cons_append, prodL_cons, prodL_cons, prodL_app ds rs, Int.mul_assoc]
theorem foldl_le : ∀ {ls : List Int} {w : Int}, 0 < w → (∀ l ∈ ls, 0 < l) → ls.foldl lcm2 w ≤ w * prodL ls
  | [], w, hw, _ => by show w ≤ w * 1; omega
  | l :: ls, w, hw, h => by
    have lp := h l List.mem_cons_self
    have ht : ∀ x ∈ ls, 0 < x := fun x hx => h x (List.mem_cons_of_mem _ hx)
    have ih := foldl_le (ls := ls) (lcm2_pos hw lp) ht
    have := Int.mul_le_mul_of_nonneg_right (lcm2_le hw lp) (Int.le_of_lt (prodL_pos ht))
    rw [prodL_cons, ← Int.mul_assoc]
    exact Int.le_trans ih this
theorem lcmL_le {ls : List Int} (h : ∀ l ∈ ls, 0 < l) : lcmL ls ≤ prodL ls := by
  have := foldl_le (ls := ls) (w := 1) (by decide) h
  rw [Int.one_mul] at this
  exact this
theorem prodL_left {ds rs : List Int} (h1 : ∀ l ∈ ds, 0 < l) (h2 : ∀ l ∈ rs, 0 < l) : prodL ds ≤ prodL (ds ++ rs) := by
  rw [prodL_app]
  have p1 := prodL_pos h1
  have p2 := prodL_pos h2
  have := Int.mul_le_mul_of_nonneg_left (show 1 ≤ prodL rs by omega) (Int.le_of_lt p1)
  omega
theorem prodL_mem {ls : List Int} {l : Int} (h : ∀ l ∈ ls, 0 < l) (hl : l ∈ ls) : l ≤ prodL ls := by
  induction ls with
  | nil => cases hl
  | cons x ls ih =>
    have xp := h x List.mem_cons_self
    have ht : ∀ y ∈ ls, 0 < y := fun y hy => h y (List.mem_cons_of_mem _ hy)
    have tp := prodL_pos ht
    rw [prodL_cons]
    rcases List.mem_cons.mp hl with rfl | hl
    · have := Int.mul_le_mul_of_nonneg_left (show 1 ≤ prodL ls by omega) (Int.le_of_lt xp)
      omega
    · have := ih ht hl
      have := Int.mul_le_mul_of_nonneg_right (show 1 ≤ x by omega) (Int.le_of_lt tp)
      omega
theorem prodL_sz {n : Nat} : ∀ {ls : List Int}, (∀ l ∈ ls, sz n l) → sz (1 + n * ls.length) (prodL ls)
  | [], _ => by show sz _ 1; exact (sz_lit (n := 1) (by decide)).mono (by omega)
  | l :: ls, h => by
    rw [prodL_cons]
    refine ((h l List.mem_cons_self).mul (prodL_sz (ls := ls) fun x hx => h x (List.mem_cons_of_mem _ hx))).mono ?_
    rw [List.length_cons, Nat.mul_add]
    omega
theorem prodL_map {α : Type} {f g : α → Int} : ∀ {cs : List α}, (∀ c ∈ cs, 0 < f c ∧ f c ≤ g c) → prodL (cs.map f) ≤ prodL (cs.map g)
  | [], _ => Int.le_refl _
  | c :: cs, h => by
    rw [List.map_cons, List.map_cons, prodL_cons, prodL_cons]
    obtain ⟨h1, h2⟩ := h c List.mem_cons_self
    have ht : ∀ x ∈ cs, 0 < f x ∧ f x ≤ g x := fun x hx => h x (List.mem_cons_of_mem _ hx)
    have p1 : 0 < prodL (cs.map f) := prodL_pos fun l hl => by
      obtain ⟨x, hx, rfl⟩ := List.mem_map.mp hl
      exact (ht x hx).1
    exact Int.mul_le_mul h2 (prodL_map (cs := cs) ht) (by omega) (by omega)
/-! ### sums of progressions -/
/-- x lies in all of the rows exactly if W divides x - F -/
def Sol (P : Int → Prop) (F W : Int) : Prop := 0 ≤ F ∧ F < W ∧ ∀ x, P x ↔ W ∣ x - F
theorem dvd_small {W x : Int} (h : W ∣ x) (h1 : -W < x) (h2 : x < W) : x = 0 := by
  obtain ⟨k, rfl⟩ := h
  have hW : 0 < W := by omega
  rcases Int.lt_trichotomy k 0 with z | z | z
  · have : W * k ≤ W * (-1) := Int.mul_le_mul_of_nonneg_left (by omega) (by omega)
    omega
  · subst z; simp
  · have : W * 1 ≤ W * k := Int.mul_le_mul_of_nonneg_left (by omega) (by omega)
    omega
theorem Sol.uniq {P : Int → Prop} {F W y : Int} (h : Sol P F W) (hy : P y) : F = y % W := by
  obtain ⟨h1, h2, h3⟩ := h
  have hd := (h3 y).mp hy
  have hW : 0 < W := by omega
  have e1 := Int.emod_nonneg y (show W ≠ 0 by omega)
  have e2 := Int.emod_lt_of_pos y hW
  have e3 := Int.emod_add_mul_ediv y W
  have : W ∣ y % W - F := by
    obtain ⟨k, hd⟩ := hd
    exact ⟨k - y / W, by grind⟩
  have := dvd_small this (by omega) (by omega)
  omega
/-! ### which numbers of a range -/
theorem filter_none {p : Int → Bool} {lo hi : Int} (h : ∀ t, lo ≤ t → t < hi → p t = false) : (iv lo hi).filter p = [] := by
  refine List.filter_eq_nil_iff.mpr fun t ht => ?_
  obtain ⟨a, b⟩ := mem_iv.mp ht
  simp [h t a b]
theorem filter_one {p : Int → Bool} {lo hi F : Int} (h1 : lo ≤ F) (h2 : F < hi) (hF : p F = true) (h : ∀ t, lo ≤ t → t < hi → t ≠ F → p t = false) : (iv lo hi).filter p = [F] := by
  rw [iv_app h1 (show F ≤ hi by omega), iv_cons h2, List.filter_append, List.filter_cons_of_pos hF, filter_none (fun t a b => h t a (by omega) (by omega)), filter_none (fun t a b => h t (by omega) b (by omega))]
  rfl
theorem filter_prog {W F : Int} (h0 : 0 ≤ F) (h1 : F < W) {p : Int → Bool} (hp : ∀ t, p t = true ↔ W ∣ t - F) : ∀ c : Nat, (iv 0 (W * c)).filter p = (List.range c).map fun (i : Nat) => F + (i : Int) * W
  | 0 => by rw [iv_nil (by simp)]; rfl
  | c + 1 => by
    have hc : (0 : Int) ≤ W * c := Int.mul_nonneg (by omega) (by omega)
    have e : W * ((c + 1 : Nat) : Int) = W * c + W := by grind
    rw [e, iv_app hc (by omega), List.filter_append, filter_prog h0 h1 hp c, List.range_succ, List.map_append]
    congr 1
    have key : (iv (W * c) (W * c + W)).filter p = [F + (c : Int) * W] := by
      have e2 : (c : Int) * W = W * c := Int.mul_comm _ _
      refine filter_one (by omega) (by omega) ((hp _).mpr ⟨c, by omega⟩) fun t a b ne => ?_
      cases q : p t with
      | false => rfl
      | true =>
        obtain ⟨k, hk⟩ := (hp t).mp q
        have : t - F - W * c = 0 := dvd_small (W := W) ⟨k - c, by grind⟩ (by omega) (by omega)
        omega
    rw [key]
    rfl
end NL

set_option maxRecDepth 100000
set_option maxHeartbeats 1000000
/-! NX: walks of defs that may raise -/
namespace PF
open PySem
theorem body_XT {np n : Nat} {b : Ss} {f : WFX} {m : f.Mono} (hl : ∀ xs k e, f xs k e → xs.length = np)
    (h : ∀ xs (k : AV → Prop) (e : Str → Prop), f xs k e → ∀ D : AEnds, (∀ v env, k (.d v) → D.rt (.d v) env) → (∀ ds env, k (.o ds) → D.rt (.o ds) env) → (∀ env, k (.d .none) → D.nx env) → wSs (fun c _ => e c) b (initE n (xs.map AV.d)) D) : BodyX np n [] b (spX f m) :=
  body_X hl fun xs k e hf => h xs k e hf _ (fun _ _ z => z) (fun _ _ z => z) (fun _ z => z)
section
variable {f : WFX} {m : f.Mono} {a b c d e g i j : PyData} {env : AEnv} {Q : AV → AEnv → Prop} {X : XQ}
theorem call_X1 : (lent [.d a] = [] ∧ callK (spX f m) [.d a] env Q X) ↔ f [a] (fun r => Q r env) (fun c => X c env) := call_X rfl
theorem call_X2 : (lent [.d a, .d b] = [] ∧ callK (spX f m) [.d a, .d b] env Q X) ↔ f [a, b] (fun r => Q r env) (fun c => X c env) := call_X rfl
theorem call_X3 : (lent [.d a, .d b, .d c] = [] ∧ callK (spX f m) [.d a, .d b, .d c] env Q X) ↔ f [a, b, c] (fun r => Q r env) (fun c => X c env) := call_X rfl
theorem call_X4 : (lent [.d a, .d b, .d c, .d d] = [] ∧ callK (spX f m) [.d a, .d b, .d c, .d d] env Q X) ↔ f [a, b, c, d] (fun r => Q r env) (fun c => X c env) := call_X rfl
theorem call_X5 : (lent [.d a, .d b, .d c, .d d, .d e] = [] ∧ callK (spX f m) [.d a, .d b, .d c, .d d, .d e] env Q X) ↔ f [a, b, c, d, e] (fun r => Q r env) (fun c => X c env) := call_X rfl
theorem call_X8 : (lent [.d a, .d b, .d c, .d d, .d e, .d g, .d i, .d j] = [] ∧ callK (spX f m) [.d a, .d b, .d c, .d d, .d e, .d g, .d i, .d j] env Q X) ↔ f [a, b, c, d, e, g, i, j] (fun r => Q r env) (fun c => X c env) := call_X rfl
theorem ins_n {ts : List (Str × Bool)} {k : Bool → Prop} : insK .none ts k = k false := rfl
theorem ins_o {x : Str} {ts : List (Str × Bool)} {k : Bool → Prop} : insK (objD x) ts k = (match ts.lookup x with | some b => k b | Option.none => False) := rfl
end
end PF

set_option maxRecDepth 100000
set_option maxHeartbeats 1000000
namespace K00
open PySem PF NL
local macro_rules | `(tactic| simp! only [$ts,*]) => `(tactic| simp -implicitDefEqProofs only [V.e_un, V.u_len, V.u_mk, V.u_att, V.u_vA, V.u_vM, V.e_mkA, V.e_ixS, V.rd_d, V.rd_o, V.rd_b, V.da_d, V.da_o, V.das_n, V.das_c, V.rds_n, V.rds_c, V.tr_b, V.tr_i, V.tr_n, V.tr_l, V.tr_t, V.tr_o, V.bn_add, V.bn_sub, V.bn_mul, V.bn_fdiv, V.bn_mod, V.bn_pow, V.bn_cat, V.cp_eq, V.cp_ne, V.cp_lt, V.cp_le, V.cp_gt, V.cp_ge, V.cp_in, V.cp_nin, V.cp_eqEl, V.cp_neEl, V.cp_eqEt, V.cp_neEt, V.is_n, V.isn_n, V.is_b, V.isn_b, V.is_i, V.isn_i, V.is_s, V.isn_s, V.is_l, V.isn_l, V.is_t, V.isn_t, V.is_bb, V.isn_bb, V.ix_l, V.ix_t, V.sl_l, V.bi_len, V.bi_lent, V.bi_abs, V.bi_max2, V.bi_min2, V.bi_int, V.bi_intb, V.bi_list, V.bi_listt, V.bi_tup, V.bi_tupt, V.bi_sum, V.bi_any, V.bi_all, V.bi_min1, V.bi_max1, V.bi_sorted, V.bi_repr, V.bn_catt, V.sl_t, V.e_ixOf, V.e_ssort, V.s_parH, V.s_parI, V.e_din, V.e_dkeys, V.e_dsort, V.s_parG, V.s_dnewP, V.it_zip3, V.s_dnew, V.s_dset, V.dc_0, V.dc_1, V.dc_2, V.dc_3, V.dc_4, V.dc_5, V.dc_6, V.dc_7, V.dc_8, V.dc_9, V.dc_10, V.dc_11, V.dc_12, V.dc_13, V.dc_14, V.dc_15, V.sq_d, V.sq_t, V.sq_o, V.ls_d, V.ls_o, V.tg_n, V.tg_t, V.vd_0, V.vo_0, V.vd_1, V.vo_1, V.vd_2, V.vo_2, V.vd_3, V.vo_3, V.vd_4, V.vo_4, V.vd_5, V.vo_5, V.vd_6, V.vo_6, V.vd_7, V.vo_7, V.vd_8, V.vo_8, V.vd_9, V.vo_9, V.vd_10, V.vo_10, V.vd_11, V.vo_11, V.vd_12, V.vo_12, V.vd_13, V.vo_13, V.vd_14, V.vo_14, V.vd_15, V.vo_15, V.e_int, V.e_bool, V.e_none, V.e_str, V.e_glob, V.e_bin, V.e_not, V.e_and, V.e_or, V.e_cmp, V.e_chain, V.e_ife, V.e_tup, V.e_lst, V.e_ix, V.e_call, V.e_mkE, V.e_callR, V.e_callM, V.s_unpP, V.pr_p, V.rd_p, V.da_p, V.e_callK, V.e_bi, V.e_inst, V.e_instC, V.r_e, V.r_call, V.r_callK, V.r_ife, V.s_rexpr, V.s_rret, V.s_raiseX, V.s_raise, V.s_tryC, ins_n, call_X1, call_X2, call_X3, call_X4, call_X5, call_X8, V.e_comp, V.ng, V.e_neg, V.e_slU, V.e_slRev, V.rv_l, V.it_r3, V.e_slL, V.e_lrg1, V.e_lrg3, V.es_n, V.es_c, V.it_seq, V.it_r1, V.it_r2, V.it_en, V.it_zip, V.ss_n, V.ss_c, V.s_asgF, V.kp_d, V.kp_o, V.s_asg, V.s_par, V.s_parN, V.tp_d, V.s_unp, V.s_expr, V.s_ret, V.s_retN, V.s_ite, V.s_for, V.s_pass, V.s_brk, V.s_cont, V.fz_0, V.ow_0, V.ap_0, V.fz_1, V.ow_1, V.ap_1, V.fz_2, V.ow_2, V.ap_2, V.fz_3, V.ow_3, V.ap_3, V.fz_4, V.ow_4, V.ap_4, V.fz_5, V.ow_5, V.ap_5, V.fz_6, V.ow_6, V.ap_6, V.fz_7, V.ow_7, V.ap_7, V.fz_8, V.ow_8, V.ap_8, V.fz_9, V.ow_9, V.ap_9, V.fz_10, V.ow_10, V.ap_10, V.fz_11, V.ow_11, V.ap_11, V.fz_12, V.ow_12, V.ap_12, V.fz_13, V.ow_13, V.ap_13, V.fz_14, V.ow_14, V.ap_14, V.fz_15, V.ow_15, V.ap_15, getE, setE, setMany, setNils, isTy, tyOf, List.map_cons, List.map_nil, List.length_cons, List.length_nil, List.cons_append, List.nil_append, List.append_nil, Nat.reduceSub, Nat.reduceAdd, atI_0, atI_1, atI_2, call_W5, call_W4, call_W2, call_W2o, call_W1, call_W1o, call_W0, call_W3, call_L0, call_L1, call_L1o, call_L2, call_L3, Option.some.injEq, $ts,*])
/-! ### the classes -/
def TX : List Str := [("InvalidNumber" : Str), ("InvalidCount" : Str), ("InvalidIndex" : Str), ("InvalidTurn" : Str), ("InvalidProgression" : Str), ("InvalidProgressions" : Str), ("InvalidCongruence" : Str), ("InvalidGrain" : Str), ("InvalidSteps" : Str), ("InvalidSpot" : Str), ("InvalidMachine" : Str), ("InvalidFamily" : Str), ("InvalidGear" : Str), ("InvalidGears" : Str), ("InvalidShaft" : Str), ("InvalidWheel" : Str), ("InvalidState" : Str), ("InvalidTeeth" : Str), ("InvalidTooth" : Str), ("InvalidFraction" : Str), ("InvalidPlace" : Str), ("InvalidRoots" : Str), ("InvalidRows" : Str), ("InvalidPen" : Str), ("InvalidPens" : Str), ("InvalidSession" : Str), ("InvalidClaim" : Str), ("InvalidOffers" : Str), ("InvalidChoice" : Str), ("InvalidLooks" : Str), ("InvalidAsked" : Str), ("NoTime" : Str), ("NotTold" : Str), ("NotDriven" : Str), ("NotFitting" : Str), ("NotOpen" : Str), ("NotSure" : Str), ("NotPlain" : Str), ("TooMany" : Str), ("Refused" : Str), ("NothingToUndo" : Str), ("NoBlock" : Str), ("InvalidCommand" : Str), ("NotReady" : Str)]
def CLT : List Str := "WheelError" :: CLS
def tsOf (d : Str) : List (Str × Bool) := CLT.map fun c => (c, decide (c = d))
def tsW : List (Str × Bool) := CLT.map fun c => (c, true)
/-- an exception object of the class c -/
def Ob (c : Str) (x : PyData) : Prop := (∃ s : Str, x = objM c s) ∨ ∃ (f : Str) (v : PyData), x = objA c f v
theorem look_map {g : Str → Bool} {c : Str} : ∀ {l : List Str}, c ∈ l → (l.map fun c => (c, g c)).lookup c = some (g c)
  | [], h => nomatch h
  | d :: l, h => by
    rw [List.map_cons, List.lookup_cons]
    by_cases e : c = d
    · subst e
      simp
    · rw [show (c == d) = false from by simpa using e]
      rcases List.mem_cons.mp h with z | z
      · exact absurd z e
      · exact look_map z
theorem ins_of {c d : Str} {x : PyData} {k : Bool → Prop} (h : Ob c x) (hc : c ∈ CLT) : insK x (tsOf d) k = k (decide (c = d)) := by
  have e : (tsOf d).lookup c = some (decide (c = d)) := look_map (g := fun c => decide (c = d)) hc
  rcases h with ⟨s, rfl⟩ | ⟨f, v, rfl⟩
  · unfold objM insK
    dsimp only
    rw [e]
  · unfold objA insK
    dsimp only
    rw [e]
theorem ins_W {c : Str} {x : PyData} {k : Bool → Prop} (h : Ob c x) (hc : c ∈ CLT) : insK x tsW k = k true := by
  have e : tsW.lookup c = some true := look_map (g := fun _ => true) hc
  rcases h with ⟨s, rfl⟩ | ⟨f, v, rfl⟩
  · unfold objM insK
    dsimp only
    rw [e]
  · unfold objA insK
    dsimp only
    rw [e]
theorem un_V {c : Str} {x : PyData} {k : PyData → Prop} (h : Ob c x) : unK .instV x k = k (.bool true) := by
  rcases h with ⟨s, rfl⟩ | ⟨f, v, rfl⟩ <;> rfl
def truths (c : Str) : List PyData := CLS.map fun d => .bool (decide (c = d))
/-! ### the draws -/
def Urn (n : Nat) (l : List PyData) : Prop := ∃ a b c : Int, l = [.int a, .int b, .int c] ∧ 0 ≤ a ∧ (0 ≤ b ∧ b < 10 ^ 40) ∧ 0 ≤ c ∧ c ≤ n
theorem Urn.mono {n m : Nat} {l : List PyData} (h : Urn n l) (e : n ≤ m) : Urn m l := by
  obtain ⟨a, b, c, h1, h2, h3, h4, h5⟩ := h
  exact ⟨a, b, c, h1, h2, h3, h4, by omega⟩
def w__law_lot_of : WF
  | [.int _], k => ∀ l, Urn 1 l → k (.o l)
  | _, _ => False
theorem m__law_lot_of : w__law_lot_of.Mono := by
  intro xs k k' h q
  unfold w__law_lot_of at q ⊢
  split at q
  · exact fun l hl => h _ (q l hl)
  · exact q.elim
def sp__law_lot_of : ASp := spW w__law_lot_of m__law_lot_of
def b__law_lot_of : Ss := (.cons (.ret (.lst (.cons (.bi .max2 (.cons (.int 0) (.cons (.bin .sub (.var 0) (.bin .pow (.int 10) (.int 18))) .nil))) (.cons (.bin .mod (.bi .int (.cons (.var 0) .nil)) (.bin .add (.bin .pow (.int 10) (.int 37)) (.int 43))) (.cons (.int 1) .nil)))))
  .nil)
theorem p__law_lot_of : Body 1 1 [] b__law_lot_of sp__law_lot_of := by
  refine body_W (fun xs k h => ?_) fun xs k h => ?_
  · unfold w__law_lot_of at h; split at h
    · rfl
    · exact h.elim
  unfold w__law_lot_of at h
  split at h
  case h_2 => exact h.elim
  rename_i c
  unfold b__law_lot_of
  simp only [initE, List.map_cons, List.map_nil, List.length_cons, List.length_nil, Nat.reduceAdd, Nat.reduceSub, List.replicate, List.cons_append, List.nil_append]
  simp only [wSs, wS, wEs, wE, wIt, getE, setE, rdsK, rdK, biK, datasK, dataK, setMany, setNils, cmpK, binK, truthK, truth, ixK, tgK, seqK, lstK, retK, isTy, tyOf, endL, List.map_cons, List.map_nil, List.length_cons, List.length_nil, List.cons_append, List.nil_append, List.append_nil, Nat.reduceSub, Nat.reduceAdd, atI_0, atI_1, atI_2, set_0, set_2, call_W5, call_W4, call_W2, call_W2o, call_W1, call_W1o, call_W0, call_W3, call_L0, call_L1, call_L1o, call_L2, call_L3, Option.some.injEq]
  refine ⟨s10.pow (by decide) (by decide), s10.pow (by decide) (by decide), by decide, ?_⟩
  rw [fmod_p (by decide)]
  have h1 := Int.emod_nonneg c (show (10 : Int) ^ Int.toNat 37 + 43 ≠ 0 by decide)
  have h2 := Int.emod_lt_of_pos c (show 0 < (10 : Int) ^ Int.toNat 37 + 43 by decide)
  have h3 : (10 : Int) ^ Int.toNat 37 + 43 < 10 ^ 40 := by decide
  refine h _ ⟨_, _, _, rfl, ?_, ⟨h1, by omega⟩, by decide, by decide⟩
  split <;> omega
def w__law_lift : LF := fun l xs k => ∃ (n : Nat) (many : Int), xs = [.int many] ∧ Urn n l ∧ n < 1000000000 ∧ 0 < many ∧ sz 2000 many ∧ ∀ r l', 0 ≤ r → r < many → Urn (n + 1) l' → k (.d (.int r)) l'
theorem m__law_lift : w__law_lift.Mono := fun l xs k k' h ⟨n, many, h1, h2, h3, h4, h5, h6⟩ => ⟨n, many, h1, h2, h3, h4, h5, fun r l' a b c => h _ _ (h6 r l' a b c)⟩
def sp__law_lift : ASp := spL w__law_lift m__law_lift
def u__law_lift_1 : Ss := (.cons (.ret (.var 3))
  .nil)
def u__law_lift_2 : Ss := (.cons (.setIx 0 (.int 0) (.bin .fdiv (.ix (.var 0) (.int 0)) (.var 1)))
  u__law_lift_1)
def b__law_lift_5 : Ss := (.cons (.ret (.bin .mod (.bi .int (.cons (.bin .fdiv (.var 2) (.int 104729)) .nil)) (.var 1))) .nil)
def b__law_lift_4 : Ss := (.cons (.asgF 2 (.bin .mod (.bi .int (.cons (.bin .add (.bin .mul (.var 2) (.var 2)) (.bin .mul (.int 7919) (.ix (.var 0) (.int 2)))) .nil)) (.bin .add (.bin .pow (.int 10) (.int 40)) (.int 121)))) b__law_lift_5)
def b__law_lift_3 : Ss := (.cons (.asgF 2 (.bin .mod (.bi .int (.cons (.bin .pow (.bin .add (.ix (.var 0) (.int 1)) (.bin .mul (.int 48611) (.ix (.var 0) (.int 2)))) (.int 3)) .nil)) (.bin .add (.bin .pow (.int 10) (.int 41)) (.int 37)))) b__law_lift_4)
def b__law_lift_2 : Ss := (.cons (.setIx 0 (.int 2) (.bin .add (.ix (.var 0) (.int 2)) (.int 1))) b__law_lift_3)
def b__law_lift : Ss := (.cons (.ite (.cmp .gt (.ix (.var 0) (.int 0)) (.int 0)) (.cons (.asgF 3 (.bin .mod (.bi .int (.cons (.ix (.var 0) (.int 0)) .nil)) (.var 1)))
  u__law_lift_2) .nil) b__law_lift_2)
theorem p__law_lift : Body 2 4 [0] b__law_lift sp__law_lift := by
  refine body_L (fun l xs k h => ?_) fun l xs k h => ?_
  · obtain ⟨n, many, rfl, _⟩ := h; rfl
  obtain ⟨n, m, rfl, ⟨a, b, c, rfl, ha, hb, hc, hcn⟩, hn, hm, sm, h⟩ := h
  unfold b__law_lift
  simp only [initE, List.map_cons, List.map_nil, List.length_cons, List.length_nil, Nat.reduceAdd, Nat.reduceSub, List.replicate, List.cons_append, List.nil_append]
  simp only [wSs, wS, wEs, wE, wIt, getE, setE, rdsK, rdK, biK, datasK, dataK, setMany, setNils, cmpK, binK, truthK, truth, ixK, tgK, seqK, lstK, retK, isTy, tyOf, endL, List.map_cons, List.map_nil, List.length_cons, List.length_nil, List.cons_append, List.nil_append, List.append_nil, Nat.reduceSub, Nat.reduceAdd, atI_0, atI_1, atI_2, set_0, set_2, call_W5, call_W4, call_W2, call_W2o, call_W1, call_W1o, call_W0, call_W3, call_L0, call_L1, call_L1o, call_L2, call_L3, Option.some.injEq]
  by_cases h0 : 0 < a
  · simp only [decide_eq_true h0, if_true]
    refine ⟨by omega, ?_⟩
    unfold u__law_lift_2
    simp only [wSs, wS, wEs, wE, wIt, getE, setE, rdsK, rdK, biK, datasK, dataK, setMany, setNils, cmpK, binK, truthK, truth, ixK, tgK, seqK, lstK, retK, isTy, tyOf, endL, List.map_cons, List.map_nil, List.length_cons, List.length_nil, List.cons_append, List.nil_append, List.append_nil, Nat.reduceSub, Nat.reduceAdd, atI_0, atI_1, atI_2, set_0, set_2, call_W5, call_W4, call_W2, call_W2o, call_W1, call_W1o, call_W0, call_W3, call_L0, call_L1, call_L1o, call_L2, call_L3, Option.some.injEq]
    refine ⟨sm.divOk (by decide) (by omega), ⟨by decide, by decide⟩, ?_⟩
    unfold u__law_lift_1
    simp only [wSs, wS, wEs, wE, wIt, getE, setE, rdsK, rdK, biK, datasK, dataK, setMany, setNils, cmpK, binK, truthK, truth, ixK, tgK, seqK, lstK, retK, isTy, tyOf, endL, List.map_cons, List.map_nil, List.length_cons, List.length_nil, List.cons_append, List.nil_append, List.append_nil, Nat.reduceSub, Nat.reduceAdd, atI_0, atI_1, atI_2, set_0, set_2, call_W5, call_W4, call_W2, call_W2o, call_W1, call_W1o, call_W0, call_W3, call_L0, call_L1, call_L1o, call_L2, call_L3, Option.some.injEq]
    rw [fmod_p hm, fdiv_p hm]
    refine h _ _ (Int.emod_nonneg _ (by omega)) (Int.emod_lt_of_pos _ hm) ⟨_, _, _, rfl, Int.ediv_nonneg ha (by omega), hb, hc, by omega⟩
  · simp only [decide_eq_false h0, Bool.false_eq_true, if_false]
    have s7 : sz 17 48611 := by unfold sz; decide
    have s6 : sz 17 7919 := by unfold sz; decide
    have sc : sz 31 (c + 1) := by unfold sz; omega
    have sb : sz 133 b := by
      unfold sz
      have : (10 : Int) ^ 40 = 10000000000000000000000000000000000000000 := by decide
      omega
    have s1 : sz 134 (b + 48611 * (c + 1)) := sb.add ((s7.mul sc).mono (by decide))
    have s2 : ∀ z : Int, sz 140 (z.fmod (10 ^ Int.toNat 41 + 37)) := fun z => by
      rw [fmod_p (by decide)]
      have h1 := Int.emod_nonneg z (show (10 : Int) ^ Int.toNat 41 + 37 ≠ 0 by decide)
      have h2 := Int.emod_lt_of_pos z (show 0 < (10 : Int) ^ Int.toNat 41 + 37 by decide)
      have h3 : (10 : Int) ^ Int.toNat 41 + 37 = 100000000000000000000000000000000000000037 := by decide
      unfold sz
      omega
    unfold b__law_lift_2
    simp only [wSs, wS, wEs, wE, wIt, getE, setE, rdsK, rdK, biK, datasK, dataK, setMany, setNils, cmpK, binK, truthK, truth, ixK, tgK, seqK, lstK, retK, isTy, tyOf, endL, List.map_cons, List.map_nil, List.length_cons, List.length_nil, List.cons_append, List.nil_append, List.append_nil, Nat.reduceSub, Nat.reduceAdd, atI_0, atI_1, atI_2, set_0, set_2, call_W5, call_W4, call_W2, call_W2o, call_W1, call_W1o, call_W0, call_W3, call_L0, call_L1, call_L1o, call_L2, call_L3, Option.some.injEq]
    refine ⟨⟨by decide, by decide⟩, ?_⟩
    unfold b__law_lift_3
    simp only [wSs, wS, wEs, wE, wIt, getE, setE, rdsK, rdK, biK, datasK, dataK, setMany, setNils, cmpK, binK, truthK, truth, ixK, tgK, seqK, lstK, retK, isTy, tyOf, endL, List.map_cons, List.map_nil, List.length_cons, List.length_nil, List.cons_append, List.nil_append, List.append_nil, Nat.reduceSub, Nat.reduceAdd, atI_0, atI_1, atI_2, set_0, set_2, call_W5, call_W4, call_W2, call_W2o, call_W1, call_W1o, call_W0, call_W3, call_L0, call_L1, call_L1o, call_L2, call_L3, Option.some.injEq]
    refine ⟨s7.mulOk sc (by decide), s1.pow (by decide) (by decide), s10.pow (by decide) (by decide), by decide, ?_⟩
    unfold b__law_lift_4
    simp only [wSs, wS, wEs, wE, wIt, getE, setE, rdsK, rdK, biK, datasK, dataK, setMany, setNils, cmpK, binK, truthK, truth, ixK, tgK, seqK, lstK, retK, isTy, tyOf, endL, List.map_cons, List.map_nil, List.length_cons, List.length_nil, List.cons_append, List.nil_append, List.append_nil, Nat.reduceSub, Nat.reduceAdd, atI_0, atI_1, atI_2, set_0, set_2, call_W5, call_W4, call_W2, call_W2o, call_W1, call_W1o, call_W0, call_W3, call_L0, call_L1, call_L1o, call_L2, call_L3, Option.some.injEq]
    refine ⟨(s2 _).mulOk (s2 _) (by decide), s6.mulOk sc (by decide), s10.pow (by decide) (by decide), by decide, ?_⟩
    unfold b__law_lift_5
    simp only [wSs, wS, wEs, wE, wIt, getE, setE, rdsK, rdK, biK, datasK, dataK, setMany, setNils, cmpK, binK, truthK, truth, ixK, tgK, seqK, lstK, retK, isTy, tyOf, endL, List.map_cons, List.map_nil, List.length_cons, List.length_nil, List.cons_append, List.nil_append, List.append_nil, Nat.reduceSub, Nat.reduceAdd, atI_0, atI_1, atI_2, set_0, set_2, call_W5, call_W4, call_W2, call_W2o, call_W1, call_W1o, call_W0, call_W3, call_L0, call_L1, call_L1o, call_L2, call_L3, Option.some.injEq]
    refine ⟨⟨by decide, by decide⟩, by omega, ?_⟩
    rw [fmod_p hm]
    exact h _ _ (Int.emod_nonneg _ (by omega)) (Int.emod_lt_of_pos _ hm) ⟨_, _, _, rfl, ha, hb, by omega, by omega⟩
theorem sz_n {n : Nat} (h : n < 1000000000) : sz 2000 (n : Int) := by
  have : sz 40 (n : Int) := by unfold sz; omega
  exact this.mono (by decide)
def w__law_of : LF := fun l xs k => ∃ (n : Nat) (ts : List PyData), xs = [.list ts] ∧ Urn n l ∧ n < 1000000000 ∧ 0 < ts.length ∧ ts.length < 1000000 ∧ ∀ x l', x ∈ ts → Urn (n + 1) l' → k (.d x) l'
theorem m__law_of : w__law_of.Mono := fun l xs k k' h ⟨n, ts, h1, h2, h3, h4, h5, h6⟩ => ⟨n, ts, h1, h2, h3, h4, h5, fun r l' a b => h _ _ (h6 r l' a b)⟩
def sp__law_of : ASp := spL w__law_of m__law_of
def b__law_of : Ss := (.cons (.ret (.ix (.var 1) (.call "_law_lift" sp__law_lift (.cons (.var 0) (.cons (.bi .len (.cons (.var 1) .nil)) .nil)))))
  .nil)
theorem p__law_of : Body 2 2 [0] b__law_of sp__law_of := by
  refine body_L (fun l xs k h => ?_) fun l xs k h => ?_
  · obtain ⟨n, many, rfl, _⟩ := h; rfl
  obtain ⟨n, ts, rfl, hu, hn, hp, hl, h⟩ := h
  unfold b__law_of
  simp only [initE, List.map_cons, List.map_nil, List.length_cons, List.length_nil, Nat.reduceAdd, Nat.reduceSub, List.replicate, List.cons_append, List.nil_append]
  simp only [wSs, wS, wEs, wE, wIt, getE, setE, rdsK, rdK, biK, datasK, dataK, setMany, setNils, cmpK, binK, truthK, truth, ixK, tgK, seqK, lstK, retK, isTy, tyOf, endL, List.map_cons, List.map_nil, List.length_cons, List.length_nil, List.cons_append, List.nil_append, List.append_nil, Nat.reduceSub, Nat.reduceAdd, atI_0, atI_1, atI_2, set_0, set_2, call_W5, call_W4, call_W2, call_W2o, call_W1, call_W1o, call_W0, call_W3, call_L0, call_L1, call_L1o, call_L2, call_L3, Option.some.injEq, sp__law_lift]
  refine ⟨n, _, rfl, hu, hn, by omega, sz_n (by omega), fun r l' r0 r1 hu' => ?_⟩
  have hi : r.toNat < ts.length := by omega
  simp only [wSs, wS, wEs, wE, wIt, getE, setE, rdsK, rdK, biK, datasK, dataK, setMany, setNils, cmpK, binK, truthK, truth, ixK, tgK, seqK, lstK, retK, isTy, tyOf, endL, List.map_cons, List.map_nil, List.length_cons, List.length_nil, List.cons_append, List.nil_append, List.append_nil, Nat.reduceSub, Nat.reduceAdd, atI_0, atI_1, atI_2, set_0, set_2, call_W5, call_W4, call_W2, call_W2o, call_W1, call_W1o, call_W0, call_W3, call_L0, call_L1, call_L1o, call_L2, call_L3, Option.some.injEq]
  rw [atI_lt r0 r1, List.getElem?_eq_getElem hi]
  exact h _ _ (List.getElem_mem hi) hu'
theorem p20 : (10 : Int) ^ Int.toNat 20 = 100000000000000000000 := by decide
def w__law_great : LF := fun l xs k => ∃ n : Nat, xs = [] ∧ Urn n l ∧ n < 100000000 ∧ ∀ x l', 0 ≤ x → x < 10 ^ 40 → Urn (n + 2) l' → k (.d (.int x)) l'
theorem m__law_great : w__law_great.Mono := fun l xs k k' h ⟨n, h1, h2, h3, h4⟩ => ⟨n, h1, h2, h3, fun x l' y z u => h _ _ (h4 x l' y z u)⟩
def sp__law_great : ASp := spL w__law_great m__law_great
def b__law_great : Ss := (.cons (.ret (.bin .add (.bin .mul (.call "_law_lift" sp__law_lift (.cons (.var 0) (.cons (.bin .pow (.int 10) (.int 20)) .nil))) (.bin .pow (.int 10) (.int 20))) (.call "_law_lift" sp__law_lift (.cons (.var 0) (.cons (.bin .pow (.int 10) (.int 20)) .nil)))))
  .nil)
theorem p__law_great : Body 1 1 [0] b__law_great sp__law_great := by
  refine body_L (fun l xs k h => ?_) fun l xs k h => ?_
  · obtain ⟨n, rfl, _⟩ := h; rfl
  obtain ⟨n, rfl, hu, hn, h⟩ := h
  have s20 : sz 70 (10 ^ Int.toNat 20) := by unfold sz; decide
  have pw := s10.pow (e := 20) (by decide) (by decide)
  unfold b__law_great
  simp only [initE, List.map_cons, List.map_nil, List.length_cons, List.length_nil, Nat.reduceAdd, Nat.reduceSub, List.replicate, List.cons_append, List.nil_append]
  simp only [wSs, wS, wEs, wE, wIt, getE, setE, rdsK, rdK, biK, datasK, dataK, setMany, setNils, cmpK, binK, truthK, truth, ixK, tgK, seqK, lstK, retK, isTy, tyOf, endL, List.map_cons, List.map_nil, List.length_cons, List.length_nil, List.cons_append, List.nil_append, List.append_nil, Nat.reduceSub, Nat.reduceAdd, atI_0, atI_1, atI_2, set_0, set_2, call_W5, call_W4, call_W2, call_W2o, call_W1, call_W1o, call_W0, call_W3, call_L0, call_L1, call_L1o, call_L2, call_L3, Option.some.injEq, sp__law_lift]
  refine ⟨pw, n, _, rfl, hu, by omega, by decide, s20.mono (by decide), fun r l1 r0 r1 hu1 => ?_⟩
  refine ⟨pw, (s20.le r0 (by omega)).mulOk s20 (by decide), pw, n + 1, _, rfl, hu1, by omega, by decide, s20.mono (by decide), fun s l2 q0 q1 hu2 => ?_⟩
  have e40 : (10 : Int) ^ 40 = 10000000000000000000000000000000000000000 := by decide
  rw [p20] at r1 q1 ⊢
  exact h _ _ (by omega) (by omega) hu2
def w__law_far : LF := fun l xs k => ∃ n : Nat, xs = [] ∧ Urn n l ∧ n < 10000000 ∧ ∀ x l', 0 ≤ x → x < 10 ^ 40 → Urn (n + 3) l' → k (.d (.int x)) l'
theorem m__law_far : w__law_far.Mono := fun l xs k k' h ⟨n, h1, h2, h3, h4⟩ => ⟨n, h1, h2, h3, fun x l' y z u => h _ _ (h4 x l' y z u)⟩
def sp__law_far : ASp := spL w__law_far m__law_far
def b__law_far_3 : Ss := (.cons (.ret (.ife (.cmp .eq (.var 1) (.int 2)) (.call "_law_lift" sp__law_lift (.cons (.var 0) (.cons (.bin .pow (.int 10) (.int 12)) .nil))) (.call "_law_great" sp__law_great (.cons (.var 0) .nil)))) .nil)
def b__law_far_2 : Ss := (.cons (.ite (.cmp .lt (.var 1) (.int 2)) (.cons (.ret (.call "_law_lift" sp__law_lift (.cons (.var 0) (.cons (.int 50) .nil))))
  .nil) .nil) b__law_far_3)
def b__law_far : Ss := (.cons (.asgF 1 (.call "_law_lift" sp__law_lift (.cons (.var 0) (.cons (.int 4) .nil)))) b__law_far_2)
theorem p__law_far : Body 1 2 [0] b__law_far sp__law_far := by
  refine body_L (fun l xs k h => ?_) fun l xs k h => ?_
  · obtain ⟨n, rfl, _⟩ := h; rfl
  obtain ⟨n, rfl, hu, hn, h⟩ := h
  have sl : ∀ x : Int, 0 < x → x ≤ 10 ^ Int.toNat 12 → sz 2000 x := fun x h1 h2 => by
    have : sz 70 (10 ^ Int.toNat 12) := by unfold sz; decide
    exact (this.le (by omega) h2).mono (by decide)
  have e40 : (10 : Int) ^ 40 = 10000000000000000000000000000000000000000 := by decide
  have e12 : (10 : Int) ^ Int.toNat 12 = 1000000000000 := by decide
  unfold b__law_far
  simp only [initE, List.map_cons, List.map_nil, List.length_cons, List.length_nil, Nat.reduceAdd, Nat.reduceSub, List.replicate, List.cons_append, List.nil_append]
  simp only [wSs, wS, wEs, wE, wIt, getE, setE, rdsK, rdK, biK, datasK, dataK, setMany, setNils, cmpK, binK, truthK, truth, ixK, tgK, seqK, lstK, retK, isTy, tyOf, endL, List.map_cons, List.map_nil, List.length_cons, List.length_nil, List.cons_append, List.nil_append, List.append_nil, Nat.reduceSub, Nat.reduceAdd, atI_0, atI_1, atI_2, set_0, set_2, call_W5, call_W4, call_W2, call_W2o, call_W1, call_W1o, call_W0, call_W3, call_L0, call_L1, call_L1o, call_L2, call_L3, Option.some.injEq, sp__law_lift]
  refine ⟨n, _, rfl, hu, by omega, by decide, sl _ (by decide) (by decide), fun r l1 r0 r1 hu1 => ?_⟩
  unfold b__law_far_2
  simp only [wSs, wS, wEs, wE, wIt, getE, setE, rdsK, rdK, biK, datasK, dataK, setMany, setNils, cmpK, binK, truthK, truth, ixK, tgK, seqK, lstK, retK, isTy, tyOf, endL, List.map_cons, List.map_nil, List.length_cons, List.length_nil, List.cons_append, List.nil_append, List.append_nil, Nat.reduceSub, Nat.reduceAdd, atI_0, atI_1, atI_2, set_0, set_2, call_W5, call_W4, call_W2, call_W2o, call_W1, call_W1o, call_W0, call_W3, call_L0, call_L1, call_L1o, call_L2, call_L3, Option.some.injEq, sp__law_lift]
  by_cases h2 : r < 2
  · simp only [decide_eq_true h2, if_true]
    refine ⟨n + 1, _, rfl, hu1, by omega, by decide, sl _ (by decide) (by decide), fun s l2 q0 q1 hu2 => ?_⟩
    exact h _ _ q0 (by omega) (hu2.mono (by omega))
  · simp only [decide_eq_false h2, Bool.false_eq_true, if_false]
    unfold b__law_far_3
    simp only [wSs, wS, wEs, wE, wIt, getE, setE, rdsK, rdK, biK, datasK, dataK, setMany, setNils, cmpK, binK, truthK, truth, ixK, tgK, seqK, lstK, retK, isTy, tyOf, endL, List.map_cons, List.map_nil, List.length_cons, List.length_nil, List.cons_append, List.nil_append, List.append_nil, Nat.reduceSub, Nat.reduceAdd, atI_0, atI_1, atI_2, set_0, set_2, call_W5, call_W4, call_W2, call_W2o, call_W1, call_W1o, call_W0, call_W3, call_L0, call_L1, call_L1o, call_L2, call_L3, Option.some.injEq, sp__law_lift, sp__law_great]
    refine ⟨rfl, rfl, ?_⟩
    split
    · refine ⟨s10.pow (by decide) (by decide), n + 1, _, rfl, hu1, by omega, by decide, sl _ (by decide) (by decide), fun s l2 q0 q1 hu2 => ?_⟩
      exact h _ _ q0 (by omega) (hu2.mono (by omega))
    · refine ⟨n + 1, rfl, hu1, by omega, fun s l2 q0 q1 hu2 => ?_⟩
      exact h _ _ q0 q1 (hu2.mono (by omega))
theorem sz40 {x : Int} (h0 : -(10 ^ 40) ≤ x) (h1 : x ≤ 10 ^ 40) : sz 133 x := by
  have e40 : (10 : Int) ^ 40 = 10000000000000000000000000000000000000000 := by decide
  unfold sz
  omega
theorem comp_s {S : Type} {ec ee : AEnv → (AV → AEnv → Prop) → Prop} {tg : Tg} {own : List (Str × Nat)} (E : S → Option PyData → AEnv) (I : Nat → S → Prop) (R : PyData → PyData → Prop) (hw : ∀ s x, wipeE (E s (some x)) own = E s none)
    (he : ∀ x s m, I (m + 1) s → ∀ q : AV → AEnv → Prop, (∀ y s', R x y → I m s' → q (.d y) (E s' (some x))) → ee (E s (some x)) q) (ht : ∀ s x, ∀ k : AEnv → Prop, k (E s (some x)) → tgK tg x (E s none) k) :
    ∀ (ds : List PyData) (acc : List PyData) (env : AEnv) (s : S) (m : Nat) (Q : List PyData → AEnv → Prop), wipeE env own = E s none → I (m + ds.length) s →
    (∀ ys env' s', ((env' = env ∧ s' = s) ∨ ∃ x, env' = E s' (some x)) → I m s' → All2 R ds ys → Q (acc ++ ys) env') → compW none ec ee tg own ds env acc Q
  | [], acc, env, s, m, Q, h0, hi, hQ => by
    have := hQ [] env s (.inl ⟨rfl, rfl⟩) hi .nil
    rw [List.append_nil] at this
    exact this
  | x :: ds, acc, env, s, m, Q, h0, hi, hQ => by
    unfold compW
    rw [h0]
    refine ht s x _ ?_
    refine he x s (m + ds.length) (by rw [List.length_cons] at hi; exact hi) _ fun y s' hy hi' => ?_
    refine comp_s E I R hw he ht ds _ _ s' m Q (hw s' x) hi' fun ys env' s'' h1 h2 h3 => ?_
    rw [List.append_assoc]
    refine hQ (y :: ys) env' s'' (.inr ?_) h2 (.cons hy h3)
    rcases h1 with ⟨e1, e2⟩ | h1
    · exact ⟨x, by rw [e1, e2]⟩
    · exact h1
/-! ### rows that are drawn -/
def w__law_signed : LF := fun l xs k => ∃ n : Nat, xs = [] ∧ Urn n l ∧ n < 1000000 ∧ ∀ x l', sz 133 x → Urn (n + 4) l' → k (.d (.int x)) l'
theorem m__law_signed : w__law_signed.Mono := fun l xs k k' h ⟨n, h1, h2, h3, h4⟩ => ⟨n, h1, h2, h3, fun x l' y z => h _ _ (h4 x l' y z)⟩
def sp__law_signed : ASp := spL w__law_signed m__law_signed
def b__law_signed : Ss := (.cons (.ret (.bin .mul (.call "_law_far" sp__law_far (.cons (.var 0) .nil)) (.bin .sub (.int 1) (.bin .mul (.int 2) (.call "_law_lift" sp__law_lift (.cons (.var 0) (.cons (.int 2) .nil)))))))
  .nil)
theorem p__law_signed : Body 1 1 [0] b__law_signed sp__law_signed := by
  refine body_L (fun l xs k h => ?_) fun l xs k h => ?_
  · obtain ⟨n, rfl, _⟩ := h; rfl
  obtain ⟨n, rfl, hu, hn, h⟩ := h
  unfold b__law_signed
  simp only [initE, List.map_cons, List.map_nil, List.length_cons, List.length_nil, Nat.reduceAdd, Nat.reduceSub, List.replicate, List.cons_append, List.nil_append]
  simp only [wSs, wS, wEs, wE, wIt, getE, setE, rdsK, rdK, biK, datasK, dataK, setMany, setNils, cmpK, binK, truthK, truth, ixK, tgK, seqK, lstK, retK, isTy, tyOf, endL, List.map_cons, List.map_nil, List.length_cons, List.length_nil, List.cons_append, List.nil_append, List.append_nil, Nat.reduceSub, Nat.reduceAdd, atI_0, atI_1, atI_2, set_0, set_2, call_W5, call_W4, call_W2, call_W2o, call_W1, call_W1o, call_W0, call_W3, call_L0, call_L1, call_L1o, call_L2, call_L3, Option.some.injEq, sp__law_lift, sp__law_far]
  refine ⟨n, rfl, hu, by omega, fun x l1 x0 x1 hu1 => ?_⟩
  refine ⟨n + 3, _, rfl, hu1, by omega, by decide, (sz_lit (n := 2) (by decide)).mono (by decide), fun r l2 r0 r1 hu2 => ?_⟩
  have sx : sz 133 x := sz40 (by omega) (by omega)
  refine ⟨(sz_lit (n := 2) (by decide)).mulOk (m := 2) (sz_lit (by omega)) (by decide), sx.mulOk (m := 3) (sz_lit (by omega)) (by decide), ?_⟩
  refine h _ _ ?_ hu2
  have hr : r = 0 ∨ r = 1 := by omega
  rcases hr with rfl | rfl
  · rw [show (1 : Int) - 2 * 0 = 1 by decide, Int.mul_one]; exact sx
  · rw [show (1 : Int) - 2 * 1 = -1 by decide, show x * -1 = -x by omega]; exact sx.neg
/-! ### the objects -/
def w__law_texted : WF := fun xs k => ∃ s : Str, xs = [.str s] ∧ k (.d (.list (TX.map fun c => objM c s)))
theorem m__law_texted : w__law_texted.Mono := fun xs k k' h ⟨s, e, q⟩ => ⟨s, e, h _ q⟩
def sp__law_texted : ASp := spW w__law_texted m__law_texted
def b__law_texted_12 : Ss := (.cons (.ret (.var 1)) .nil)
def b__law_texted_11 : Ss := (.cons (.asgF 1 (.bin .add (.var 1) (.lst (.cons (.un (.mkV "NoBlock") (.var 0)) (.cons (.un (.mkV "InvalidCommand") (.var 0)) (.cons (.un (.mkV "NotReady") (.var 0)) .nil)))))) b__law_texted_12)
def b__law_texted_10 : Ss := (.cons (.asgF 1 (.bin .add (.var 1) (.lst (.cons (.un (.mkV "NotSure") (.var 0)) (.cons (.un (.mkV "NotPlain") (.var 0)) (.cons (.un (.mkV "TooMany") (.var 0)) (.cons (.un (.mkV "Refused") (.var 0)) (.cons (.un (.mkV "NothingToUndo") (.var 0)) .nil)))))))) b__law_texted_11)
def b__law_texted_9 : Ss := (.cons (.asgF 1 (.bin .add (.var 1) (.lst (.cons (.un (.mkV "NoTime") (.var 0)) (.cons (.un (.mkV "NotTold") (.var 0)) (.cons (.un (.mkV "NotDriven") (.var 0)) (.cons (.un (.mkV "NotFitting") (.var 0)) (.cons (.un (.mkV "NotOpen") (.var 0)) .nil)))))))) b__law_texted_10)
def b__law_texted_8 : Ss := (.cons (.asgF 1 (.bin .add (.var 1) (.lst (.cons (.un (.mkV "InvalidOffers") (.var 0)) (.cons (.un (.mkV "InvalidChoice") (.var 0)) (.cons (.un (.mkV "InvalidLooks") (.var 0)) (.cons (.un (.mkV "InvalidAsked") (.var 0)) .nil))))))) b__law_texted_9)
def b__law_texted_7 : Ss := (.cons (.asgF 1 (.bin .add (.var 1) (.lst (.cons (.un (.mkV "InvalidPen") (.var 0)) (.cons (.un (.mkV "InvalidPens") (.var 0)) (.cons (.un (.mkV "InvalidSession") (.var 0)) (.cons (.un (.mkV "InvalidClaim") (.var 0)) .nil))))))) b__law_texted_8)
def b__law_texted_6 : Ss := (.cons (.asgF 1 (.bin .add (.var 1) (.lst (.cons (.un (.mkV "InvalidFraction") (.var 0)) (.cons (.un (.mkV "InvalidPlace") (.var 0)) (.cons (.un (.mkV "InvalidRoots") (.var 0)) (.cons (.un (.mkV "InvalidRows") (.var 0)) .nil))))))) b__law_texted_7)
def b__law_texted_5 : Ss := (.cons (.asgF 1 (.bin .add (.var 1) (.lst (.cons (.un (.mkV "InvalidWheel") (.var 0)) (.cons (.un (.mkV "InvalidState") (.var 0)) (.cons (.un (.mkV "InvalidTeeth") (.var 0)) (.cons (.un (.mkV "InvalidTooth") (.var 0)) .nil))))))) b__law_texted_6)
def b__law_texted_4 : Ss := (.cons (.asgF 1 (.bin .add (.var 1) (.lst (.cons (.un (.mkV "InvalidFamily") (.var 0)) (.cons (.un (.mkV "InvalidGear") (.var 0)) (.cons (.un (.mkV "InvalidGears") (.var 0)) (.cons (.un (.mkV "InvalidShaft") (.var 0)) .nil))))))) b__law_texted_5)
def b__law_texted_3 : Ss := (.cons (.asgF 1 (.bin .add (.var 1) (.lst (.cons (.un (.mkV "InvalidGrain") (.var 0)) (.cons (.un (.mkV "InvalidSteps") (.var 0)) (.cons (.un (.mkV "InvalidSpot") (.var 0)) (.cons (.un (.mkV "InvalidMachine") (.var 0)) .nil))))))) b__law_texted_4)
def b__law_texted_2 : Ss := (.cons (.asgF 1 (.bin .add (.var 1) (.lst (.cons (.un (.mkV "InvalidProgression") (.var 0)) (.cons (.un (.mkV "InvalidProgressions") (.var 0)) (.cons (.un (.mkV "InvalidCongruence") (.var 0)) .nil)))))) b__law_texted_3)
def b__law_texted : Ss := (.cons (.asgF 1 (.lst (.cons (.un (.mkV "InvalidNumber") (.var 0)) (.cons (.un (.mkV "InvalidCount") (.var 0)) (.cons (.un (.mkV "InvalidIndex") (.var 0)) (.cons (.un (.mkV "InvalidTurn") (.var 0)) .nil)))))) b__law_texted_2)
theorem p__law_texted : Body 1 2 [] b__law_texted sp__law_texted := by
  refine body_W (fun xs k h => ?_) fun xs k h => ?_
  · obtain ⟨s, rfl, _⟩ := h; rfl
  obtain ⟨s, rfl, h⟩ := h
  have sl := sizeLine_eq
  unfold b__law_texted
  simp only [initE, List.map_cons, List.map_nil, List.length_cons, List.length_nil, Nat.reduceAdd, Nat.reduceSub, List.replicate, List.cons_append, List.nil_append]
  simp! only []
  unfold b__law_texted_2
  simp! only []
  refine ⟨by rw [sl]; exact of_decide_eq_true rfl, ?_⟩
  unfold b__law_texted_3
  simp! only []
  refine ⟨by rw [sl]; exact of_decide_eq_true rfl, ?_⟩
  unfold b__law_texted_4
  simp! only []
  refine ⟨by rw [sl]; exact of_decide_eq_true rfl, ?_⟩
  unfold b__law_texted_5
  simp! only []
  refine ⟨by rw [sl]; exact of_decide_eq_true rfl, ?_⟩
  unfold b__law_texted_6
  simp! only []
  refine ⟨by rw [sl]; exact of_decide_eq_true rfl, ?_⟩
  unfold b__law_texted_7
  simp! only []
  refine ⟨by rw [sl]; exact of_decide_eq_true rfl, ?_⟩
  unfold b__law_texted_8
  simp! only []
  refine ⟨by rw [sl]; exact of_decide_eq_true rfl, ?_⟩
  unfold b__law_texted_9
  simp! only []
  refine ⟨by rw [sl]; exact of_decide_eq_true rfl, ?_⟩
  unfold b__law_texted_10
  simp! only []
  refine ⟨by rw [sl]; exact of_decide_eq_true rfl, ?_⟩
  unfold b__law_texted_11
  simp! only []
  refine ⟨by rw [sl]; exact of_decide_eq_true rfl, ?_⟩
  unfold b__law_texted_12
  simp! only []
  exact h
def w__law_truths : WF := fun xs k => ∃ (c : Str) (x : PyData), xs = [x] ∧ Ob c x ∧ c ∈ CLT ∧ k (.d (.list (truths c)))
theorem m__law_truths : w__law_truths.Mono := fun xs k k' h ⟨c, x, e, a, b, q⟩ => ⟨c, x, e, a, b, h _ q⟩
def sp__law_truths : ASp := spW w__law_truths m__law_truths
def b__law_truths_23 : Ss := (.cons (.ret (.var 1)) .nil)
def b__law_truths_22 : Ss := (.cons (.asgF 1 (.bin .add (.var 1) (.lst (.cons (.instC (.var 0) "InvalidWords" (tsOf "InvalidWords")) .nil)))) b__law_truths_23)
def b__law_truths_21 : Ss := (.cons (.asgF 1 (.bin .add (.var 1) (.lst (.cons (.instC (.var 0) "Stopped" (tsOf "Stopped")) (.cons (.instC (.var 0) "InvalidDeeds" (tsOf "InvalidDeeds")) .nil))))) b__law_truths_22)
def b__law_truths_20 : Ss := (.cons (.asgF 1 (.bin .add (.var 1) (.lst (.cons (.instC (.var 0) "InvalidCommand" (tsOf "InvalidCommand")) (.cons (.instC (.var 0) "NotReady" (tsOf "NotReady")) .nil))))) b__law_truths_21)
def b__law_truths_19 : Ss := (.cons (.asgF 1 (.bin .add (.var 1) (.lst (.cons (.instC (.var 0) "Refused" (tsOf "Refused")) (.cons (.instC (.var 0) "NothingToUndo" (tsOf "NothingToUndo")) (.cons (.instC (.var 0) "NoBlock" (tsOf "NoBlock")) .nil)))))) b__law_truths_20)
def b__law_truths_18 : Ss := (.cons (.asgF 1 (.bin .add (.var 1) (.lst (.cons (.instC (.var 0) "NotSure" (tsOf "NotSure")) (.cons (.instC (.var 0) "NotPlain" (tsOf "NotPlain")) (.cons (.instC (.var 0) "TooMany" (tsOf "TooMany")) .nil)))))) b__law_truths_19)
def b__law_truths_17 : Ss := (.cons (.asgF 1 (.bin .add (.var 1) (.lst (.cons (.instC (.var 0) "NotDriven" (tsOf "NotDriven")) (.cons (.instC (.var 0) "NotFitting" (tsOf "NotFitting")) (.cons (.instC (.var 0) "NotOpen" (tsOf "NotOpen")) .nil)))))) b__law_truths_18)
def b__law_truths_16 : Ss := (.cons (.asgF 1 (.bin .add (.var 1) (.lst (.cons (.instC (.var 0) "InvalidAsked" (tsOf "InvalidAsked")) (.cons (.instC (.var 0) "NoTime" (tsOf "NoTime")) (.cons (.instC (.var 0) "NotTold" (tsOf "NotTold")) .nil)))))) b__law_truths_17)
def b__law_truths_15 : Ss := (.cons (.asgF 1 (.bin .add (.var 1) (.lst (.cons (.instC (.var 0) "InvalidChoice" (tsOf "InvalidChoice")) (.cons (.instC (.var 0) "InvalidLooks" (tsOf "InvalidLooks")) .nil))))) b__law_truths_16)
def b__law_truths_14 : Ss := (.cons (.asgF 1 (.bin .add (.var 1) (.lst (.cons (.instC (.var 0) "InvalidClaim" (tsOf "InvalidClaim")) (.cons (.instC (.var 0) "InvalidOffers" (tsOf "InvalidOffers")) .nil))))) b__law_truths_15)
def b__law_truths_13 : Ss := (.cons (.asgF 1 (.bin .add (.var 1) (.lst (.cons (.instC (.var 0) "InvalidPens" (tsOf "InvalidPens")) (.cons (.instC (.var 0) "InvalidSession" (tsOf "InvalidSession")) .nil))))) b__law_truths_14)
def b__law_truths_12 : Ss := (.cons (.asgF 1 (.bin .add (.var 1) (.lst (.cons (.instC (.var 0) "InvalidRows" (tsOf "InvalidRows")) (.cons (.instC (.var 0) "InvalidPen" (tsOf "InvalidPen")) .nil))))) b__law_truths_13)
def b__law_truths_11 : Ss := (.cons (.asgF 1 (.bin .add (.var 1) (.lst (.cons (.instC (.var 0) "InvalidPlace" (tsOf "InvalidPlace")) (.cons (.instC (.var 0) "InvalidRoots" (tsOf "InvalidRoots")) .nil))))) b__law_truths_12)
def b__law_truths_10 : Ss := (.cons (.asgF 1 (.bin .add (.var 1) (.lst (.cons (.instC (.var 0) "InvalidTooth" (tsOf "InvalidTooth")) (.cons (.instC (.var 0) "InvalidFraction" (tsOf "InvalidFraction")) .nil))))) b__law_truths_11)
def b__law_truths_9 : Ss := (.cons (.asgF 1 (.bin .add (.var 1) (.lst (.cons (.instC (.var 0) "InvalidState" (tsOf "InvalidState")) (.cons (.instC (.var 0) "InvalidTeeth" (tsOf "InvalidTeeth")) .nil))))) b__law_truths_10)
def b__law_truths_8 : Ss := (.cons (.asgF 1 (.bin .add (.var 1) (.lst (.cons (.instC (.var 0) "InvalidShaft" (tsOf "InvalidShaft")) (.cons (.instC (.var 0) "InvalidWheel" (tsOf "InvalidWheel")) .nil))))) b__law_truths_9)
def b__law_truths_7 : Ss := (.cons (.asgF 1 (.bin .add (.var 1) (.lst (.cons (.instC (.var 0) "InvalidGear" (tsOf "InvalidGear")) (.cons (.instC (.var 0) "InvalidGears" (tsOf "InvalidGears")) .nil))))) b__law_truths_8)
def b__law_truths_6 : Ss := (.cons (.asgF 1 (.bin .add (.var 1) (.lst (.cons (.instC (.var 0) "InvalidMachine" (tsOf "InvalidMachine")) (.cons (.instC (.var 0) "InvalidFamily" (tsOf "InvalidFamily")) .nil))))) b__law_truths_7)
def b__law_truths_5 : Ss := (.cons (.asgF 1 (.bin .add (.var 1) (.lst (.cons (.instC (.var 0) "InvalidSteps" (tsOf "InvalidSteps")) (.cons (.instC (.var 0) "InvalidSpot" (tsOf "InvalidSpot")) .nil))))) b__law_truths_6)
def b__law_truths_4 : Ss := (.cons (.asgF 1 (.bin .add (.var 1) (.lst (.cons (.instC (.var 0) "InvalidCongruence" (tsOf "InvalidCongruence")) (.cons (.instC (.var 0) "InvalidGrain" (tsOf "InvalidGrain")) .nil))))) b__law_truths_5)
def b__law_truths_3 : Ss := (.cons (.asgF 1 (.bin .add (.var 1) (.lst (.cons (.instC (.var 0) "InvalidProgression" (tsOf "InvalidProgression")) (.cons (.instC (.var 0) "InvalidProgressions" (tsOf "InvalidProgressions")) .nil))))) b__law_truths_4)
def b__law_truths_2 : Ss := (.cons (.asgF 1 (.bin .add (.var 1) (.lst (.cons (.instC (.var 0) "InvalidIndex" (tsOf "InvalidIndex")) (.cons (.instC (.var 0) "InvalidTurn" (tsOf "InvalidTurn")) .nil))))) b__law_truths_3)
def b__law_truths : Ss := (.cons (.asgF 1 (.lst (.cons (.instC (.var 0) "InvalidNumber" (tsOf "InvalidNumber")) (.cons (.instC (.var 0) "InvalidCount" (tsOf "InvalidCount")) .nil)))) b__law_truths_2)
theorem p__law_truths : Body 1 2 [] b__law_truths sp__law_truths := by
  refine body_W (fun xs k h => ?_) fun xs k h => ?_
  · obtain ⟨c, x, rfl, _⟩ := h; rfl
  obtain ⟨c, x, rfl, ho, hc, h⟩ := h
  have sl := sizeLine_eq
  have I : ∀ (d : Str) (k : Bool → Prop), insK x (tsOf d) k = k (decide (c = d)) := fun d k => ins_of ho hc
  unfold b__law_truths
  simp only [initE, List.map_cons, List.map_nil, List.length_cons, List.length_nil, Nat.reduceAdd, Nat.reduceSub, List.replicate, List.cons_append, List.nil_append]
  simp! only [I]
  unfold b__law_truths_2
  simp! only [I]
  refine ⟨by rw [sl]; exact of_decide_eq_true rfl, ?_⟩
  unfold b__law_truths_3
  simp! only [I]
  refine ⟨by rw [sl]; exact of_decide_eq_true rfl, ?_⟩
  unfold b__law_truths_4
  simp! only [I]
  refine ⟨by rw [sl]; exact of_decide_eq_true rfl, ?_⟩
  unfold b__law_truths_5
  simp! only [I]
  refine ⟨by rw [sl]; exact of_decide_eq_true rfl, ?_⟩
  unfold b__law_truths_6
  simp! only [I]
  refine ⟨by rw [sl]; exact of_decide_eq_true rfl, ?_⟩
  unfold b__law_truths_7
  simp! only [I]
  refine ⟨by rw [sl]; exact of_decide_eq_true rfl, ?_⟩
  unfold b__law_truths_8
  simp! only [I]
  refine ⟨by rw [sl]; exact of_decide_eq_true rfl, ?_⟩
  unfold b__law_truths_9
  simp! only [I]
  refine ⟨by rw [sl]; exact of_decide_eq_true rfl, ?_⟩
  unfold b__law_truths_10
  simp! only [I]
  refine ⟨by rw [sl]; exact of_decide_eq_true rfl, ?_⟩
  unfold b__law_truths_11
  simp! only [I]
  refine ⟨by rw [sl]; exact of_decide_eq_true rfl, ?_⟩
  unfold b__law_truths_12
  simp! only [I]
  refine ⟨by rw [sl]; exact of_decide_eq_true rfl, ?_⟩
  unfold b__law_truths_13
  simp! only [I]
  refine ⟨by rw [sl]; exact of_decide_eq_true rfl, ?_⟩
  unfold b__law_truths_14
  simp! only [I]
  refine ⟨by rw [sl]; exact of_decide_eq_true rfl, ?_⟩
  unfold b__law_truths_15
  simp! only [I]
  refine ⟨by rw [sl]; exact of_decide_eq_true rfl, ?_⟩
  unfold b__law_truths_16
  simp! only [I]
  refine ⟨by rw [sl]; exact of_decide_eq_true rfl, ?_⟩
  unfold b__law_truths_17
  simp! only [I]
  refine ⟨by rw [sl]; exact of_decide_eq_true rfl, ?_⟩
  unfold b__law_truths_18
  simp! only [I]
  refine ⟨by rw [sl]; exact of_decide_eq_true rfl, ?_⟩
  unfold b__law_truths_19
  simp! only [I]
  refine ⟨by rw [sl]; exact of_decide_eq_true rfl, ?_⟩
  unfold b__law_truths_20
  simp! only [I]
  refine ⟨by rw [sl]; exact of_decide_eq_true rfl, ?_⟩
  unfold b__law_truths_21
  simp! only [I]
  refine ⟨by rw [sl]; exact of_decide_eq_true rfl, ?_⟩
  unfold b__law_truths_22
  simp! only [I]
  refine ⟨by rw [sl]; exact of_decide_eq_true rfl, ?_⟩
  unfold b__law_truths_23
  simp! only []
  exact h
end K00

set_option maxRecDepth 100000
set_option maxHeartbeats 1000000

set_option maxRecDepth 100000
set_option maxHeartbeats 1000000
namespace K00
open PySem PF NL
local macro_rules | `(tactic| simp! only [$ts,*]) => `(tactic| simp -implicitDefEqProofs only [V.e_un, V.u_len, V.u_mk, V.u_att, V.u_vA, V.u_vM, V.e_mkA, V.e_ixS, V.rd_d, V.rd_o, V.rd_b, V.da_d, V.da_o, V.das_n, V.das_c, V.rds_n, V.rds_c, V.tr_b, V.tr_i, V.tr_n, V.tr_l, V.tr_t, V.tr_o, V.bn_add, V.bn_sub, V.bn_mul, V.bn_fdiv, V.bn_mod, V.bn_pow, V.bn_cat, V.cp_eq, V.cp_ne, V.cp_lt, V.cp_le, V.cp_gt, V.cp_ge, V.cp_in, V.cp_nin, V.cp_eqEl, V.cp_neEl, V.cp_eqEt, V.cp_neEt, V.is_n, V.isn_n, V.is_b, V.isn_b, V.is_i, V.isn_i, V.is_s, V.isn_s, V.is_l, V.isn_l, V.is_t, V.isn_t, V.is_bb, V.isn_bb, V.ix_l, V.ix_t, V.sl_l, V.bi_len, V.bi_lent, V.bi_abs, V.bi_max2, V.bi_min2, V.bi_int, V.bi_intb, V.bi_list, V.bi_listt, V.bi_tup, V.bi_tupt, V.bi_sum, V.bi_any, V.bi_all, V.bi_min1, V.bi_max1, V.bi_sorted, V.bi_repr, V.bn_catt, V.sl_t, V.e_ixOf, V.e_ssort, V.s_parH, V.s_parI, V.e_din, V.e_dkeys, V.e_dsort, V.s_parG, V.s_dnewP, V.it_zip3, V.s_dnew, V.s_dset, V.dc_0, V.dc_1, V.dc_2, V.dc_3, V.dc_4, V.dc_5, V.dc_6, V.dc_7, V.dc_8, V.dc_9, V.dc_10, V.dc_11, V.dc_12, V.dc_13, V.dc_14, V.dc_15, V.sq_d, V.sq_t, V.sq_o, V.ls_d, V.ls_o, V.tg_n, V.tg_t, V.vd_0, V.vo_0, V.vd_1, V.vo_1, V.vd_2, V.vo_2, V.vd_3, V.vo_3, V.vd_4, V.vo_4, V.vd_5, V.vo_5, V.vd_6, V.vo_6, V.vd_7, V.vo_7, V.vd_8, V.vo_8, V.vd_9, V.vo_9, V.vd_10, V.vo_10, V.vd_11, V.vo_11, V.vd_12, V.vo_12, V.vd_13, V.vo_13, V.vd_14, V.vo_14, V.vd_15, V.vo_15, V.e_int, V.e_bool, V.e_none, V.e_str, V.e_glob, V.e_bin, V.e_not, V.e_and, V.e_or, V.e_cmp, V.e_chain, V.e_ife, V.e_tup, V.e_lst, V.e_ix, V.e_call, V.e_mkE, V.e_callR, V.e_callM, V.s_unpP, V.pr_p, V.rd_p, V.da_p, V.e_callK, V.e_bi, V.e_inst, V.e_instC, V.r_e, V.r_call, V.r_callK, V.r_ife, V.s_rexpr, V.s_rret, V.s_raiseX, V.s_raise, V.s_tryC, ins_n, call_X1, call_X2, call_X3, call_X4, call_X5, call_X8, V.e_comp, V.ng, V.e_neg, V.e_slU, V.e_slRev, V.rv_l, V.it_r3, V.e_slL, V.e_lrg1, V.e_lrg3, V.es_n, V.es_c, V.it_seq, V.it_r1, V.it_r2, V.it_en, V.it_zip, V.ss_n, V.ss_c, V.s_asgF, V.kp_d, V.kp_o, V.s_asg, V.s_par, V.s_parN, V.tp_d, V.s_unp, V.s_expr, V.s_ret, V.s_retN, V.s_ite, V.s_for, V.s_pass, V.s_brk, V.s_cont, V.fz_0, V.ow_0, V.ap_0, V.fz_1, V.ow_1, V.ap_1, V.fz_2, V.ow_2, V.ap_2, V.fz_3, V.ow_3, V.ap_3, V.fz_4, V.ow_4, V.ap_4, V.fz_5, V.ow_5, V.ap_5, V.fz_6, V.ow_6, V.ap_6, V.fz_7, V.ow_7, V.ap_7, V.fz_8, V.ow_8, V.ap_8, V.fz_9, V.ow_9, V.ap_9, V.fz_10, V.ow_10, V.ap_10, V.fz_11, V.ow_11, V.ap_11, V.fz_12, V.ow_12, V.ap_12, V.fz_13, V.ow_13, V.ap_13, V.fz_14, V.ow_14, V.ap_14, V.fz_15, V.ow_15, V.ap_15, getE, setE, setMany, setNils, isTy, tyOf, List.map_cons, List.map_nil, List.length_cons, List.length_nil, List.cons_append, List.nil_append, List.append_nil, Nat.reduceSub, Nat.reduceAdd, atI_0, atI_1, atI_2, call_W5, call_W4, call_W2, call_W2o, call_W1, call_W1o, call_W0, call_W3, call_L0, call_L1, call_L1o, call_L2, call_L3, Option.some.injEq, $ts,*])
/-! ### the three that keep their argument -/
def vals (x : PyData) : List PyData := [objA "Stopped" "clicks" x, objA "InvalidDeeds" "entry" x, objA "InvalidWords" "spot" x]
def w__law_valued : WF := fun xs k => ∃ x, xs = [x] ∧ k (.o (vals x))
theorem m__law_valued : w__law_valued.Mono := fun xs k k' h ⟨x, e, q⟩ => ⟨x, e, h _ q⟩
def sp__law_valued : ASp := spW w__law_valued m__law_valued
def b__law_valued : Ss := (.cons (.ret (.lst (.cons (.mkA "Stopped" "clicks" false (.var 0)) (.cons (.mkA "InvalidDeeds" "entry" false (.var 0)) (.cons (.mkA "InvalidWords" "spot" false (.var 0)) .nil)))))
  .nil)
theorem p__law_valued : Body 1 1 [] b__law_valued sp__law_valued := by
  refine body_W (fun xs k h => ?_) fun xs k h => ?_
  · obtain ⟨x, rfl, _⟩ := h; rfl
  obtain ⟨x, rfl, h⟩ := h
  unfold b__law_valued
  simp only [initE, List.map_cons, List.map_nil, List.length_cons, List.length_nil, Nat.reduceAdd, Nat.reduceSub, List.replicate, List.cons_append, List.nil_append]
  simp! only []
  exact h
def w__law_named : WF := fun xs k => ∃ x, xs = [x] ∧ k (.o (vals x))
theorem m__law_named : w__law_named.Mono := fun xs k k' h ⟨x, e, q⟩ => ⟨x, e, h _ q⟩
def sp__law_named : ASp := spW w__law_named m__law_named
def b__law_named : Ss := (.cons (.ret (.lst (.cons (.mkA "Stopped" "clicks" true (.var 0)) (.cons (.mkA "InvalidDeeds" "entry" true (.var 0)) (.cons (.mkA "InvalidWords" "spot" true (.var 0)) .nil)))))
  .nil)
theorem p__law_named : Body 1 1 [] b__law_named sp__law_named := by
  refine body_W (fun xs k h => ?_) fun xs k h => ?_
  · obtain ⟨x, rfl, _⟩ := h; rfl
  obtain ⟨x, rfl, h⟩ := h
  unfold b__law_named
  simp only [initE, List.map_cons, List.map_nil, List.length_cons, List.length_nil, Nat.reduceAdd, Nat.reduceSub, List.replicate, List.cons_append, List.nil_append]
  simp! only []
  exact h
def w__law_kept : WF := fun xs k => ∃ (x y z : PyData) (a b c : Str), xs = [.list [objA a "clicks" x, objA b "entry" y, objA c "spot" z]] ∧ k (.o [x, y, z])
theorem m__law_kept : w__law_kept.Mono := fun xs k k' h ⟨x, y, z, a, b, c, e, q⟩ => ⟨x, y, z, a, b, c, e, h _ q⟩
def sp__law_kept : ASp := spW w__law_kept m__law_kept
def b__law_kept : Ss := (.cons (.ret (.lst (.cons (.un (.att "clicks") (.ix (.var 0) (.int 0))) (.cons (.un (.att "entry") (.ix (.var 0) (.int 1))) (.cons (.un (.att "spot") (.ix (.var 0) (.int 2))) .nil)))))
  .nil)
theorem at0 {a b c : PyData} : L2.atI [a, b, c] 0 = some a := rfl
theorem at1 {a b c : PyData} : L2.atI [a, b, c] 1 = some b := rfl
theorem at2 {a b c : PyData} : L2.atI [a, b, c] 2 = some c := rfl
theorem p__law_kept : Body 1 1 [] b__law_kept sp__law_kept := by
  refine body_W (fun xs k h => ?_) fun xs k h => ?_
  · obtain ⟨x, y, z, a, b, c, rfl, _⟩ := h; rfl
  obtain ⟨x, y, z, a, b, c, rfl, h⟩ := h
  unfold b__law_kept
  simp only [initE, List.map_cons, List.map_nil, List.length_cons, List.length_nil, Nat.reduceAdd, Nat.reduceSub, List.replicate, List.cons_append, List.nil_append]
  simp! only [at0, at1, at2, true_and]
  exact h
/-! ### raised and caught -/
def w__law_caught : WF := fun xs k => ∃ (w : Int) (x : PyData), xs = [.int w, x] ∧ k (.d (objA (cat3 w "Stopped" "InvalidDeeds" "InvalidWords") (cat3 w "clicks" "entry" "spot") x))
theorem m__law_caught : w__law_caught.Mono := fun xs k k' h ⟨w, x, e, q⟩ => ⟨w, x, e, h _ q⟩
def sp__law_caught : ASp := spW w__law_caught m__law_caught
def b__law_caught : Ss := .cons (.asgF 2 .none) (.cons (tryS "Stopped" "clicks" "InvalidDeeds" "entry" "InvalidWords" "spot" "WheelError") (.cons (.ret (.var 2)) .nil))
theorem p__law_caught : Body 2 4 [] b__law_caught sp__law_caught := by
  refine body_W (fun xs k h => ?_) fun xs k h => ?_
  · obtain ⟨w, x, rfl, _⟩ := h; rfl
  obtain ⟨w, x, rfl, h⟩ := h
  have n0 : PyData.eqv (.int (-w)) (.int 0) = decide (w = 0) := by
    show decide (-w = 0) = decide (w = 0)
    exact decide_eq_decide.mpr (by omega)
  have n1 : PyData.eqv (.int (-w)) (.int (-1)) = decide (w = 1) := by
    show decide (-w = -1) = decide (w = 1)
    exact decide_eq_decide.mpr (by omega)
  unfold b__law_caught tryS
  simp only [initE, List.map_cons, List.map_nil, List.length_cons, List.length_nil, Nat.reduceAdd, Nat.reduceSub, List.replicate, List.cons_append, List.nil_append]
  simp only [wSs, wS, wEs, wE, wIt, getE, setE, rdsK, rdK, biK, datasK, dataK, setMany, setNils, cmpK, binK, truthK, truth, ixK, tgK, seqK, lstK, retK, isTy, tyOf, endL, List.map_cons, List.map_nil, List.length_cons, List.length_nil, List.cons_append, List.nil_append, List.append_nil, Nat.reduceSub, Nat.reduceAdd, atI_0, atI_1, atI_2, set_0, set_2, call_W5, call_W4, call_W2, call_W2o, call_W1, call_W1o, call_W0, call_W3, call_L0, call_L1, call_L1o, call_L2, call_L3, Option.some.injEq, if_true, List.mem_cons, List.not_mem_nil, or_false]
  refine ⟨trivial, by decide, rfl, rfl, ?_⟩
  rw [n0]
  unfold cat3 at h
  by_cases w0 : w = 0
  · rw [if_pos w0, if_pos w0] at h
    rw [if_pos (by simp [w0])]
    exact h
  · rw [if_neg w0, if_neg w0] at h
    rw [if_neg (by simp [w0])]
    refine ⟨rfl, rfl, ?_⟩
    rw [n1]
    by_cases w1 : w = 1
    · rw [if_pos w1, if_pos w1] at h
      rw [if_pos (by simp [w1])]
      exact h
    · rw [if_neg w1, if_neg w1] at h
      rw [if_neg (by simp [w1])]
      exact h
end K00

set_option maxRecDepth 100000
set_option maxHeartbeats 1000000
namespace K00
open PySem PF NL
local macro_rules | `(tactic| simp! only [$ts,*]) => `(tactic| simp -implicitDefEqProofs only [V.e_un, V.u_len, V.u_mk, V.u_att, V.u_vA, V.u_vM, V.e_mkA, V.e_ixS, V.rd_d, V.rd_o, V.rd_b, V.da_d, V.da_o, V.das_n, V.das_c, V.rds_n, V.rds_c, V.tr_b, V.tr_i, V.tr_n, V.tr_l, V.tr_t, V.tr_o, V.bn_add, V.bn_sub, V.bn_mul, V.bn_fdiv, V.bn_mod, V.bn_pow, V.bn_cat, V.cp_eq, V.cp_ne, V.cp_lt, V.cp_le, V.cp_gt, V.cp_ge, V.cp_in, V.cp_nin, V.cp_eqEl, V.cp_neEl, V.cp_eqEt, V.cp_neEt, V.is_n, V.isn_n, V.is_b, V.isn_b, V.is_i, V.isn_i, V.is_s, V.isn_s, V.is_l, V.isn_l, V.is_t, V.isn_t, V.is_bb, V.isn_bb, V.ix_l, V.ix_t, V.sl_l, V.bi_len, V.bi_lent, V.bi_abs, V.bi_max2, V.bi_min2, V.bi_int, V.bi_intb, V.bi_list, V.bi_listt, V.bi_tup, V.bi_tupt, V.bi_sum, V.bi_any, V.bi_all, V.bi_min1, V.bi_max1, V.bi_sorted, V.bi_repr, V.bn_catt, V.sl_t, V.e_ixOf, V.e_ssort, V.s_parH, V.s_parI, V.e_din, V.e_dkeys, V.e_dsort, V.s_parG, V.s_dnewP, V.it_zip3, V.s_dnew, V.s_dset, V.dc_0, V.dc_1, V.dc_2, V.dc_3, V.dc_4, V.dc_5, V.dc_6, V.dc_7, V.dc_8, V.dc_9, V.dc_10, V.dc_11, V.dc_12, V.dc_13, V.dc_14, V.dc_15, V.sq_d, V.sq_t, V.sq_o, V.ls_d, V.ls_o, V.tg_n, V.tg_t, V.vd_0, V.vo_0, V.vd_1, V.vo_1, V.vd_2, V.vo_2, V.vd_3, V.vo_3, V.vd_4, V.vo_4, V.vd_5, V.vo_5, V.vd_6, V.vo_6, V.vd_7, V.vo_7, V.vd_8, V.vo_8, V.vd_9, V.vo_9, V.vd_10, V.vo_10, V.vd_11, V.vo_11, V.vd_12, V.vo_12, V.vd_13, V.vo_13, V.vd_14, V.vo_14, V.vd_15, V.vo_15, V.e_int, V.e_bool, V.e_none, V.e_str, V.e_glob, V.e_bin, V.e_not, V.e_and, V.e_or, V.e_cmp, V.e_chain, V.e_ife, V.e_tup, V.e_lst, V.e_ix, V.e_call, V.e_mkE, V.e_callR, V.e_callM, V.s_unpP, V.pr_p, V.rd_p, V.da_p, V.e_callK, V.e_bi, V.e_inst, V.e_instC, V.r_e, V.r_call, V.r_callK, V.r_ife, V.s_rexpr, V.s_rret, V.s_raiseX, V.s_raise, V.s_tryC, ins_n, call_X1, call_X2, call_X3, call_X4, call_X5, call_X8, V.e_comp, V.ng, V.e_neg, V.e_slU, V.e_slRev, V.rv_l, V.it_r3, V.e_slL, V.e_lrg1, V.e_lrg3, V.es_n, V.es_c, V.it_seq, V.it_r1, V.it_r2, V.it_en, V.it_zip, V.ss_n, V.ss_c, V.s_asgF, V.kp_d, V.kp_o, V.s_asg, V.s_par, V.s_parN, V.tp_d, V.s_unp, V.s_expr, V.s_ret, V.s_retN, V.s_ite, V.s_for, V.s_pass, V.s_brk, V.s_cont, V.fz_0, V.ow_0, V.ap_0, V.fz_1, V.ow_1, V.ap_1, V.fz_2, V.ow_2, V.ap_2, V.fz_3, V.ow_3, V.ap_3, V.fz_4, V.ow_4, V.ap_4, V.fz_5, V.ow_5, V.ap_5, V.fz_6, V.ow_6, V.ap_6, V.fz_7, V.ow_7, V.ap_7, V.fz_8, V.ow_8, V.ap_8, V.fz_9, V.ow_9, V.ap_9, V.fz_10, V.ow_10, V.ap_10, V.fz_11, V.ow_11, V.ap_11, V.fz_12, V.ow_12, V.ap_12, V.fz_13, V.ow_13, V.ap_13, V.fz_14, V.ow_14, V.ap_14, V.fz_15, V.ow_15, V.ap_15, getE, setE, setMany, setNils, isTy, tyOf, List.map_cons, List.map_nil, List.length_cons, List.length_nil, List.cons_append, List.nil_append, List.append_nil, Nat.reduceSub, Nat.reduceAdd, atI_0, atI_1, atI_2, call_W5, call_W4, call_W2, call_W2o, call_W1, call_W1o, call_W0, call_W3, call_L0, call_L1, call_L1o, call_L2, call_L3, Option.some.injEq, $ts,*])
/-! ### what is kept -/
def Wo (x : PyData) : Prop := x.canLay0 = true ∧ x.depth ≤ 3
theorem wo_none : Wo .none := ⟨rfl, Nat.zero_le _⟩
theorem wo_int (i : Int) : Wo (.int i) := ⟨rfl, Nat.zero_le _⟩
theorem lay_ints : ∀ xs : List PyData, (∀ y ∈ xs, ∃ i : Int, y = .int i) → PyData.canLayAll0 xs = true ∧ PyData.depthAll xs = 0
  | [], _ => ⟨rfl, rfl⟩
  | x :: xs, h => by
    obtain ⟨i, rfl⟩ := h x List.mem_cons_self
    obtain ⟨h1, h2⟩ := lay_ints xs fun y hy => h y (List.mem_cons_of_mem _ hy)
    refine ⟨?_, ?_⟩
    · simp only [PyData.canLayAll0, PyData.canLay0, h1, Bool.and_self]
    · simp only [PyData.depthAll, PyData.depth, h2, Nat.max_self]
theorem wo_list {xs : List PyData} (h : ∀ y ∈ xs, ∃ i : Int, y = .int i) : Wo (.list xs) := by
  obtain ⟨h1, h2⟩ := lay_ints xs h
  exact ⟨by simp only [PyData.canLay0, h1], by simp only [PyData.depth, h2]; decide⟩
theorem wo_tup {xs : List PyData} (h : ∀ y ∈ xs, ∃ i : Int, y = .int i) : Wo (.tuple xs) := by
  obtain ⟨h1, h2⟩ := lay_ints xs h
  exact ⟨by simp only [PyData.canLay0, h1], by simp only [PyData.depth, h2]; decide⟩
theorem wo_one : Wo (.str "-1") := ⟨by decide +kernel, Nat.zero_le _⟩
theorem wo_gear : Wo (.tuple [.str "gear", .int 0]) := ⟨by decide +kernel, by decide +kernel⟩
theorem shp3 {y : PyData} (h : Wo y) : SeqAt.shaped (.list [y, y, y]) = true := shp_list fun x hx => by
  simp only [List.mem_cons, List.not_mem_nil, or_false, or_self] at hx
  subst hx
  exact ⟨h.1, Nat.le_trans h.2 (by decide)⟩
theorem eqv3 {y : PyData} (h : Wo y) : PyData.eqv (.list [y, y, y]) (.list [y, y, y]) = true := SeqAt.eqv_refl _ (by simp only [PyData.canLay0, PyData.canLayAll0, h.1, Bool.and_self])
theorem eqv1 {y : PyData} (h : Wo y) : PyData.eqv y y = true := SeqAt.eqv_refl _ h.1
theorem iteN {c : Prop} [inst : Decidable c] {a b : Prop} (h : ¬ c) (hb : b) : if c then a else b := by rw [if_neg h]; exact hb
theorem iteP {c : Prop} [inst : Decidable c] {a b : Prop} (h : c) (hb : a) : if c then a else b := by rw [if_pos h]; exact hb
theorem ints_of {ds ys : List PyData} (h : All2 (fun _ y => ∃ i : Int, y = .int i) ds ys) : ∀ y ∈ ys, ∃ i : Int, y = .int i := by
  induction h with
  | nil => exact fun y hy => nomatch hy
  | cons h t ih =>
    intro y hy
    rcases List.mem_cons.mp hy with rfl | hy
    · exact h
    · exact ih y hy
def w__law_worth : LF := fun l xs k => ∃ n : Nat, xs = [] ∧ Urn n l ∧ n < 100000 ∧ ∀ x l', Wo x → Urn (n + 50) l' → k (.d x) l'
theorem m__law_worth : w__law_worth.Mono := fun l xs k k' h ⟨n, h1, h2, h3, h4⟩ => ⟨n, h1, h2, h3, fun x l' y z => h _ _ (h4 x l' y z)⟩
def sp__law_worth : ASp := spL w__law_worth m__law_worth
def ce__law_worth_1 : E := (.call "_law_signed" sp__law_signed (.cons (.var 0) .nil))
def b__law_worth_2 : Ss := (.cons (.ret (.call "_law_of" sp__law_of (.cons (.var 0) (.cons (.lst (.cons .none (.cons (.call "_law_signed" sp__law_signed (.cons (.var 0) .nil)) (.cons (.var 1) (.cons (.bi .tuple (.cons (.var 1) .nil)) (.cons (.bi .len (.cons (.var 1) .nil)) (.cons (.str "-1") (.cons (.tup (.cons (.str "gear") (.cons (.int 0) .nil))) .nil)))))))) .nil)))) .nil)
def b__law_worth : Ss := (.cons (.asgF 1 (.comp ce__law_worth_1 none .none (.nm 2) (.range1 (.call "_law_lift" sp__law_lift (.cons (.var 0) (.cons (.int 7) .nil)))) [("_law_k", 2)])) b__law_worth_2)
theorem wt2 {n : Nat} {l ys : List PyData} {D : AEnds} {s2 : Option AV} (hu : Urn n l) (hn : n < 900000) (hy : ∀ y ∈ ys, ∃ i : Int, y = .int i) (h : ∀ x env l', Wo x → Urn (n + 5) l' → getE env 0 = some (.o l') → D.rt (.d x) env) :
    wSs X0 b__law_worth_2 [some (.o l), some (.d (.list ys)), s2] D := by
  have sl := sizeLine_eq
  unfold b__law_worth_2
  simp! only [sp__law_signed]
  refine ⟨n, rfl, hu, by omega, fun i l1 si hu1 => ?_⟩
  simp! only [sp__law_of]
  refine ⟨n + 4, _, rfl, hu1, by omega, Nat.zero_lt_succ _, by show 7 < 1000000; decide, fun x l2 hx hu2 => ?_⟩
  simp! only []
  refine h x _ l2 ?_ hu2 rfl
  simp only [List.mem_cons, List.not_mem_nil, or_false] at hx
  rcases hx with rfl | rfl | rfl | rfl | rfl | rfl | rfl
  · exact wo_none
  · exact wo_int _
  · exact wo_list hy
  · exact wo_tup hy
  · exact wo_int _
  · exact wo_one
  · exact wo_gear
theorem p__law_worth : Body 1 3 [0] b__law_worth sp__law_worth := by
  refine body_LT (fun l xs k h => ?_) fun l xs k h D hD _ => ?_
  · obtain ⟨n, rfl, _⟩ := h; rfl
  obtain ⟨n, rfl, hu, hn, h⟩ := h
  have sl := sizeLine_eq
  have sm : ∀ a : Int, 0 ≤ a → a ≤ 100 → sz 2000 a := fun a h0 h1 => (show sz 10 a by unfold sz; omega).mono (by decide)
  unfold b__law_worth
  simp only [initE, List.map_cons, List.map_nil, List.length_cons, List.length_nil, Nat.reduceAdd, Nat.reduceSub, List.replicate, List.cons_append, List.nil_append]
  simp! only [sp__law_lift]
  refine ⟨n, 7, rfl, hu, by omega, by decide, sm _ (by decide) (by decide), fun r l1 r0 r1 hu1 => ?_⟩
  simp! only [rangeK]
  refine ⟨⟨by decide, by decide, by omega, by omega, by omega⟩, ⟨trivial, trivial⟩, ?_⟩
  have rl : (rangeL 0 r).length = r.toNat := by rw [rangeL_iv, List.length_map, iv_len]; omega
  refine comp_s (S := List PyData) (tg := .nm 2) (own := [("_law_k", 2)]) (fun l v => [some (.o l), none, v.map AV.d]) (fun m l => ∃ c, Urn c l ∧ c + 4 * m ≤ n + 30) (fun _ y => ∃ i : Int, y = .int i) (fun s x => rfl) (fun x s m hi q z => ?_) (fun s x k z => z) (rangeL 0 r) [] _ l1 0 _ rfl ?_ fun ys env' l3 henv hi ha => ?_
  · obtain ⟨c', hu', hc'⟩ := hi
    unfold ce__law_worth_1
    simp! only [Option.map, sp__law_signed]
    exact ⟨c', rfl, hu', by omega, fun i l' si hu2 => z _ _ ⟨i, rfl⟩ ⟨c' + 4, hu2, by omega⟩⟩
  · refine ⟨n + 1, hu1, ?_⟩
    rw [rl]
    omega
  · obtain ⟨c', hu3, hc'⟩ := hi
    rw [List.nil_append]
    have eb : backE [some (.o l1), none, none] env' [("_law_k", 2)] = [some (.o l3), none, none] := by
      rcases henv with ⟨rfl, rfl⟩ | ⟨x, rfl⟩
      · rfl
      · rfl
    rw [eb]
    simp! only []
    exact wt2 (n := c') hu3 (by omega) (ints_of ha) fun x env l' hx hu' he => hD _ env l' he (h x l' hx (hu'.mono (by omega)))
/-! ### the fields -/
theorem e_rep {env : AEnv} {Q : AV → AEnv → Prop} {X : XQ} {a n : E} : wE (.rep a n) env Q X = wE a env (fun x env1 => wE n env1 (fun y env2 => match x, y with | .o ds, .d (.int n) => (-(2 ^ 63) ≤ n ∧ n < 2 ^ 63 ∧ ds.length * n.toNat ≤ sizeLine) ∧ Q (.o (List.replicate n.toNat ds).flatten) env2 | _, _ => False) X) X := by first | rfl | (simp only [wE, wIt, wS])
theorem rep3 {y : PyData} : (List.replicate (Int.toNat 3) [y]).flatten = [y, y, y] := rfl
def w__law_fields_right : WF := fun xs k => ∃ x y, xs = [x, y] ∧ Wo x ∧ Wo y ∧ k (.d (.bool true))
theorem m__law_fields_right : w__law_fields_right.Mono := fun xs k k' h ⟨x, y, e, a, b, q⟩ => ⟨x, y, e, a, b, h _ q⟩
def sp__law_fields_right : ASp := spW w__law_fields_right m__law_fields_right
def ce__law_fields_right_1 : E := (.call "_law_caught" sp__law_caught (.cons (.var 6) (.cons (.var 0) .nil)))
def b__law_fields_right_4 : Ss := (.cons (.ret (.and (.cmp .eq (.call "_law_kept" sp__law_kept (.cons (.var 2) .nil)) (.rep (.lst (.cons (.var 0) .nil)) (.int 3))) (.cmp .eq (.call "_law_kept" sp__law_kept (.cons (.var 5) .nil)) (.rep (.lst (.cons (.var 0) .nil)) (.int 3))))) .nil)
def b__law_fields_right_3 : Ss := (.cons (.ite (.or (.cmp .ne (.call "_law_kept" sp__law_kept (.cons (.var 3) .nil)) (.rep (.lst (.cons (.var 1) .nil)) (.int 3))) (.cmp .ne (.call "_law_kept" sp__law_kept (.cons (.var 4) .nil)) (.rep (.lst (.cons (.var 0) .nil)) (.int 3)))) (.cons (.ret (.bool false))
  .nil) .nil) b__law_fields_right_4)
def b__law_fields_right_2 : Ss := (.cons (.par [4, 5] (.cons (.call "_law_named" sp__law_named (.cons (.var 0) .nil)) (.cons (.comp ce__law_fields_right_1 none .none (.nm 6) (.range1 (.int 3)) [("_law_way", 6)]) .nil))) b__law_fields_right_3)
def b__law_fields_right : Ss := (.cons (.par [2, 3] (.cons (.call "_law_valued" sp__law_valued (.cons (.var 0) .nil)) (.cons (.call "_law_valued" sp__law_valued (.cons (.var 1) .nil)) .nil))) b__law_fields_right_2)
def ansC (x : PyData) : PyData → PyData
  | .int w => objA (cat3 w "Stopped" "InvalidDeeds" "InvalidWords") (cat3 w "clicks" "entry" "spot") x
  | z => z
theorem map3 {x : PyData} : (rangeL 0 3).map (ansC x) = vals x := by
  have e : rangeL 0 3 = [.int 0, .int 1, .int 2] := rfl
  rw [e]
  rfl
theorem fr3 {x y : PyData} {s6 : Option AV} {D : AEnds} (hx : Wo x) (hy : Wo y) (h : ∀ env, D.rt (.d (.bool true)) env) :
    wSs X0 b__law_fields_right_3 [some (.d x), some (.d y), some (.d (.list (vals x))), some (.d (.list (vals y))), some (.d (.list (vals x))), some (.d (.list (vals x))), s6] D := by
  have sl := sizeLine_eq
  unfold b__law_fields_right_3
  simp! only [sp__law_kept]
  refine ⟨y, y, y, _, _, _, rfl, ?_⟩
  simp! only [e_rep]
  refine ⟨⟨by decide, by decide, by rw [sl]; exact of_decide_eq_true rfl⟩, ?_⟩
  simp! only [rep3]
  refine ⟨shp3 hy, shp3 hy, ?_⟩
  rw [eqv3 hy]
  simp! only [Bool.not_true, Bool.false_eq_true, if_false, sp__law_kept]
  refine ⟨x, x, x, _, _, _, rfl, ?_⟩
  simp! only [e_rep]
  refine ⟨⟨by decide, by decide, by rw [sl]; exact of_decide_eq_true rfl⟩, ?_⟩
  simp! only [rep3]
  refine ⟨shp3 hx, shp3 hx, ?_⟩
  refine iteN (by simp [eqv1 hx]) ?_
  unfold b__law_fields_right_4
  simp! only [sp__law_kept]
  refine ⟨x, x, x, _, _, _, rfl, ?_⟩
  simp! only [e_rep]
  refine ⟨⟨by decide, by decide, by rw [sl]; exact of_decide_eq_true rfl⟩, ?_⟩
  simp! only [rep3]
  refine ⟨shp3 hx, shp3 hx, ?_⟩
  rw [eqv3 hx]
  simp! only [if_true, sp__law_kept]
  refine ⟨x, x, x, _, _, _, rfl, ?_⟩
  simp! only [e_rep]
  refine ⟨⟨by decide, by decide, by rw [sl]; exact of_decide_eq_true rfl⟩, ?_⟩
  simp! only [rep3]
  refine ⟨shp3 hx, shp3 hx, ?_⟩
  simp only [eqv1 hx, Bool.and_self]
  exact h _
theorem p__law_fields_right : Body 2 7 [] b__law_fields_right sp__law_fields_right := by
  refine body_WT (fun xs k h => ?_) fun xs k h D hD _ _ => ?_
  · obtain ⟨x, y, rfl, _⟩ := h; rfl
  obtain ⟨x, y, rfl, hx, hy, h⟩ := h
  unfold b__law_fields_right
  simp only [initE, List.map_cons, List.map_nil, List.length_cons, List.length_nil, Nat.reduceAdd, Nat.reduceSub, List.replicate, List.cons_append, List.nil_append]
  simp! only [sp__law_valued]
  refine ⟨x, rfl, ?_⟩
  simp! only [sp__law_valued]
  refine ⟨y, rfl, ?_⟩
  simp! only []
  refine ⟨trivial, ?_⟩
  unfold b__law_fields_right_2
  simp! only [sp__law_named]
  refine ⟨x, rfl, ?_⟩
  simp! only [rangeK]
  refine ⟨⟨by decide, by decide, by decide, by decide, by decide⟩, ⟨trivial, trivial⟩, ?_⟩
  refine comp_f (fun v => [some (.d x), some (.d y), some (.d (.list (vals x))), some (.d (.list (vals y))), none, none, v.map AV.d]) (fun _ => true) (ansC x) rfl (fun _ => rfl) rfl (fun _ => rfl) (fun x _ k z => z) (fun _ _ _ => rfl) (fun x _ z => absurd rfl z) (fun z hz _ q r => ?_) ?_
  · unfold ce__law_fields_right_1
    rw [rangeL_iv] at hz
    obtain ⟨w, _, rfl⟩ := List.mem_map.mp hz
    simp! only [Option.map, sp__law_caught]
    exact ⟨w, x, rfl, r⟩
  · intro env' hb
    rw [List.filter_eq_self.mpr (by simp), hb, map3]
    simp! only []
    refine ⟨trivial, ?_⟩
    exact fr3 hx hy fun env => hD _ env h
end K00

set_option maxRecDepth 100000
set_option maxHeartbeats 1000000
namespace K00
open PySem PF NL
local macro_rules | `(tactic| simp! only [$ts,*]) => `(tactic| simp -implicitDefEqProofs only [V.e_un, V.u_len, V.u_mk, V.u_att, V.u_vA, V.u_vM, V.e_mkA, V.e_ixS, V.rd_d, V.rd_o, V.rd_b, V.da_d, V.da_o, V.das_n, V.das_c, V.rds_n, V.rds_c, V.tr_b, V.tr_i, V.tr_n, V.tr_l, V.tr_t, V.tr_o, V.bn_add, V.bn_sub, V.bn_mul, V.bn_fdiv, V.bn_mod, V.bn_pow, V.bn_cat, V.cp_eq, V.cp_ne, V.cp_lt, V.cp_le, V.cp_gt, V.cp_ge, V.cp_in, V.cp_nin, V.cp_eqEl, V.cp_neEl, V.cp_eqEt, V.cp_neEt, V.is_n, V.isn_n, V.is_b, V.isn_b, V.is_i, V.isn_i, V.is_s, V.isn_s, V.is_l, V.isn_l, V.is_t, V.isn_t, V.is_bb, V.isn_bb, V.ix_l, V.ix_t, V.sl_l, V.bi_len, V.bi_lent, V.bi_abs, V.bi_max2, V.bi_min2, V.bi_int, V.bi_intb, V.bi_list, V.bi_listt, V.bi_tup, V.bi_tupt, V.bi_sum, V.bi_any, V.bi_all, V.bi_min1, V.bi_max1, V.bi_sorted, V.bi_repr, V.bn_catt, V.sl_t, V.e_ixOf, V.e_ssort, V.s_parH, V.s_parI, V.e_din, V.e_dkeys, V.e_dsort, V.s_parG, V.s_dnewP, V.it_zip3, V.s_dnew, V.s_dset, V.dc_0, V.dc_1, V.dc_2, V.dc_3, V.dc_4, V.dc_5, V.dc_6, V.dc_7, V.dc_8, V.dc_9, V.dc_10, V.dc_11, V.dc_12, V.dc_13, V.dc_14, V.dc_15, V.sq_d, V.sq_t, V.sq_o, V.ls_d, V.ls_o, V.tg_n, V.tg_t, V.vd_0, V.vo_0, V.vd_1, V.vo_1, V.vd_2, V.vo_2, V.vd_3, V.vo_3, V.vd_4, V.vo_4, V.vd_5, V.vo_5, V.vd_6, V.vo_6, V.vd_7, V.vo_7, V.vd_8, V.vo_8, V.vd_9, V.vo_9, V.vd_10, V.vo_10, V.vd_11, V.vo_11, V.vd_12, V.vo_12, V.vd_13, V.vo_13, V.vd_14, V.vo_14, V.vd_15, V.vo_15, V.e_int, V.e_bool, V.e_none, V.e_str, V.e_glob, V.e_bin, V.e_not, V.e_and, V.e_or, V.e_cmp, V.e_chain, V.e_ife, V.e_tup, V.e_lst, V.e_ix, V.e_call, V.e_mkE, V.e_callR, V.e_callM, V.s_unpP, V.pr_p, V.rd_p, V.da_p, V.e_callK, V.e_bi, V.e_inst, V.e_instC, V.r_e, V.r_call, V.r_callK, V.r_ife, V.s_rexpr, V.s_rret, V.s_raiseX, V.s_raise, V.s_tryC, ins_n, call_X1, call_X2, call_X3, call_X4, call_X5, call_X8, V.e_comp, V.ng, V.e_neg, V.e_slU, V.e_slRev, V.rv_l, V.it_r3, V.e_slL, V.e_lrg1, V.e_lrg3, V.es_n, V.es_c, V.it_seq, V.it_r1, V.it_r2, V.it_en, V.it_zip, V.ss_n, V.ss_c, V.s_asgF, V.kp_d, V.kp_o, V.s_asg, V.s_par, V.s_parN, V.tp_d, V.s_unp, V.s_expr, V.s_ret, V.s_retN, V.s_ite, V.s_for, V.s_pass, V.s_brk, V.s_cont, V.fz_0, V.ow_0, V.ap_0, V.fz_1, V.ow_1, V.ap_1, V.fz_2, V.ow_2, V.ap_2, V.fz_3, V.ow_3, V.ap_3, V.fz_4, V.ow_4, V.ap_4, V.fz_5, V.ow_5, V.ap_5, V.fz_6, V.ow_6, V.ap_6, V.fz_7, V.ow_7, V.ap_7, V.fz_8, V.ow_8, V.ap_8, V.fz_9, V.ow_9, V.ap_9, V.fz_10, V.ow_10, V.ap_10, V.fz_11, V.ow_11, V.ap_11, V.fz_12, V.ow_12, V.ap_12, V.fz_13, V.ow_13, V.ap_13, V.fz_14, V.ow_14, V.ap_14, V.fz_15, V.ow_15, V.ap_15, getE, setE, setMany, setNils, isTy, tyOf, List.map_cons, List.map_nil, List.length_cons, List.length_nil, List.cons_append, List.nil_append, List.append_nil, Nat.reduceSub, Nat.reduceAdd, atI_0, atI_1, atI_2, call_W5, call_W4, call_W2, call_W2o, call_W1, call_W1o, call_W0, call_W3, call_L0, call_L1, call_L1o, call_L2, call_L3, Option.some.injEq, $ts,*])
/-! ### the law -/
def sp_law : ASp := lawSp 63
def ce_law_1 : E := (.ixS (.var 4) (.call "_law_lift" sp__law_lift (.cons (.var 3) (.cons (.un .lenS (.var 4)) .nil))))
def ce_law_2 : E := (.cmp .eq (.var 8) (.var 9))
def u_law_3 : Ss := (.cons (.ite (.cmp .ne (.call "_law_truths" sp__law_truths (.cons (.ix (.var 7) (.var 8)) .nil)) (.comp ce_law_2 none .none (.nm 9) (.range1 (.bi .len (.cons (.var 7) .nil))) [("_law_at", 9)])) (.cons (.ret (.bool false))
  .nil) .nil)
  .nil)
def lb_law_4 : Ss := (.cons (.ite (.or (.not (.instC (.ix (.var 7) (.var 8)) "WheelError" tsW)) (.not (.un .instV (.ix (.var 7) (.var 8))))) (.cons (.ret (.bool false))
  .nil) .nil)
  u_law_3)
def u_law_5 : Ss := (.cons (.ite (.not (.call "_law_fields_right" sp__law_fields_right (.cons (.var 6) (.cons (.call "_law_worth" sp__law_worth (.cons (.var 3) .nil)) .nil)))) (.cons (.ret (.bool false))
  .nil) .nil)
  .nil)
def u_law_6 : Ss := (.cons (.ite (.or (.cmp .isin (.bool true) (.call "_law_truths" sp__law_truths (.cons (.un (.mkV "WheelError") (.var 5)) .nil))) (.not (.un .instV (.un (.mkV "WheelError") (.var 5))))) (.cons (.ret (.bool false))
  .nil) .nil)
  u_law_5)
def u_law_7 : Ss := (.cons (.forS (.nm 8) (.range1 (.bi .len (.cons (.var 7) .nil))) lb_law_4)
  u_law_6)
def u_law_8 : Ss := (.cons (.asgF 7 (.bin .add (.call "_law_texted" sp__law_texted (.cons (.var 5) .nil)) (.call "_law_valued" sp__law_valued (.cons (.var 6) .nil))))
  u_law_7)
def u_law_9 : Ss := (.cons (.asgF 6 (.call "_law_worth" sp__law_worth (.cons (.var 3) .nil)))
  u_law_8)
def u_law_10 : Ss := (.cons (.asgF 5 (.un .join (.comp ce_law_1 none .none (.nm 8) (.range1 (.call "_law_lift" sp__law_lift (.cons (.var 3) (.cons (.int 41) .nil)))) [("_law_k", 8)])))
  u_law_9)
def u_law_11 : Ss := (.cons (.asgF 4 (.str " !#$&()*+,-./0123456789:;<=>?@ABCXYZ[]^_abcxyz{|}~"))
  u_law_10)
def lb_law_12 : Ss := (.cons (.asg 3 (.call "_law_lot_of" sp__law_lot_of (.cons (.var 2) .nil)))
  u_law_11)
def b_law_3 : Ss := (.cons (.ret (.bool true)) .nil)
def b_law_2 : Ss := (.cons (.forS (.nm 2) (.seq (.bin .add (.lst (.cons (.var 1) .nil)) (.slU (.var 0) (.int 4)))) lb_law_12) b_law_3)
def b_law : Ss := (.cons (.asgF 1 (.int 839619146496021543174602534752756802274511794913931795222009606503382956279929832582605742871213)) b_law_2)
def made (s : Str) (x : PyData) : List PyData := TX.map (fun c => objM c s) ++ vals x
theorem made_len {s : Str} {x : PyData} : (made s x).length = 47 := rfl
theorem made_cls {s : Str} {x : PyData} : ∀ (l : List Str) (zs : List PyData), (∀ (j : Nat), j < l.length → ∃ c z, l[j]? = some c ∧ zs[j]? = some z ∧ Ob c z) → ∀ j, j < l.length → ∃ c z, l[j]? = some c ∧ zs[j]? = some z ∧ Ob c z := fun _ _ h => h
theorem obj_at {s : Str} {x : PyData} {j : Nat} (hj : j < 47) : ∃ c z, CLS[j]? = some c ∧ (made s x)[j]? = some z ∧ Ob c z := by
  by_cases h : j < 44
  · have ht : j < TX.length := h
    have e : CLS = TX ++ [("Stopped" : Str), ("InvalidDeeds" : Str), ("InvalidWords" : Str)] := rfl
    refine ⟨TX[j], objM TX[j] s, ?_, ?_, .inl ⟨s, rfl⟩⟩
    · rw [e, List.getElem?_append_left ht, List.getElem?_eq_getElem ht]
    · unfold made
      rw [List.getElem?_append_left (by rw [List.length_map]; exact ht), List.getElem?_map, List.getElem?_eq_getElem ht]
      rfl
  · have hj3 : j = 44 ∨ j = 45 ∨ j = 46 := by omega
    rcases hj3 with rfl | rfl | rfl
    · exact ⟨_, _, rfl, rfl, .inr ⟨_, _, rfl⟩⟩
    · exact ⟨_, _, rfl, rfl, .inr ⟨_, _, rfl⟩⟩
    · exact ⟨_, _, rfl, rfl, .inr ⟨_, _, rfl⟩⟩
theorem cls_in {j : Nat} {c : Str} (h : CLS[j]? = some c) : c ∈ CLT := List.mem_cons_of_mem _ (List.mem_of_getElem? h)
theorem tr_at : ∀ j : Fin 47, CLS.map (fun d => decide (CLS[j.val]? = some d)) = (List.range 47).map fun i => decide (j.val = i) := by decide +kernel
theorem tr_of {j : Nat} {c : Str} (hj : j < 47) (h : CLS[j]? = some c) : truths c = (rangeL 0 47).map fun z => .bool (PyData.eqv (.int (j : Int)) z) := by
  have e := tr_at ⟨j, hj⟩
  have e1 : truths c = (CLS.map (fun d => decide (CLS[j]? = some d))).map PyData.bool := by
    unfold truths
    rw [List.map_map, h]
    refine List.map_congr_left fun d _ => ?_
    simp
  rw [e1]
  have e2 : CLS.map (fun d => decide (CLS[j]? = some d)) = (List.range 47).map fun i => decide (j = i) := e
  rw [e2]
  unfold rangeL
  rw [List.map_map, List.map_map]
  show _ = (List.range 47).map _
  refine List.map_congr_left fun i _ => ?_
  show PyData.bool (decide (j = i)) = .bool (decide ((j : Int) = 0 + (i : Int)))
  congr 1
  exact decide_eq_decide.mpr (by omega)
theorem bl_shp {α : Type} {l : List α} {f : α → Bool} : SeqAt.shaped (.list (l.map fun a => PyData.bool (f a))) = true := shp_list fun x hx => by
  obtain ⟨a, _, rfl⟩ := List.mem_map.mp hx
  exact ⟨rfl, Nat.zero_le _⟩
theorem bl_eqv {α : Type} {l : List α} {f : α → Bool} : PyData.eqv (.list (l.map fun a => PyData.bool (f a))) (.list (l.map fun a => PyData.bool (f a))) = true := by
  show PyData.eqvAll _ _ = true
  refine eqvAll_same fun x hx => ?_
  obtain ⟨a, _, rfl⟩ := List.mem_map.mp hx
  simp [PyData.eqv]
theorem noW : ((truths "WheelError").any fun z => PyData.eqv z (.bool true)) = false := by decide +kernel
theorem in_W : ("WheelError" : Str) ∈ CLT := List.mem_cons_self
theorem c30 {f : LF} {m : f.Mono} {l : List PyData} {a b c d e g h i j : Option AV} {Q : AV → AEnv → Prop} {X : XQ} : callK (spL f m) [.b 3] [a, b, c, some (.o l), d, e, g, h, i, j] Q X ↔ f l [] fun r l' => Q r [a, b, c, some (.o l'), d, e, g, h, i, j] := call_L (vs := []) (xs := []) (env := [a, b, c, some (.o l), d, e, g, h, i, j]) rfl rfl
theorem c31 {f : LF} {m : f.Mono} {l : List PyData} {y : PyData} {a b c d e g h i j : Option AV} {Q : AV → AEnv → Prop} {X : XQ} : callK (spL f m) [.b 3, .d y] [a, b, c, some (.o l), d, e, g, h, i, j] Q X ↔ f l [y] fun r l' => Q r [a, b, c, some (.o l'), d, e, g, h, i, j] := call_L (vs := [.d y]) (xs := [y]) (env := [a, b, c, some (.o l), d, e, g, h, i, j]) rfl rfl
theorem strs_len {ds ys : List PyData} (h : All2 (fun _ y => ∃ s : Str, y = .str s ∧ s.length ≤ 1) ds ys) : ∃ ss : List Str, strsOf ys = some ss ∧ (ss.map (·.length)).sum ≤ ds.length := by
  induction h with
  | nil => exact ⟨[], rfl, Nat.le_refl _⟩
  | cons h t ih =>
    obtain ⟨s, rfl, hs⟩ := h
    obtain ⟨ss, e, hl⟩ := ih
    refine ⟨s :: ss, ?_, ?_⟩
    · unfold strsOf
      rw [e]
      rfl
    · simp only [List.map_cons, List.sum_cons, List.length_cons]
      omega
section
variable {a0 a1 a2 : Option AV} {v8 : Option PyData} {D : AEnds}
theorem lw5 {n : Nat} {l : List PyData} {S s : Str} {x : PyData} {d7 : Option AV} (hu : Urn n l) (hn : n < 10000) (hx : Wo x) (hD : ∀ l v8, D.nx [a0, a1, a2, some (.o l), some (.d (.str S)), some (.d (.str s)), some (.d x), d7, Option.map AV.d v8, none]) :
    wSs X0 u_law_5 [a0, a1, a2, some (.o l), some (.d (.str S)), some (.d (.str s)), some (.d x), d7, Option.map AV.d v8, none] D := by
  unfold u_law_5
  simp! only [c30, sp__law_worth]
  refine ⟨n, rfl, hu, by omega, fun y l1 hy hu1 => ?_⟩
  simp! only [sp__law_fields_right]
  refine ⟨x, y, rfl, hx, hy, ?_⟩
  simp! only [Bool.not_true, Bool.false_eq_true, if_false]
  exact hD _ _
theorem lw6 {n : Nat} {l : List PyData} {S s : Str} {x : PyData} {d7 : Option AV} (hu : Urn n l) (hn : n < 10000) (hx : Wo x) (hD : ∀ l v8, D.nx [a0, a1, a2, some (.o l), some (.d (.str S)), some (.d (.str s)), some (.d x), d7, Option.map AV.d v8, none]) :
    wSs X0 u_law_6 [a0, a1, a2, some (.o l), some (.d (.str S)), some (.d (.str s)), some (.d x), d7, Option.map AV.d v8, none] D := by
  have ow : Ob "WheelError" (objM "WheelError" s) := .inl ⟨s, rfl⟩
  unfold u_law_6
  simp! only [sp__law_truths]
  refine ⟨"WheelError", _, rfl, ow, in_W, ?_⟩
  simp! only []
  refine ⟨by decide +kernel, bl_shp, ?_⟩
  rw [noW]
  simp! only [Bool.not_true, Bool.false_eq_true, if_false]
  exact lw5 hu hn hx hD
theorem lb4 {l : List PyData} {S s : Str} {x : PyData} {j : Nat} (hj : j < 47) (hD : D.nx [a0, a1, a2, some (.o l), some (.d (.str S)), some (.d (.str s)), some (.d x), some (.d (.list (made s x))), some (.d (.int (j : Int))), none]) :
    wSs X0 lb_law_4 [a0, a1, a2, some (.o l), some (.d (.str S)), some (.d (.str s)), some (.d x), some (.d (.list (made s x))), some (.d (.int (j : Int))), none] D := by
  obtain ⟨c, z, hc, hz, ho⟩ := obj_at (s := s) (x := x) hj
  have ea : L2.atI (made s x) (j : Int) = some z := by rw [atI_lt (by omega) (by rw [made_len]; omega)]; exact hz
  have hi := cls_in hc
  unfold lb_law_4
  simp! only [ea, ins_W ho hi, un_V ho, Bool.not_true, Bool.false_eq_true, if_false]
  unfold u_law_3
  simp! only [ea, sp__law_truths]
  refine ⟨c, z, rfl, ho, hi, ?_⟩
  simp! only [rangeK, made_len]
  refine ⟨⟨by decide, by decide, by decide, by decide, by decide⟩, ⟨trivial, trivial⟩, ?_⟩
  refine comp_f (fun v => [a0, a1, a2, some (.o l), some (.d (.str S)), some (.d (.str s)), some (.d x), some (.d (.list (made s x))), some (.d (.int (j : Int))), v.map AV.d]) (fun _ => true) (fun z => .bool (PyData.eqv (.int (j : Int)) z)) rfl (fun _ => rfl) rfl (fun _ => rfl) (fun x _ k z => z) (fun _ _ _ => rfl) (fun x _ z => absurd rfl z) (fun z hz _ q r => ?_) ?_
  · rw [rangeL_iv] at hz
    obtain ⟨w, _, rfl⟩ := List.mem_map.mp hz
    unfold ce_law_2
    simp! only [Option.map]
    exact ⟨rfl, rfl, r⟩
  · intro env' hb
    rw [List.filter_eq_self.mpr (by simp), hb]
    have et : truths c = (rangeL 0 ((47 : Nat) : Int)).map fun z => .bool (PyData.eqv (.int (j : Int)) z) := tr_of hj hc
    rw [← et]
    simp! only []
    refine ⟨bl_shp, bl_shp, ?_⟩
    have e0 : PyData.eqv (.list (truths c)) (.list (truths c)) = true := bl_eqv
    have e : PyData.eqvAll (truths c) (truths c) = true := e0
    refine iteN (by rw [e]; decide) ?_
    exact hD
theorem lw7 {n : Nat} {l : List PyData} {S s : Str} {x : PyData} (hu : Urn n l) (hn : n < 10000) (hx : Wo x) (hD : ∀ l d7 v8, D.nx [a0, a1, a2, some (.o l), some (.d (.str S)), some (.d (.str s)), some (.d x), d7, Option.map AV.d v8, none]) :
    wSs X0 u_law_7 [a0, a1, a2, some (.o l), some (.d (.str S)), some (.d (.str s)), some (.d x), some (.d (.list (made s x))), Option.map AV.d v8, none] D := by
  unfold u_law_7
  simp! only [rangeK, made_len]
  refine ⟨⟨by decide, by decide, by decide, by decide, by decide⟩, ?_⟩
  rw [rangeL_iv]
  refine for_inv (fun xs env => ∃ (j : Nat) (v8 : Option PyData), xs = (iv (j : Int) 47).map .int ∧ j ≤ 47 ∧ env = [a0, a1, a2, some (.o l), some (.d (.str S)), some (.d (.str s)), some (.d x), some (.d (.list (made s x))), Option.map AV.d v8, none]) (fun env D D' => body_mono env D D') ?_ ?_ ⟨0, v8, rfl, by omega, rfl⟩
  · rintro env ⟨j, v8, e, _, rfl⟩
    exact lw6 hu hn hx fun l v8 => hD l _ v8
  · rintro y xs env ⟨j, v8, e, hj, rfl⟩
    by_cases z : j = 47
    · subst z
      rw [iv_nil (show (47 : Int) ≤ ((47 : Nat) : Int) by omega)] at e
      simp at e
    · rw [iv_cons (by omega)] at e
      simp only [List.map_cons, List.cons.injEq] at e
      obtain ⟨rfl, rfl⟩ := e
      simp only [tgK, setE]
      exact lb4 (by omega) ⟨j + 1, some (.int (j : Int)), rfl, by omega, rfl⟩
theorem lw8 {n : Nat} {l : List PyData} {S s : Str} {x : PyData} {d7 : Option AV} (hu : Urn n l) (hn : n < 10000) (hx : Wo x) (hD : ∀ l d7 v8, D.nx [a0, a1, a2, some (.o l), some (.d (.str S)), some (.d (.str s)), some (.d x), d7, Option.map AV.d v8, none]) :
    wSs X0 u_law_8 [a0, a1, a2, some (.o l), some (.d (.str S)), some (.d (.str s)), some (.d x), d7, Option.map AV.d v8, none] D := by
  have sl := sizeLine_eq
  unfold u_law_8
  simp! only [sp__law_texted]
  refine ⟨s, rfl, ?_⟩
  simp! only [sp__law_valued]
  refine ⟨x, rfl, ?_⟩
  simp! only []
  refine ⟨by rw [sl]; show 44 + 3 ≤ 16777216; decide, ?_⟩
  exact lw7 hu hn hx hD
theorem lw9 {n : Nat} {l : List PyData} {S s : Str} {d6 d7 : Option AV} (hu : Urn n l) (hn : n < 1000) (hD : ∀ l d6 d7 v8, D.nx [a0, a1, a2, some (.o l), some (.d (.str S)), some (.d (.str s)), d6, d7, Option.map AV.d v8, none]) :
    wSs X0 u_law_9 [a0, a1, a2, some (.o l), some (.d (.str S)), some (.d (.str s)), d6, d7, Option.map AV.d v8, none] D := by
  unfold u_law_9
  simp! only [c30, sp__law_worth]
  refine ⟨n, rfl, hu, by omega, fun x l1 hx hu1 => ?_⟩
  simp! only []
  exact lw8 hu1 (by omega) hx fun l d7 v8 => hD l _ d7 v8
theorem lw10 {n : Nat} {l : List PyData} {S : Str} {d5 d6 d7 : Option AV} (hS0 : 0 < S.length) (hS : S.length < 1000) (hu : Urn n l) (hn : n < 100) (hD : ∀ l d5 d6 d7 v8, D.nx [a0, a1, a2, some (.o l), some (.d (.str S)), d5, d6, d7, Option.map AV.d v8, none]) :
    wSs X0 u_law_10 [a0, a1, a2, some (.o l), some (.d (.str S)), d5, d6, d7, Option.map AV.d v8, none] D := by
  have sl := sizeLine_eq
  have sm : ∀ a : Int, 0 ≤ a → a ≤ 1000 → sz 2000 a := fun a h0 h1 => (show sz 10 a by unfold sz; omega).mono (by decide)
  unfold u_law_10
  simp! only [c31, sp__law_lift]
  refine ⟨n, 41, rfl, hu, by omega, by decide, sm _ (by decide) (by decide), fun r l1 r0 r1 hu1 => ?_⟩
  simp! only [rangeK]
  refine ⟨⟨by decide, by decide, by omega, by omega, by omega⟩, ⟨by cases v8 <;> trivial, trivial⟩, ?_⟩
  have rl : (rangeL 0 r).length = r.toNat := by rw [rangeL_iv, List.length_map, iv_len]; omega
  refine comp_s (S := List PyData) (tg := .nm 8) (own := [("_law_k", 8)]) (fun l v => [a0, a1, a2, some (.o l), some (.d (.str S)), d5, d6, d7, v.map AV.d, none]) (fun m l => ∃ c, Urn c l ∧ c + m ≤ n + 60) (fun _ y => ∃ s : Str, y = .str s ∧ s.length ≤ 1) (fun s x => rfl) (fun x s m hi q z => ?_) (fun s x k z => z) (rangeL 0 r) [] _ l1 0 _ rfl ?_ fun ys env' l3 henv hi ha => ?_
  · obtain ⟨c', hu', hc'⟩ := hi
    unfold ce_law_1
    simp! only [Option.map]
    refine ⟨by rw [sl]; omega, ?_⟩
    simp! only [c31, sp__law_lift]
    refine ⟨c', (S.length : Int), rfl, hu', by omega, by omega, sm _ (by omega) (by omega), fun i l' i0 i1 hu2 => ?_⟩
    simp! only [ixSK]
    refine ⟨⟨i0, by omega, i1⟩, fun cp _ => ?_⟩
    exact z _ _ ⟨⟨#[cp]⟩, rfl, Nat.le_refl _⟩ ⟨c' + 1, hu2, by omega⟩
  · refine ⟨n + 1, hu1, ?_⟩
    rw [rl]
    omega
  · obtain ⟨c', hu3, hc'⟩ := hi
    rw [List.nil_append]
    have eb : backE [a0, a1, a2, some (.o l1), some (.d (.str S)), d5, d6, d7, Option.map AV.d v8, none] env' [("_law_k", 8)] = [a0, a1, a2, some (.o l3), some (.d (.str S)), d5, d6, d7, Option.map AV.d v8, none] := by
      rcases henv with ⟨rfl, rfl⟩ | ⟨x, rfl⟩
      · rfl
      · rfl
    rw [eb]
    obtain ⟨ss, es, hl⟩ := strs_len ha
    simp! only [unK, es]
    refine ⟨by omega, fun s => ?_⟩
    try simp! only []
    exact lw9 hu3 (by omega) fun l d6 d7 v8 => hD l _ d6 d7 v8
theorem cell {c : Int} {d3 d4 d5 d6 d7 : Option AV} (hD : ∀ d3 d4 d5 d6 d7 v8, D.nx [a0, a1, some (.d (.int c)), d3, d4, d5, d6, d7, Option.map AV.d v8, none]) :
    wSs X0 lb_law_12 [a0, a1, some (.d (.int c)), d3, d4, d5, d6, d7, Option.map AV.d v8, none] D := by
  unfold lb_law_12
  simp! only [sp__law_lot_of, w__law_lot_of]
  intro l hu
  try simp! only []
  unfold u_law_11
  simp! only []
  exact lw10 (by decide +kernel) (by decide +kernel) hu (by decide) fun l d5 d6 d7 v8 => hD _ _ d5 d6 d7 v8
end
theorem cut_take' (xs : List PyData) (n : Nat) : cutD xs none (some (n : Int)) = xs.take n := by
  unfold cutD
  rw [HT.sIx_none, HT.sIx_nat, List.drop_zero, Nat.sub_zero]
  by_cases h : n ≤ xs.length
  · rw [Nat.min_eq_left h]
  · rw [Nat.min_eq_right (by omega), List.take_length, List.take_of_length_le (by omega)]
theorem cut_4 (xs : List PyData) : cutD xs none (some 4) = xs.take 4 := cut_take' xs 4
theorem lw2 {tt lb : Ss} {D : AEnds} {rows : List PyData} {g : PyData} {r : List (Option AV)} (hl : rows.length ≤ 63) (h : forW (fun e D' => wSs X0 lb e D') (.nm 2) { nx := fun env => wSs X0 tt env D, rt := D.rt, bk := D.bk, ct := D.ct } (g :: rows.take 4) (some (.d (.list rows)) :: some (.d g) :: r)) :
    wSs X0 (.cons (.forS (.nm 2) (.seq (.bin .add (.lst (.cons (.var 1) .nil)) (.slU (.var 0) (.int 4)))) lb) tt) (some (.d (.list rows)) :: some (.d g) :: r) D := by
  rw [← cut_4] at h
  refine ⟨?_, h⟩
  rw [cut_4, List.length_take, sizeLine_eq]
  simp only [List.length_cons, List.length_nil]
  omega
theorem as1 {tt : Ss} {D : AEnds} {i : Nat} {v : Int} {env : AEnv} (h : wSs X0 tt (setE env i (some (.d (.int v)))) D) : wSs X0 (.cons (.asgF i (.int v)) tt) env D := h
theorem p_law : Body 1 10 [] b_law sp_law := by
  refine ⟨?_, ?_, ?_⟩
  · rintro as Q X ⟨ns, rfl, _⟩; rfl
  · rintro as Q X ⟨ns, rfl, _⟩ i ds z
    match i, z with
    | 0, z => cases z
    | i + 1, z => simp at z
  rintro as Q ⟨ns, rfl, hl, hz, q⟩
  suffices H : ∀ D : AEnds, (∀ env, D.rt (.d (.bool true)) env) → wSs X0 b_law (initE 10 [AV.d (.list (ns.map .int))]) D from H _ fun env => q
  intro D hD
  unfold b_law
  generalize (839619146496021543174602534752756802274511794913931795222009606503382956279929832582605742871213 : Int) = G
  simp only [initE, List.map_cons, List.map_nil, List.length_cons, List.length_nil, Nat.reduceAdd, Nat.reduceSub, List.replicate, List.cons_append, List.nil_append]
  refine as1 ?_
  simp only [setE]
  unfold b_law_2
  refine lw2 (by rw [List.length_map]; exact hl) ?_
  rw [← List.map_take]
  show forW _ _ _ ((G :: ns.take 4).map PyData.int) _
  refine for_inv (fun xs env => ∃ (cs : List Int) (d2 d3 d4 d5 d6 d7 : Option AV) (v8 : Option PyData), xs = cs.map .int ∧ env = [some (.d (.list (ns.map .int))), some (.d (.int G)), d2, d3, d4, d5, d6, d7, Option.map AV.d v8, none]) (fun env D D' => body_mono env D D') ?_ ?_ ⟨G :: ns.take 4, none, none, none, none, none, none, none, rfl, rfl⟩
  · rintro env ⟨cs, d2, d3, d4, d5, d6, d7, v8, e, rfl⟩
    unfold b_law_3
    simp! only []
    exact hD _
  · rintro z xs env ⟨cs, d2, d3, d4, d5, d6, d7, v8, e, rfl⟩
    cases cs with
    | nil => cases e
    | cons c cs =>
      simp only [List.map_cons, List.cons.injEq] at e
      obtain ⟨rfl, rfl⟩ := e
      simp only [tgK, setE]
      exact cell fun d3 d4 d5 d6 d7 v8 => ⟨cs, _, _, _, _, _, _, _, rfl, rfl⟩
end K00

set_option maxRecDepth 100000
set_option maxHeartbeats 1000000
namespace K00
open PySem PySem.Spec PyProof.Rows L2 PF
section
variable {P : Program} {w : World} {K : PySem.W.Frag} {mg : Str → Option Value} {base : Heap} {k : Nat}
theorem caught_g {x qual : Str} {st st0 st2 : Stmt} {f : Addr} {fd : FuncData} {N ps : List Str} {e0 e1 : Expr} {p1 p2 p3 p4 q1 q2 q3 q4 r1 r2 r3 r4 np py pm sp pos pos' i0 i1 : Pos} {cs : List Str} (kk : 2 ≤ k) (Fn : Fun K x qual st f fd) (S : FnScope N ps (defScope st)) (hps : ps.length = 2) (hNl : N.length = 4)
    (hb : defBody st = [st0, .Try [.If e0 [.Raise (some (.Call (.Name "Stopped" p1) [.Name "_law_worth_here" p2] [] p3)) none p4] [] i0, .If e1 [.Raise (some (.Call (.Name "InvalidDeeds" q1) [.Name "_law_worth_here" q2] [] q3)) none q4] [] i1, .Raise (some (.Call (.Name "InvalidWords" r1) [.Name "_law_worth_here" r2] [] r3)) none r4] [.ExceptHandler (some (.Name "WheelError" np)) (some "e") [.Assign [.Name "_law_caught_here" py] (.Name "e" pm) sp] pos'] [] [] pos, st2])
    (k0 : chkS ⟨N, defScope st, fun _ => true, []⟩ (.asgF 2 .none) st0 = true) (k2 : chkS ⟨N, defScope st, fun _ => true, []⟩ (.ret (.var 2)) st2 = true)
    (h0 : chkE ⟨N, defScope st, fun _ => true, []⟩ (.cmp .eq (.var 0) (.int 0)) e0 = true) (h1 : chkE ⟨N, defScope st, fun _ => true, []⟩ (.cmp .eq (.var 0) (.int 1)) e1 = true)
    (hv : nameIs ⟨N, defScope st, fun _ => true, []⟩ 1 "_law_worth_here" = true) (hj : storeIs ⟨N, defScope st, fun _ => true, []⟩ 2 "_law_caught_here" = true) (he : nameIs ⟨N, defScope st, fun _ => true, []⟩ 3 "e" = true) (hel : (defScope st).names.lookup ("e" : Str) = some .local)
    (g0 : glIs ⟨N, defScope st, fun _ => true, []⟩ "Stopped" = true) (g1 : glIs ⟨N, defScope st, fun _ => true, []⟩ "InvalidDeeds" = true) (g2 : glIs ⟨N, defScope st, fun _ => true, []⟩ "InvalidWords" = true) (gx : glIs ⟨N, defScope st, fun _ => true, []⟩ "WheelError" = true)
    (m0 : ("Stopped" : Str) ∈ cs) (m1 : ("InvalidDeeds" : Str) ∈ cs) (m2 : ("InvalidWords" : Str) ∈ cs) (A0 : InOk P K mg "Stopped" "clicks") (A1 : InOk P K mg "InvalidDeeds" "entry") (A2 : InOk P K mg "InvalidWords" "spot") (C : CatchOk K mg "WheelError" cs) (hbn : ∀ x ∈ bnames, mg x = none) :
    FnG P w K mg base (k + 1) f fd ps (liftSp K sp__law_caught) := by
  refine fn_gH (b := b__law_caught) (R := []) Fn S (by rw [hps, hNl]; exact p__law_caught) (fun X c tp tk => ?_) hbn
  rw [hb]
  exact tss_cons (sS (.asgF 2 .none) c tp tk k0 trivial) (tss_cons (ps_caught c tp kk A0 A1 A2 C m0 m1 m2 h0 h1 hv hj he hel g0 g1 g2 gx (by simp) (by simp)) (tss_cons (sS (.ret (.var 2)) c tp tk k2 trivial) tss_nil))
end
end K00

set_option maxRecDepth 100000
set_option maxHeartbeats 1000000
namespace K00E
theorem e_clsB : @K00E.clsB = @PF.clsB := rfl
theorem e_catQ : @K00E.catQ = @PF.catQ := rfl
theorem e_incB : ∀ l, K00E.incB l = PF.incB l
  | [] => rfl
  | [_] => rfl
  | a :: b :: r => by
    show (decide (a < b) && K00E.incB (b :: r)) = (decide (a < b) && PF.incB (b :: r))
    rw [e_incB (b :: r)]
theorem e_famB : @K00E.famB = @PF.famB := by
  funext K W CL
  unfold K00E.famB PF.famB
  rw [e_incB]
  rfl
theorem e_inB : @K00E.inB = @PF.inB := rfl
end K00E

namespace K00
open PySem PySem.Spec PyProof.Rows L2 PF
def n__law_lot_of : List Str := ["_law_cell"]
theorem s__law_lot_of : FnScope n__law_lot_of ["_law_cell"] (defScope t__law_lot_of) := ⟨rfl, rfl, rfl, by decide +kernel, rfl, by decide +kernel, by decide +kernel⟩
theorem c__law_lot_of : chkSs ⟨n__law_lot_of, defScope t__law_lot_of, fun _ => true, []⟩ b__law_lot_of (defBody t__law_lot_of) = true := by decide +kernel
def n__law_lift : List Str := ["_law_lot", "_law_many", "_law_stirred", "_law_drawn"]
theorem s__law_lift : FnScope n__law_lift ["_law_lot", "_law_many"] (defScope t__law_lift) := ⟨rfl, rfl, rfl, by decide +kernel, rfl, by decide +kernel, by decide +kernel⟩
theorem c__law_lift : chkSs ⟨n__law_lift, defScope t__law_lift, fun _ => true, [0]⟩ b__law_lift (defBody t__law_lift) = true := by decide +kernel
def n__law_of : List Str := ["_law_lot", "_law_things"]
theorem s__law_of : FnScope n__law_of ["_law_lot", "_law_things"] (defScope t__law_of) := ⟨rfl, rfl, rfl, by decide +kernel, rfl, by decide +kernel, by decide +kernel⟩
theorem c__law_of : chkSs ⟨n__law_of, defScope t__law_of, fun _ => true, [0]⟩ b__law_of (defBody t__law_of) = true := by decide +kernel
def n__law_great : List Str := ["_law_lot"]
theorem s__law_great : FnScope n__law_great ["_law_lot"] (defScope t__law_great) := ⟨rfl, rfl, rfl, by decide +kernel, rfl, by decide +kernel, by decide +kernel⟩
theorem c__law_great : chkSs ⟨n__law_great, defScope t__law_great, fun _ => true, [0]⟩ b__law_great (defBody t__law_great) = true := by decide +kernel
def n__law_far : List Str := ["_law_lot", "_law_way"]
theorem s__law_far : FnScope n__law_far ["_law_lot"] (defScope t__law_far) := ⟨rfl, rfl, rfl, by decide +kernel, rfl, by decide +kernel, by decide +kernel⟩
theorem c__law_far : chkSs ⟨n__law_far, defScope t__law_far, fun _ => true, [0]⟩ b__law_far (defBody t__law_far) = true := by decide +kernel
def n__law_signed : List Str := ["_law_lot"]
theorem s__law_signed : FnScope n__law_signed ["_law_lot"] (defScope t__law_signed) := ⟨rfl, rfl, rfl, by decide +kernel, rfl, by decide +kernel, by decide +kernel⟩
theorem c__law_signed : chkSs ⟨n__law_signed, defScope t__law_signed, fun _ => true, [0]⟩ b__law_signed (defBody t__law_signed) = true := by decide +kernel
def n__law_texted : List Str := ["_law_text", "_law_made"]
theorem s__law_texted : FnScope n__law_texted ["_law_text"] (defScope t__law_texted) := ⟨rfl, rfl, rfl, by decide +kernel, rfl, by decide +kernel, by decide +kernel⟩
theorem c__law_texted : chkSs ⟨n__law_texted, defScope t__law_texted, fun _ => true, []⟩ b__law_texted (defBody t__law_texted) = true := by decide +kernel
def n__law_valued : List Str := ["_law_worth_here"]
theorem s__law_valued : FnScope n__law_valued ["_law_worth_here"] (defScope t__law_valued) := ⟨rfl, rfl, rfl, by decide +kernel, rfl, by decide +kernel, by decide +kernel⟩
theorem c__law_valued : chkSs ⟨n__law_valued, defScope t__law_valued, fun _ => true, []⟩ b__law_valued (defBody t__law_valued) = true := by decide +kernel
def n__law_named : List Str := ["_law_worth_here"]
theorem s__law_named : FnScope n__law_named ["_law_worth_here"] (defScope t__law_named) := ⟨rfl, rfl, rfl, by decide +kernel, rfl, by decide +kernel, by decide +kernel⟩
theorem c__law_named : chkSs ⟨n__law_named, defScope t__law_named, fun _ => true, []⟩ b__law_named (defBody t__law_named) = true := by decide +kernel
def n__law_kept : List Str := ["_law_made"]
theorem s__law_kept : FnScope n__law_kept ["_law_made"] (defScope t__law_kept) := ⟨rfl, rfl, rfl, by decide +kernel, rfl, by decide +kernel, by decide +kernel⟩
theorem c__law_kept : chkSs ⟨n__law_kept, defScope t__law_kept, fun _ => true, []⟩ b__law_kept (defBody t__law_kept) = true := by decide +kernel
def n__law_truths : List Str := ["_law_thing", "_law_made"]
theorem s__law_truths : FnScope n__law_truths ["_law_thing"] (defScope t__law_truths) := ⟨rfl, rfl, rfl, by decide +kernel, rfl, by decide +kernel, by decide +kernel⟩
theorem c__law_truths : chkSs ⟨n__law_truths, defScope t__law_truths, fun _ => true, []⟩ b__law_truths (defBody t__law_truths) = true := by decide +kernel
def n__law_worth : List Str := ["_law_lot", "_law_lots", "_law_k"]
theorem s__law_worth : FnScope n__law_worth ["_law_lot"] (defScope t__law_worth) := ⟨rfl, rfl, rfl, by decide +kernel, rfl, by decide +kernel, by decide +kernel⟩
theorem c__law_worth : chkSs ⟨n__law_worth, defScope t__law_worth, fun _ => true, [0]⟩ b__law_worth (defBody t__law_worth) = true := by decide +kernel
def n__law_caught : List Str := ["_law_way", "_law_worth_here", "_law_caught_here", "e"]
theorem s__law_caught : FnScope n__law_caught ["_law_way", "_law_worth_here"] (defScope t__law_caught) := ⟨rfl, rfl, rfl, by decide +kernel, rfl, by decide +kernel, by decide +kernel⟩
def n__law_fields_right : List Str := ["_law_worth_here", "_law_other", "_law_made", "_law_beside", "_law_named_here", "_law_raised", "_law_way"]
theorem s__law_fields_right : FnScope n__law_fields_right ["_law_worth_here", "_law_other"] (defScope t__law_fields_right) := ⟨rfl, rfl, rfl, by decide +kernel, rfl, by decide +kernel, by decide +kernel⟩
theorem c__law_fields_right : chkSs ⟨n__law_fields_right, defScope t__law_fields_right, fun _ => true, []⟩ b__law_fields_right (defBody t__law_fields_right) = true := by decide +kernel
def n_law : List Str := ["_law_script", "_law_great_here", "_law_cell", "_law_lot", "_law_signs", "_law_text", "_law_worth_here", "_law_made", "_law_k", "_law_at"]
theorem s_law : FnScope n_law ["_law_script"] (defScope t_law) := ⟨rfl, rfl, rfl, by decide +kernel, rfl, by decide +kernel, by decide +kernel⟩
theorem c_law : chkSs ⟨n_law, defScope t_law, fun _ => true, []⟩ b_law (defBody t_law) = true := by decide +kernel
section
variable {P : Program} {w : World} {K : PySem.W.Frag} {mg : Str → Option Value} {base : Heap}
set_option maxHeartbeats 0 in
theorem chain {f__law_lot_of : Addr} {d__law_lot_of : FuncData} (F__law_lot_of : FP K "_law_lot_of" t__law_lot_of f__law_lot_of d__law_lot_of) (g__law_lot_of : mg "_law_lot_of" = some (.ref f__law_lot_of)) {f__law_lift : Addr} {d__law_lift : FuncData} (F__law_lift : FP K "_law_lift" t__law_lift f__law_lift d__law_lift) (g__law_lift : mg "_law_lift" = some (.ref f__law_lift)) {f__law_of : Addr} {d__law_of : FuncData} (F__law_of : FP K "_law_of" t__law_of f__law_of d__law_of) (g__law_of : mg "_law_of" = some (.ref f__law_of)) {f__law_great : Addr} {d__law_great : FuncData} (F__law_great : FP K "_law_great" t__law_great f__law_great d__law_great) (g__law_great : mg "_law_great" = some (.ref f__law_great)) {f__law_far : Addr} {d__law_far : FuncData} (F__law_far : FP K "_law_far" t__law_far f__law_far d__law_far) (g__law_far : mg "_law_far" = some (.ref f__law_far)) {f__law_signed : Addr} {d__law_signed : FuncData} (F__law_signed : FP K "_law_signed" t__law_signed f__law_signed d__law_signed) (g__law_signed : mg "_law_signed" = some (.ref f__law_signed)) {f__law_texted : Addr} {d__law_texted : FuncData} (F__law_texted : FP K "_law_texted" t__law_texted f__law_texted d__law_texted) (g__law_texted : mg "_law_texted" = some (.ref f__law_texted)) {f__law_valued : Addr} {d__law_valued : FuncData} (F__law_valued : FP K "_law_valued" t__law_valued f__law_valued d__law_valued) (g__law_valued : mg "_law_valued" = some (.ref f__law_valued)) {f__law_named : Addr} {d__law_named : FuncData} (F__law_named : FP K "_law_named" t__law_named f__law_named d__law_named) (g__law_named : mg "_law_named" = some (.ref f__law_named)) {f__law_kept : Addr} {d__law_kept : FuncData} (F__law_kept : FP K "_law_kept" t__law_kept f__law_kept d__law_kept) (g__law_kept : mg "_law_kept" = some (.ref f__law_kept)) {f__law_truths : Addr} {d__law_truths : FuncData} (F__law_truths : FP K "_law_truths" t__law_truths f__law_truths d__law_truths) (g__law_truths : mg "_law_truths" = some (.ref f__law_truths)) {f__law_worth : Addr} {d__law_worth : FuncData} (F__law_worth : FP K "_law_worth" t__law_worth f__law_worth d__law_worth) (g__law_worth : mg "_law_worth" = some (.ref f__law_worth)) {f__law_caught : Addr} {d__law_caught : FuncData} (F__law_caught : FP K "_law_caught" t__law_caught f__law_caught d__law_caught) (g__law_caught : mg "_law_caught" = some (.ref f__law_caught)) {f__law_fields_right : Addr} {d__law_fields_right : FuncData} (F__law_fields_right : FP K "_law_fields_right" t__law_fields_right f__law_fields_right d__law_fields_right) (g__law_fields_right : mg "_law_fields_right" = some (.ref f__law_fields_right)) {f_law : Addr} {d_law : FuncData} (F_law : FP K "law" t_law f_law d_law) (g_law : mg "law" = some (.ref f_law)) (O_InvalidAsked : ClsOk K mg "InvalidAsked") (O_InvalidChoice : ClsOk K mg "InvalidChoice") (O_InvalidClaim : ClsOk K mg "InvalidClaim") (O_InvalidCommand : ClsOk K mg "InvalidCommand") (O_InvalidCongruence : ClsOk K mg "InvalidCongruence") (O_InvalidCount : ClsOk K mg "InvalidCount") (O_InvalidFamily : ClsOk K mg "InvalidFamily") (O_InvalidFraction : ClsOk K mg "InvalidFraction") (O_InvalidGear : ClsOk K mg "InvalidGear") (O_InvalidGears : ClsOk K mg "InvalidGears") (O_InvalidGrain : ClsOk K mg "InvalidGrain") (O_InvalidIndex : ClsOk K mg "InvalidIndex") (O_InvalidLooks : ClsOk K mg "InvalidLooks") (O_InvalidMachine : ClsOk K mg "InvalidMachine") (O_InvalidNumber : ClsOk K mg "InvalidNumber") (O_InvalidOffers : ClsOk K mg "InvalidOffers") (O_InvalidPen : ClsOk K mg "InvalidPen") (O_InvalidPens : ClsOk K mg "InvalidPens") (O_InvalidPlace : ClsOk K mg "InvalidPlace") (O_InvalidProgression : ClsOk K mg "InvalidProgression") (O_InvalidProgressions : ClsOk K mg "InvalidProgressions") (O_InvalidRoots : ClsOk K mg "InvalidRoots") (O_InvalidRows : ClsOk K mg "InvalidRows") (O_InvalidSession : ClsOk K mg "InvalidSession") (O_InvalidShaft : ClsOk K mg "InvalidShaft") (O_InvalidSpot : ClsOk K mg "InvalidSpot") (O_InvalidState : ClsOk K mg "InvalidState") (O_InvalidSteps : ClsOk K mg "InvalidSteps") (O_InvalidTeeth : ClsOk K mg "InvalidTeeth") (O_InvalidTooth : ClsOk K mg "InvalidTooth") (O_InvalidTurn : ClsOk K mg "InvalidTurn") (O_InvalidWheel : ClsOk K mg "InvalidWheel") (O_NoBlock : ClsOk K mg "NoBlock") (O_NoTime : ClsOk K mg "NoTime") (O_NotDriven : ClsOk K mg "NotDriven") (O_NotFitting : ClsOk K mg "NotFitting") (O_NotOpen : ClsOk K mg "NotOpen") (O_NotPlain : ClsOk K mg "NotPlain") (O_NotReady : ClsOk K mg "NotReady") (O_NotSure : ClsOk K mg "NotSure") (O_NotTold : ClsOk K mg "NotTold") (O_NothingToUndo : ClsOk K mg "NothingToUndo") (O_Refused : ClsOk K mg "Refused") (O_TooMany : ClsOk K mg "TooMany") (O_WheelError : ClsOk K mg "WheelError") (C_WheelError : CatchOk K mg "WheelError" ["InvalidDeeds", "InvalidWords", "Stopped"]) (A_InvalidDeeds : InOk P K mg "InvalidDeeds" "entry") (A_InvalidWords : InOk P K mg "InvalidWords" "spot") (A_Stopped : InOk P K mg "Stopped" "clicks") (I_InvalidAsked : InstOk K mg "InvalidAsked" (tsOf "InvalidAsked")) (I_InvalidChoice : InstOk K mg "InvalidChoice" (tsOf "InvalidChoice")) (I_InvalidClaim : InstOk K mg "InvalidClaim" (tsOf "InvalidClaim")) (I_InvalidCommand : InstOk K mg "InvalidCommand" (tsOf "InvalidCommand")) (I_InvalidCongruence : InstOk K mg "InvalidCongruence" (tsOf "InvalidCongruence")) (I_InvalidCount : InstOk K mg "InvalidCount" (tsOf "InvalidCount")) (I_InvalidDeeds : InstOk K mg "InvalidDeeds" (tsOf "InvalidDeeds")) (I_InvalidFamily : InstOk K mg "InvalidFamily" (tsOf "InvalidFamily")) (I_InvalidFraction : InstOk K mg "InvalidFraction" (tsOf "InvalidFraction")) (I_InvalidGear : InstOk K mg "InvalidGear" (tsOf "InvalidGear")) (I_InvalidGears : InstOk K mg "InvalidGears" (tsOf "InvalidGears")) (I_InvalidGrain : InstOk K mg "InvalidGrain" (tsOf "InvalidGrain")) (I_InvalidIndex : InstOk K mg "InvalidIndex" (tsOf "InvalidIndex")) (I_InvalidLooks : InstOk K mg "InvalidLooks" (tsOf "InvalidLooks")) (I_InvalidMachine : InstOk K mg "InvalidMachine" (tsOf "InvalidMachine")) (I_InvalidNumber : InstOk K mg "InvalidNumber" (tsOf "InvalidNumber")) (I_InvalidOffers : InstOk K mg "InvalidOffers" (tsOf "InvalidOffers")) (I_InvalidPen : InstOk K mg "InvalidPen" (tsOf "InvalidPen")) (I_InvalidPens : InstOk K mg "InvalidPens" (tsOf "InvalidPens")) (I_InvalidPlace : InstOk K mg "InvalidPlace" (tsOf "InvalidPlace")) (I_InvalidProgression : InstOk K mg "InvalidProgression" (tsOf "InvalidProgression")) (I_InvalidProgressions : InstOk K mg "InvalidProgressions" (tsOf "InvalidProgressions")) (I_InvalidRoots : InstOk K mg "InvalidRoots" (tsOf "InvalidRoots")) (I_InvalidRows : InstOk K mg "InvalidRows" (tsOf "InvalidRows")) (I_InvalidSession : InstOk K mg "InvalidSession" (tsOf "InvalidSession")) (I_InvalidShaft : InstOk K mg "InvalidShaft" (tsOf "InvalidShaft")) (I_InvalidSpot : InstOk K mg "InvalidSpot" (tsOf "InvalidSpot")) (I_InvalidState : InstOk K mg "InvalidState" (tsOf "InvalidState")) (I_InvalidSteps : InstOk K mg "InvalidSteps" (tsOf "InvalidSteps")) (I_InvalidTeeth : InstOk K mg "InvalidTeeth" (tsOf "InvalidTeeth")) (I_InvalidTooth : InstOk K mg "InvalidTooth" (tsOf "InvalidTooth")) (I_InvalidTurn : InstOk K mg "InvalidTurn" (tsOf "InvalidTurn")) (I_InvalidWheel : InstOk K mg "InvalidWheel" (tsOf "InvalidWheel")) (I_InvalidWords : InstOk K mg "InvalidWords" (tsOf "InvalidWords")) (I_NoBlock : InstOk K mg "NoBlock" (tsOf "NoBlock")) (I_NoTime : InstOk K mg "NoTime" (tsOf "NoTime")) (I_NotDriven : InstOk K mg "NotDriven" (tsOf "NotDriven")) (I_NotFitting : InstOk K mg "NotFitting" (tsOf "NotFitting")) (I_NotOpen : InstOk K mg "NotOpen" (tsOf "NotOpen")) (I_NotPlain : InstOk K mg "NotPlain" (tsOf "NotPlain")) (I_NotReady : InstOk K mg "NotReady" (tsOf "NotReady")) (I_NotSure : InstOk K mg "NotSure" (tsOf "NotSure")) (I_NotTold : InstOk K mg "NotTold" (tsOf "NotTold")) (I_NothingToUndo : InstOk K mg "NothingToUndo" (tsOf "NothingToUndo")) (I_Refused : InstOk K mg "Refused" (tsOf "Refused")) (I_Stopped : InstOk K mg "Stopped" (tsOf "Stopped")) (I_TooMany : InstOk K mg "TooMany" (tsOf "TooMany")) (I_WheelError : InstOk K mg "WheelError" tsW) (hbn : ∀ x ∈ bnames, mg x = none) : FnG P w K mg base 6 f_law d_law ["_law_script"] (liftSp K sp_law) := by
  have h__law_lot_of : FnG P w K mg base 1 f__law_lot_of d__law_lot_of ["_law_cell"] (liftSp K sp__law_lot_of) := by
    refine fn_g (k := 0) (fun_of F__law_lot_of) s__law_lot_of p__law_lot_of c__law_lot_of ?_ hbn
    simp only [b__law_lot_of, okSs, okS, okRE, okE, okEs, okIt, okUN, lkOf, and_true, true_and]
  have k__law_lot_of : CallOk P w K mg base 1 "_law_lot_of" sp__law_lot_of := call_of F__law_lot_of g__law_lot_of h__law_lot_of (fun _ _ _ _ _ _ us hl => match us, hl with | [_], _ => rfl)
  have h__law_lift : FnG P w K mg base 1 f__law_lift d__law_lift ["_law_lot", "_law_many"] (liftSp K sp__law_lift) := by
    refine fn_g (k := 0) (fun_of F__law_lift) s__law_lift p__law_lift c__law_lift ?_ hbn
    simp only [b__law_lift, u__law_lift_1, u__law_lift_2, b__law_lift_5, b__law_lift_4, b__law_lift_3, b__law_lift_2, okSs, okS, okRE, okE, okEs, okIt, okUN, lkOf, and_true, true_and]
  have k__law_lift : CallOk P w K mg base 1 "_law_lift" sp__law_lift := call_of F__law_lift g__law_lift h__law_lift (fun _ _ _ _ _ _ us hl => match us, hl with | [_, _], _ => rfl)
  have h__law_of : FnG P w K mg base 2 f__law_of d__law_of ["_law_lot", "_law_things"] (liftSp K sp__law_of) := by
    refine fn_g (k := 1) (fun_of F__law_of) s__law_of p__law_of c__law_of ?_ hbn
    simp only [b__law_of, okSs, okS, okRE, okE, okEs, okIt, okUN, lkOf, and_true, true_and]
    (repeat' apply And.intro) <;> first | exact trivial | exact k__law_lift.mono (by decide) | decide
  have k__law_of : CallOk P w K mg base 2 "_law_of" sp__law_of := call_of F__law_of g__law_of h__law_of (fun _ _ _ _ _ _ us hl => match us, hl with | [_, _], _ => rfl)
  have h__law_great : FnG P w K mg base 2 f__law_great d__law_great ["_law_lot"] (liftSp K sp__law_great) := by
    refine fn_g (k := 1) (fun_of F__law_great) s__law_great p__law_great c__law_great ?_ hbn
    simp only [b__law_great, okSs, okS, okRE, okE, okEs, okIt, okUN, lkOf, and_true, true_and]
    (repeat' apply And.intro) <;> first | exact trivial | exact k__law_lift.mono (by decide) | decide
  have k__law_great : CallOk P w K mg base 2 "_law_great" sp__law_great := call_of F__law_great g__law_great h__law_great (fun _ _ _ _ _ _ us hl => match us, hl with | [_], _ => rfl)
  have h__law_far : FnG P w K mg base 3 f__law_far d__law_far ["_law_lot"] (liftSp K sp__law_far) := by
    refine fn_g (k := 2) (fun_of F__law_far) s__law_far p__law_far c__law_far ?_ hbn
    simp only [b__law_far, b__law_far_3, b__law_far_2, okSs, okS, okRE, okE, okEs, okIt, okUN, lkOf, and_true, true_and]
    (repeat' apply And.intro) <;> first | exact trivial | exact k__law_lift.mono (by decide) | exact k__law_great.mono (by decide) | decide
  have k__law_far : CallOk P w K mg base 3 "_law_far" sp__law_far := call_of F__law_far g__law_far h__law_far (fun _ _ _ _ _ _ us hl => match us, hl with | [_], _ => rfl)
  have h__law_signed : FnG P w K mg base 4 f__law_signed d__law_signed ["_law_lot"] (liftSp K sp__law_signed) := by
    refine fn_g (k := 3) (fun_of F__law_signed) s__law_signed p__law_signed c__law_signed ?_ hbn
    simp only [b__law_signed, okSs, okS, okRE, okE, okEs, okIt, okUN, lkOf, and_true, true_and]
    (repeat' apply And.intro) <;> first | exact trivial | exact k__law_far.mono (by decide) | exact k__law_lift.mono (by decide) | decide
  have k__law_signed : CallOk P w K mg base 4 "_law_signed" sp__law_signed := call_of F__law_signed g__law_signed h__law_signed (fun _ _ _ _ _ _ us hl => match us, hl with | [_], _ => rfl)
  have h__law_texted : FnG P w K mg base 1 f__law_texted d__law_texted ["_law_text"] (liftSp K sp__law_texted) := by
    refine fn_g (k := 0) (fun_of F__law_texted) s__law_texted p__law_texted c__law_texted ?_ hbn
    simp only [b__law_texted, b__law_texted_12, b__law_texted_11, b__law_texted_10, b__law_texted_9, b__law_texted_8, b__law_texted_7, b__law_texted_6, b__law_texted_5, b__law_texted_4, b__law_texted_3, b__law_texted_2, okSs, okS, okRE, okE, okEs, okIt, okUN, lkOf, and_true, true_and]
    (repeat' apply And.intro) <;> first | exact trivial | exact O_InvalidTurn | exact O_InvalidIndex | exact O_InvalidCount | exact O_InvalidNumber | exact O_InvalidCongruence | exact O_InvalidProgressions | exact O_InvalidProgression | exact O_InvalidMachine | exact O_InvalidSpot | exact O_InvalidSteps | exact O_InvalidGrain | exact O_InvalidShaft | exact O_InvalidGears | exact O_InvalidGear | exact O_InvalidFamily | exact O_InvalidTooth | exact O_InvalidTeeth | exact O_InvalidState | exact O_InvalidWheel | exact O_InvalidRows | exact O_InvalidRoots | exact O_InvalidPlace | exact O_InvalidFraction | exact O_InvalidClaim | exact O_InvalidSession | exact O_InvalidPens | exact O_InvalidPen | exact O_InvalidAsked | exact O_InvalidLooks | exact O_InvalidChoice | exact O_InvalidOffers | exact O_NotOpen | exact O_NotFitting | exact O_NotDriven | exact O_NotTold | exact O_NoTime | exact O_NothingToUndo | exact O_Refused | exact O_TooMany | exact O_NotPlain | exact O_NotSure | exact O_NotReady | exact O_InvalidCommand | exact O_NoBlock | decide
  have k__law_texted : CallOk P w K mg base 1 "_law_texted" sp__law_texted := call_of F__law_texted g__law_texted h__law_texted (fun _ _ _ _ _ _ us hl => match us, hl with | [_], _ => rfl)
  have h__law_valued : FnG P w K mg base 3 f__law_valued d__law_valued ["_law_worth_here"] (liftSp K sp__law_valued) := by
    refine fn_g (k := 2) (fun_of F__law_valued) s__law_valued p__law_valued c__law_valued ?_ hbn
    simp only [b__law_valued, okSs, okS, okRE, okE, okEs, okIt, okUN, lkOf, and_true, true_and]
    (repeat' apply And.intro) <;> first | exact trivial | exact ⟨by decide, A_InvalidWords⟩ | exact ⟨by decide, A_InvalidDeeds⟩ | exact ⟨by decide, A_Stopped⟩ | exact A_InvalidWords | exact A_InvalidDeeds | exact A_Stopped | decide
  have k__law_valued : CallOk P w K mg base 3 "_law_valued" sp__law_valued := call_of F__law_valued g__law_valued h__law_valued (fun _ _ _ _ _ _ us hl => match us, hl with | [_], _ => rfl)
  have h__law_named : FnG P w K mg base 3 f__law_named d__law_named ["_law_worth_here"] (liftSp K sp__law_named) := by
    refine fn_g (k := 2) (fun_of F__law_named) s__law_named p__law_named c__law_named ?_ hbn
    simp only [b__law_named, okSs, okS, okRE, okE, okEs, okIt, okUN, lkOf, and_true, true_and]
    (repeat' apply And.intro) <;> first | exact trivial | exact ⟨by decide, A_InvalidWords⟩ | exact ⟨by decide, A_InvalidDeeds⟩ | exact ⟨by decide, A_Stopped⟩ | exact A_InvalidWords | exact A_InvalidDeeds | exact A_Stopped | decide
  have k__law_named : CallOk P w K mg base 3 "_law_named" sp__law_named := call_of F__law_named g__law_named h__law_named (fun _ _ _ _ _ _ us hl => match us, hl with | [_], _ => rfl)
  have h__law_kept : FnG P w K mg base 1 f__law_kept d__law_kept ["_law_made"] (liftSp K sp__law_kept) := by
    refine fn_g (k := 0) (fun_of F__law_kept) s__law_kept p__law_kept c__law_kept ?_ hbn
    simp only [b__law_kept, okSs, okS, okRE, okE, okEs, okIt, okUN, lkOf, and_true, true_and]
  have k__law_kept : CallOk P w K mg base 1 "_law_kept" sp__law_kept := call_of F__law_kept g__law_kept h__law_kept (fun _ _ _ _ _ _ us hl => match us, hl with | [_], _ => rfl)
  have h__law_truths : FnG P w K mg base 1 f__law_truths d__law_truths ["_law_thing"] (liftSp K sp__law_truths) := by
    refine fn_g (k := 0) (fun_of F__law_truths) s__law_truths p__law_truths c__law_truths ?_ hbn
    simp only [b__law_truths, b__law_truths_23, b__law_truths_22, b__law_truths_21, b__law_truths_20, b__law_truths_19, b__law_truths_18, b__law_truths_17, b__law_truths_16, b__law_truths_15, b__law_truths_14, b__law_truths_13, b__law_truths_12, b__law_truths_11, b__law_truths_10, b__law_truths_9, b__law_truths_8, b__law_truths_7, b__law_truths_6, b__law_truths_5, b__law_truths_4, b__law_truths_3, b__law_truths_2, okSs, okS, okRE, okE, okEs, okIt, okUN, lkOf, and_true, true_and]
    (repeat' apply And.intro) <;> first | exact trivial | exact I_InvalidCount | exact I_InvalidNumber | exact I_InvalidTurn | exact I_InvalidIndex | exact I_InvalidProgressions | exact I_InvalidProgression | exact I_InvalidGrain | exact I_InvalidCongruence | exact I_InvalidSpot | exact I_InvalidSteps | exact I_InvalidFamily | exact I_InvalidMachine | exact I_InvalidGears | exact I_InvalidGear | exact I_InvalidWheel | exact I_InvalidShaft | exact I_InvalidTeeth | exact I_InvalidState | exact I_InvalidFraction | exact I_InvalidTooth | exact I_InvalidRoots | exact I_InvalidPlace | exact I_InvalidPen | exact I_InvalidRows | exact I_InvalidSession | exact I_InvalidPens | exact I_InvalidOffers | exact I_InvalidClaim | exact I_InvalidLooks | exact I_InvalidChoice | exact I_NotTold | exact I_NoTime | exact I_InvalidAsked | exact I_NotOpen | exact I_NotFitting | exact I_NotDriven | exact I_TooMany | exact I_NotPlain | exact I_NotSure | exact I_NoBlock | exact I_NothingToUndo | exact I_Refused | exact I_NotReady | exact I_InvalidCommand | exact I_InvalidDeeds | exact I_Stopped | exact I_InvalidWords | decide
  have k__law_truths : CallOk P w K mg base 1 "_law_truths" sp__law_truths := call_of F__law_truths g__law_truths h__law_truths (fun _ _ _ _ _ _ us hl => match us, hl with | [_], _ => rfl)
  have h__law_worth : FnG P w K mg base 5 f__law_worth d__law_worth ["_law_lot"] (liftSp K sp__law_worth) := by
    refine fn_g (k := 4) (fun_of F__law_worth) s__law_worth p__law_worth c__law_worth ?_ hbn
    simp only [b__law_worth, ce__law_worth_1, b__law_worth_2, okSs, okS, okRE, okE, okEs, okIt, okUN, lkOf, and_true, true_and]
    (repeat' apply And.intro) <;> first | exact trivial | exact k__law_signed.mono (by decide) | exact k__law_lift.mono (by decide) | exact k__law_of.mono (by decide) | decide
  have k__law_worth : CallOk P w K mg base 5 "_law_worth" sp__law_worth := call_of F__law_worth g__law_worth h__law_worth (fun _ _ _ _ _ _ us hl => match us, hl with | [_], _ => rfl)
  have h__law_caught : FnG P w K mg base 4 f__law_caught d__law_caught ["_law_way", "_law_worth_here"] (liftSp K sp__law_caught) := by
    exact caught_g (k := 3) (by decide) (fun_of F__law_caught) s__law_caught rfl rfl rfl (by decide +kernel) (by decide +kernel) (by decide +kernel) (by decide +kernel) (by decide +kernel) (by decide +kernel) (by decide +kernel) (by decide +kernel) (by decide +kernel) (by decide +kernel) (by decide +kernel) (by decide +kernel) (by decide +kernel) (by decide +kernel) (by decide +kernel) A_Stopped A_InvalidDeeds A_InvalidWords C_WheelError hbn
  have k__law_caught : CallOk P w K mg base 4 "_law_caught" sp__law_caught := call_of F__law_caught g__law_caught h__law_caught (fun _ _ _ _ _ _ us hl => match us, hl with | [_, _], _ => rfl)
  have h__law_fields_right : FnG P w K mg base 5 f__law_fields_right d__law_fields_right ["_law_worth_here", "_law_other"] (liftSp K sp__law_fields_right) := by
    refine fn_g (k := 4) (fun_of F__law_fields_right) s__law_fields_right p__law_fields_right c__law_fields_right ?_ hbn
    simp only [b__law_fields_right, ce__law_fields_right_1, b__law_fields_right_4, b__law_fields_right_3, b__law_fields_right_2, okSs, okS, okRE, okE, okEs, okIt, okUN, lkOf, and_true, true_and]
    (repeat' apply And.intro) <;> first | exact trivial | exact k__law_valued.mono (by decide) | exact k__law_caught.mono (by decide) | exact k__law_named.mono (by decide) | exact k__law_kept.mono (by decide) | decide
  have k__law_fields_right : CallOk P w K mg base 5 "_law_fields_right" sp__law_fields_right := call_of F__law_fields_right g__law_fields_right h__law_fields_right (fun _ _ _ _ _ _ us hl => match us, hl with | [_, _], _ => rfl)
  have h_law : FnG P w K mg base 6 f_law d_law ["_law_script"] (liftSp K sp_law) := by
    refine fn_g (k := 5) (fun_of F_law) s_law p_law c_law ?_ hbn
    simp only [b_law, ce_law_1, ce_law_2, u_law_3, lb_law_4, u_law_5, u_law_6, u_law_7, u_law_8, u_law_9, u_law_10, u_law_11, lb_law_12, b_law_3, b_law_2, okSs, okS, okRE, okE, okEs, okIt, okUN, lkOf, and_true, true_and]
    (repeat' apply And.intro) <;> first | exact trivial | exact k__law_lot_of.mono (by decide) | exact k__law_lift.mono (by decide) | exact k__law_worth.mono (by decide) | exact k__law_texted.mono (by decide) | exact k__law_valued.mono (by decide) | exact k__law_truths.mono (by decide) | exact k__law_fields_right.mono (by decide) | exact I_WheelError | exact O_WheelError | decide
  have k_law : CallOk P w K mg base 6 "law" sp_law := call_of F_law g_law h_law (fun _ _ _ _ _ _ us hl => match us, hl with | [_], _ => rfl)
  exact h_law
end
theorem facts {w : World} {K : PySem.W.Frag} {h : Heap} {mg : Str → Option Value} {f : Addr} (X : K.In h) (G : h.Ns mainGlobals mg) (hfa : mg ("law" : Str) = some (.ref f)) (hx : ex K = true) (c : He.SaysD fa fn K) :
    ∃ fd : FuncData, (∀ (s : Shared) (v : Value), BindsTo s fd ⟨[v], []⟩ [("_law_script", v)]) ∧ ∀ base : Heap, K.In base → base.Ns mainGlobals mg → FnG PRG w K mg base 6 f fd ["_law_script"] (liftSp K sp_law) := by
  obtain ⟨d__law_lot_of, F__law_lot_of⟩ := c.def_ 0 (d := dd__law_lot_of) rfl
  obtain ⟨d__law_lift, F__law_lift⟩ := c.def_ 1 (d := dd__law_lift) rfl
  obtain ⟨d__law_of, F__law_of⟩ := c.def_ 2 (d := dd__law_of) rfl
  obtain ⟨d__law_great, F__law_great⟩ := c.def_ 3 (d := dd__law_great) rfl
  obtain ⟨d__law_far, F__law_far⟩ := c.def_ 4 (d := dd__law_far) rfl
  obtain ⟨d__law_signed, F__law_signed⟩ := c.def_ 5 (d := dd__law_signed) rfl
  obtain ⟨d__law_texted, F__law_texted⟩ := c.def_ 6 (d := dd__law_texted) rfl
  obtain ⟨d__law_valued, F__law_valued⟩ := c.def_ 7 (d := dd__law_valued) rfl
  obtain ⟨d__law_named, F__law_named⟩ := c.def_ 8 (d := dd__law_named) rfl
  obtain ⟨d__law_kept, F__law_kept⟩ := c.def_ 9 (d := dd__law_kept) rfl
  obtain ⟨d__law_truths, F__law_truths⟩ := c.def_ 10 (d := dd__law_truths) rfl
  obtain ⟨d__law_worth, F__law_worth⟩ := c.def_ 11 (d := dd__law_worth) rfl
  obtain ⟨d__law_caught, F__law_caught⟩ := c.def_ 12 (d := dd__law_caught) rfl
  obtain ⟨d__law_fields_right, F__law_fields_right⟩ := c.def_ 13 (d := dd__law_fields_right) rfl
  obtain ⟨d_law, F_law⟩ := c.def_ 14 (d := dd_law) rfl
  have e := hfa.symm.trans (He.glo_ok X G (c.fact 14 (f := .glo "law") rfl))
  cases e
  have b := FunD.bindsA (ps := ["_law_script"]) F_law fun _ _ _ _ _ _ us hl => match us, hl with | [_], _ => rfl
  have hbn : ∀ x ∈ bnames, mg x = none := by
    intro x hx
    simp only [bnames, List.mem_cons, List.not_mem_nil, or_false] at hx
    rcases hx with rfl | rfl | rfl | rfl | rfl | rfl | rfl | rfl | rfl | rfl | rfl | rfl | rfl | rfl | rfl | rfl | rfl | rfl | rfl | rfl | rfl | rfl
    · exact He.free_ok X G (c.fact 15 (f := .free "len") rfl)
    · exact He.free_ok X G (c.fact 16 (f := .free "abs") rfl)
    · exact He.free_ok X G (c.fact 17 (f := .free "max") rfl)
    · exact He.free_ok X G (c.fact 18 (f := .free "min") rfl)
    · exact He.free_ok X G (c.fact 19 (f := .free "int") rfl)
    · exact He.free_ok X G (c.fact 20 (f := .free "sum") rfl)
    · exact He.free_ok X G (c.fact 21 (f := .free "any") rfl)
    · exact He.free_ok X G (c.fact 22 (f := .free "all") rfl)
    · exact He.free_ok X G (c.fact 23 (f := .free "list") rfl)
    · exact He.free_ok X G (c.fact 24 (f := .free "tuple") rfl)
    · exact He.free_ok X G (c.fact 25 (f := .free "sorted") rfl)
    · exact He.free_ok X G (c.fact 26 (f := .free "repr") rfl)
    · exact He.free_ok X G (c.fact 27 (f := .free "bool") rfl)
    · exact He.free_ok X G (c.fact 28 (f := .free "isinstance") rfl)
    · exact He.free_ok X G (c.fact 29 (f := .free "range") rfl)
    · exact He.free_ok X G (c.fact 30 (f := .free "enumerate") rfl)
    · exact He.free_ok X G (c.fact 31 (f := .free "zip") rfl)
    · exact He.free_ok X G (c.fact 32 (f := .free "str") rfl)
    · exact He.free_ok X G (c.fact 33 (f := .free "dict") rfl)
    · exact He.free_ok X G (c.fact 34 (f := .free "set") rfl)
    · exact He.free_ok X G (c.fact 35 (f := .free "ValueError") rfl)
    · exact He.free_ok X G (c.fact 36 (f := .free "super") rfl)
  have hx2 := hx
  simp only [ex, K00E.e_clsB, K00E.e_catQ, K00E.e_famB, K00E.e_inB, Bool.and_eq_true] at hx2
  have O_InvalidAsked : ClsOk K mg "InvalidAsked" := cls_of X G (c.fact 37 (f := .glo "InvalidAsked") rfl) hx2.1.1.1.1.1.1.1.1.1.1.1.1.1.1.1.1.1.1.1.1.1.1.1.1.1.1.1.1.1.1.1.1.1.1.1.1.1.1.1.1.1.1.1.1.1.1.1.1.1
  have O_InvalidChoice : ClsOk K mg "InvalidChoice" := cls_of X G (c.fact 38 (f := .glo "InvalidChoice") rfl) hx2.1.1.1.1.1.1.1.1.1.1.1.1.1.1.1.1.1.1.1.1.1.1.1.1.1.1.1.1.1.1.1.1.1.1.1.1.1.1.1.1.1.1.1.1.1.1.1.1.2
  have O_InvalidClaim : ClsOk K mg "InvalidClaim" := cls_of X G (c.fact 39 (f := .glo "InvalidClaim") rfl) hx2.1.1.1.1.1.1.1.1.1.1.1.1.1.1.1.1.1.1.1.1.1.1.1.1.1.1.1.1.1.1.1.1.1.1.1.1.1.1.1.1.1.1.1.1.1.1.1.2
  have O_InvalidCommand : ClsOk K mg "InvalidCommand" := cls_of X G (c.fact 40 (f := .glo "InvalidCommand") rfl) hx2.1.1.1.1.1.1.1.1.1.1.1.1.1.1.1.1.1.1.1.1.1.1.1.1.1.1.1.1.1.1.1.1.1.1.1.1.1.1.1.1.1.1.1.1.1.1.2
  have O_InvalidCongruence : ClsOk K mg "InvalidCongruence" := cls_of X G (c.fact 41 (f := .glo "InvalidCongruence") rfl) hx2.1.1.1.1.1.1.1.1.1.1.1.1.1.1.1.1.1.1.1.1.1.1.1.1.1.1.1.1.1.1.1.1.1.1.1.1.1.1.1.1.1.1.1.1.1.2
  have O_InvalidCount : ClsOk K mg "InvalidCount" := cls_of X G (c.fact 42 (f := .glo "InvalidCount") rfl) hx2.1.1.1.1.1.1.1.1.1.1.1.1.1.1.1.1.1.1.1.1.1.1.1.1.1.1.1.1.1.1.1.1.1.1.1.1.1.1.1.1.1.1.1.1.2
  have O_InvalidFamily : ClsOk K mg "InvalidFamily" := cls_of X G (c.fact 44 (f := .glo "InvalidFamily") rfl) hx2.1.1.1.1.1.1.1.1.1.1.1.1.1.1.1.1.1.1.1.1.1.1.1.1.1.1.1.1.1.1.1.1.1.1.1.1.1.1.1.1.1.1.1.2
  have O_InvalidFraction : ClsOk K mg "InvalidFraction" := cls_of X G (c.fact 45 (f := .glo "InvalidFraction") rfl) hx2.1.1.1.1.1.1.1.1.1.1.1.1.1.1.1.1.1.1.1.1.1.1.1.1.1.1.1.1.1.1.1.1.1.1.1.1.1.1.1.1.1.1.2
  have O_InvalidGear : ClsOk K mg "InvalidGear" := cls_of X G (c.fact 46 (f := .glo "InvalidGear") rfl) hx2.1.1.1.1.1.1.1.1.1.1.1.1.1.1.1.1.1.1.1.1.1.1.1.1.1.1.1.1.1.1.1.1.1.1.1.1.1.1.1.1.1.2
  have O_InvalidGears : ClsOk K mg "InvalidGears" := cls_of X G (c.fact 47 (f := .glo "InvalidGears") rfl) hx2.1.1.1.1.1.1.1.1.1.1.1.1.1.1.1.1.1.1.1.1.1.1.1.1.1.1.1.1.1.1.1.1.1.1.1.1.1.1.1.1.2
  have O_InvalidGrain : ClsOk K mg "InvalidGrain" := cls_of X G (c.fact 48 (f := .glo "InvalidGrain") rfl) hx2.1.1.1.1.1.1.1.1.1.1.1.1.1.1.1.1.1.1.1.1.1.1.1.1.1.1.1.1.1.1.1.1.1.1.1.1.1.1.1.2
  have O_InvalidIndex : ClsOk K mg "InvalidIndex" := cls_of X G (c.fact 49 (f := .glo "InvalidIndex") rfl) hx2.1.1.1.1.1.1.1.1.1.1.1.1.1.1.1.1.1.1.1.1.1.1.1.1.1.1.1.1.1.1.1.1.1.1.1.1.1.1.2
  have O_InvalidLooks : ClsOk K mg "InvalidLooks" := cls_of X G (c.fact 50 (f := .glo "InvalidLooks") rfl) hx2.1.1.1.1.1.1.1.1.1.1.1.1.1.1.1.1.1.1.1.1.1.1.1.1.1.1.1.1.1.1.1.1.1.1.1.1.1.2
  have O_InvalidMachine : ClsOk K mg "InvalidMachine" := cls_of X G (c.fact 51 (f := .glo "InvalidMachine") rfl) hx2.1.1.1.1.1.1.1.1.1.1.1.1.1.1.1.1.1.1.1.1.1.1.1.1.1.1.1.1.1.1.1.1.1.1.1.1.2
  have O_InvalidNumber : ClsOk K mg "InvalidNumber" := cls_of X G (c.fact 52 (f := .glo "InvalidNumber") rfl) hx2.1.1.1.1.1.1.1.1.1.1.1.1.1.1.1.1.1.1.1.1.1.1.1.1.1.1.1.1.1.1.1.1.1.1.1.2
  have O_InvalidOffers : ClsOk K mg "InvalidOffers" := cls_of X G (c.fact 53 (f := .glo "InvalidOffers") rfl) hx2.1.1.1.1.1.1.1.1.1.1.1.1.1.1.1.1.1.1.1.1.1.1.1.1.1.1.1.1.1.1.1.1.1.1.2
  have O_InvalidPen : ClsOk K mg "InvalidPen" := cls_of X G (c.fact 54 (f := .glo "InvalidPen") rfl) hx2.1.1.1.1.1.1.1.1.1.1.1.1.1.1.1.1.1.1.1.1.1.1.1.1.1.1.1.1.1.1.1.1.1.2
  have O_InvalidPens : ClsOk K mg "InvalidPens" := cls_of X G (c.fact 55 (f := .glo "InvalidPens") rfl) hx2.1.1.1.1.1.1.1.1.1.1.1.1.1.1.1.1.1.1.1.1.1.1.1.1.1.1.1.1.1.1.1.1.2
  have O_InvalidPlace : ClsOk K mg "InvalidPlace" := cls_of X G (c.fact 56 (f := .glo "InvalidPlace") rfl) hx2.1.1.1.1.1.1.1.1.1.1.1.1.1.1.1.1.1.1.1.1.1.1.1.1.1.1.1.1.1.1.1.2
  have O_InvalidProgression : ClsOk K mg "InvalidProgression" := cls_of X G (c.fact 57 (f := .glo "InvalidProgression") rfl) hx2.1.1.1.1.1.1.1.1.1.1.1.1.1.1.1.1.1.1.1.1.1.1.1.1.1.1.1.1.1.1.2
  have O_InvalidProgressions : ClsOk K mg "InvalidProgressions" := cls_of X G (c.fact 58 (f := .glo "InvalidProgressions") rfl) hx2.1.1.1.1.1.1.1.1.1.1.1.1.1.1.1.1.1.1.1.1.1.1.1.1.1.1.1.1.1.2
  have O_InvalidRoots : ClsOk K mg "InvalidRoots" := cls_of X G (c.fact 59 (f := .glo "InvalidRoots") rfl) hx2.1.1.1.1.1.1.1.1.1.1.1.1.1.1.1.1.1.1.1.1.1.1.1.1.1.1.1.1.2
  have O_InvalidRows : ClsOk K mg "InvalidRows" := cls_of X G (c.fact 60 (f := .glo "InvalidRows") rfl) hx2.1.1.1.1.1.1.1.1.1.1.1.1.1.1.1.1.1.1.1.1.1.1.1.1.1.1.1.2
  have O_InvalidSession : ClsOk K mg "InvalidSession" := cls_of X G (c.fact 61 (f := .glo "InvalidSession") rfl) hx2.1.1.1.1.1.1.1.1.1.1.1.1.1.1.1.1.1.1.1.1.1.1.1.1.1.1.2
  have O_InvalidShaft : ClsOk K mg "InvalidShaft" := cls_of X G (c.fact 62 (f := .glo "InvalidShaft") rfl) hx2.1.1.1.1.1.1.1.1.1.1.1.1.1.1.1.1.1.1.1.1.1.1.1.1.1.2
  have O_InvalidSpot : ClsOk K mg "InvalidSpot" := cls_of X G (c.fact 63 (f := .glo "InvalidSpot") rfl) hx2.1.1.1.1.1.1.1.1.1.1.1.1.1.1.1.1.1.1.1.1.1.1.1.1.2
  have O_InvalidState : ClsOk K mg "InvalidState" := cls_of X G (c.fact 64 (f := .glo "InvalidState") rfl) hx2.1.1.1.1.1.1.1.1.1.1.1.1.1.1.1.1.1.1.1.1.1.1.1.2
  have O_InvalidSteps : ClsOk K mg "InvalidSteps" := cls_of X G (c.fact 65 (f := .glo "InvalidSteps") rfl) hx2.1.1.1.1.1.1.1.1.1.1.1.1.1.1.1.1.1.1.1.1.1.1.2
  have O_InvalidTeeth : ClsOk K mg "InvalidTeeth" := cls_of X G (c.fact 66 (f := .glo "InvalidTeeth") rfl) hx2.1.1.1.1.1.1.1.1.1.1.1.1.1.1.1.1.1.1.1.1.1.2
  have O_InvalidTooth : ClsOk K mg "InvalidTooth" := cls_of X G (c.fact 67 (f := .glo "InvalidTooth") rfl) hx2.1.1.1.1.1.1.1.1.1.1.1.1.1.1.1.1.1.1.1.1.2
  have O_InvalidTurn : ClsOk K mg "InvalidTurn" := cls_of X G (c.fact 68 (f := .glo "InvalidTurn") rfl) hx2.1.1.1.1.1.1.1.1.1.1.1.1.1.1.1.1.1.1.1.2
  have O_InvalidWheel : ClsOk K mg "InvalidWheel" := cls_of X G (c.fact 69 (f := .glo "InvalidWheel") rfl) hx2.1.1.1.1.1.1.1.1.1.1.1.1.1.1.1.1.1.1.2
  have O_NoBlock : ClsOk K mg "NoBlock" := cls_of X G (c.fact 71 (f := .glo "NoBlock") rfl) hx2.1.1.1.1.1.1.1.1.1.1.1.1.1.1.1.1.1.2
  have O_NoTime : ClsOk K mg "NoTime" := cls_of X G (c.fact 72 (f := .glo "NoTime") rfl) hx2.1.1.1.1.1.1.1.1.1.1.1.1.1.1.1.1.2
  have O_NotDriven : ClsOk K mg "NotDriven" := cls_of X G (c.fact 73 (f := .glo "NotDriven") rfl) hx2.1.1.1.1.1.1.1.1.1.1.1.1.1.1.1.2
  have O_NotFitting : ClsOk K mg "NotFitting" := cls_of X G (c.fact 74 (f := .glo "NotFitting") rfl) hx2.1.1.1.1.1.1.1.1.1.1.1.1.1.1.2
  have O_NotOpen : ClsOk K mg "NotOpen" := cls_of X G (c.fact 75 (f := .glo "NotOpen") rfl) hx2.1.1.1.1.1.1.1.1.1.1.1.1.1.2
  have O_NotPlain : ClsOk K mg "NotPlain" := cls_of X G (c.fact 76 (f := .glo "NotPlain") rfl) hx2.1.1.1.1.1.1.1.1.1.1.1.1.2
  have O_NotReady : ClsOk K mg "NotReady" := cls_of X G (c.fact 77 (f := .glo "NotReady") rfl) hx2.1.1.1.1.1.1.1.1.1.1.1.2
  have O_NotSure : ClsOk K mg "NotSure" := cls_of X G (c.fact 78 (f := .glo "NotSure") rfl) hx2.1.1.1.1.1.1.1.1.1.1.2
  have O_NotTold : ClsOk K mg "NotTold" := cls_of X G (c.fact 79 (f := .glo "NotTold") rfl) hx2.1.1.1.1.1.1.1.1.1.2
  have O_NothingToUndo : ClsOk K mg "NothingToUndo" := cls_of X G (c.fact 80 (f := .glo "NothingToUndo") rfl) hx2.1.1.1.1.1.1.1.1.2
  have O_Refused : ClsOk K mg "Refused" := cls_of X G (c.fact 81 (f := .glo "Refused") rfl) hx2.1.1.1.1.1.1.1.2
  have O_TooMany : ClsOk K mg "TooMany" := cls_of X G (c.fact 83 (f := .glo "TooMany") rfl) hx2.1.1.1.1.1.1.2
  have O_WheelError : ClsOk K mg "WheelError" := cls_of X G (c.fact 84 (f := .glo "WheelError") rfl) hx2.1.1.1.1.1.2
  have C_WheelError : CatchOk K mg "WheelError" ["InvalidDeeds", "InvalidWords", "Stopped"] := catQ_of X G (c.fact 84 (f := .glo "WheelError") rfl) hx2.1.1.1.1.2
  have I_InvalidAsked : InstOk K mg "InvalidAsked" (tsOf "InvalidAsked") := inst_fam X G (c.fact 37 (f := .glo "InvalidAsked") rfl) hx2.1.1.1.2 (by decide +kernel)
  have I_InvalidChoice : InstOk K mg "InvalidChoice" (tsOf "InvalidChoice") := inst_fam X G (c.fact 38 (f := .glo "InvalidChoice") rfl) hx2.1.1.1.2 (by decide +kernel)
  have I_InvalidClaim : InstOk K mg "InvalidClaim" (tsOf "InvalidClaim") := inst_fam X G (c.fact 39 (f := .glo "InvalidClaim") rfl) hx2.1.1.1.2 (by decide +kernel)
  have I_InvalidCommand : InstOk K mg "InvalidCommand" (tsOf "InvalidCommand") := inst_fam X G (c.fact 40 (f := .glo "InvalidCommand") rfl) hx2.1.1.1.2 (by decide +kernel)
  have I_InvalidCongruence : InstOk K mg "InvalidCongruence" (tsOf "InvalidCongruence") := inst_fam X G (c.fact 41 (f := .glo "InvalidCongruence") rfl) hx2.1.1.1.2 (by decide +kernel)
  have I_InvalidCount : InstOk K mg "InvalidCount" (tsOf "InvalidCount") := inst_fam X G (c.fact 42 (f := .glo "InvalidCount") rfl) hx2.1.1.1.2 (by decide +kernel)
  have I_InvalidDeeds : InstOk K mg "InvalidDeeds" (tsOf "InvalidDeeds") := inst_fam X G (c.fact 43 (f := .glo "InvalidDeeds") rfl) hx2.1.1.1.2 (by decide +kernel)
  have I_InvalidFamily : InstOk K mg "InvalidFamily" (tsOf "InvalidFamily") := inst_fam X G (c.fact 44 (f := .glo "InvalidFamily") rfl) hx2.1.1.1.2 (by decide +kernel)
  have I_InvalidFraction : InstOk K mg "InvalidFraction" (tsOf "InvalidFraction") := inst_fam X G (c.fact 45 (f := .glo "InvalidFraction") rfl) hx2.1.1.1.2 (by decide +kernel)
  have I_InvalidGear : InstOk K mg "InvalidGear" (tsOf "InvalidGear") := inst_fam X G (c.fact 46 (f := .glo "InvalidGear") rfl) hx2.1.1.1.2 (by decide +kernel)
  have I_InvalidGears : InstOk K mg "InvalidGears" (tsOf "InvalidGears") := inst_fam X G (c.fact 47 (f := .glo "InvalidGears") rfl) hx2.1.1.1.2 (by decide +kernel)
  have I_InvalidGrain : InstOk K mg "InvalidGrain" (tsOf "InvalidGrain") := inst_fam X G (c.fact 48 (f := .glo "InvalidGrain") rfl) hx2.1.1.1.2 (by decide +kernel)
  have I_InvalidIndex : InstOk K mg "InvalidIndex" (tsOf "InvalidIndex") := inst_fam X G (c.fact 49 (f := .glo "InvalidIndex") rfl) hx2.1.1.1.2 (by decide +kernel)
  have I_InvalidLooks : InstOk K mg "InvalidLooks" (tsOf "InvalidLooks") := inst_fam X G (c.fact 50 (f := .glo "InvalidLooks") rfl) hx2.1.1.1.2 (by decide +kernel)
  have I_InvalidMachine : InstOk K mg "InvalidMachine" (tsOf "InvalidMachine") := inst_fam X G (c.fact 51 (f := .glo "InvalidMachine") rfl) hx2.1.1.1.2 (by decide +kernel)
  have I_InvalidNumber : InstOk K mg "InvalidNumber" (tsOf "InvalidNumber") := inst_fam X G (c.fact 52 (f := .glo "InvalidNumber") rfl) hx2.1.1.1.2 (by decide +kernel)
  have I_InvalidOffers : InstOk K mg "InvalidOffers" (tsOf "InvalidOffers") := inst_fam X G (c.fact 53 (f := .glo "InvalidOffers") rfl) hx2.1.1.1.2 (by decide +kernel)
  have I_InvalidPen : InstOk K mg "InvalidPen" (tsOf "InvalidPen") := inst_fam X G (c.fact 54 (f := .glo "InvalidPen") rfl) hx2.1.1.1.2 (by decide +kernel)
  have I_InvalidPens : InstOk K mg "InvalidPens" (tsOf "InvalidPens") := inst_fam X G (c.fact 55 (f := .glo "InvalidPens") rfl) hx2.1.1.1.2 (by decide +kernel)
  have I_InvalidPlace : InstOk K mg "InvalidPlace" (tsOf "InvalidPlace") := inst_fam X G (c.fact 56 (f := .glo "InvalidPlace") rfl) hx2.1.1.1.2 (by decide +kernel)
  have I_InvalidProgression : InstOk K mg "InvalidProgression" (tsOf "InvalidProgression") := inst_fam X G (c.fact 57 (f := .glo "InvalidProgression") rfl) hx2.1.1.1.2 (by decide +kernel)
  have I_InvalidProgressions : InstOk K mg "InvalidProgressions" (tsOf "InvalidProgressions") := inst_fam X G (c.fact 58 (f := .glo "InvalidProgressions") rfl) hx2.1.1.1.2 (by decide +kernel)
  have I_InvalidRoots : InstOk K mg "InvalidRoots" (tsOf "InvalidRoots") := inst_fam X G (c.fact 59 (f := .glo "InvalidRoots") rfl) hx2.1.1.1.2 (by decide +kernel)
  have I_InvalidRows : InstOk K mg "InvalidRows" (tsOf "InvalidRows") := inst_fam X G (c.fact 60 (f := .glo "InvalidRows") rfl) hx2.1.1.1.2 (by decide +kernel)
  have I_InvalidSession : InstOk K mg "InvalidSession" (tsOf "InvalidSession") := inst_fam X G (c.fact 61 (f := .glo "InvalidSession") rfl) hx2.1.1.1.2 (by decide +kernel)
  have I_InvalidShaft : InstOk K mg "InvalidShaft" (tsOf "InvalidShaft") := inst_fam X G (c.fact 62 (f := .glo "InvalidShaft") rfl) hx2.1.1.1.2 (by decide +kernel)
  have I_InvalidSpot : InstOk K mg "InvalidSpot" (tsOf "InvalidSpot") := inst_fam X G (c.fact 63 (f := .glo "InvalidSpot") rfl) hx2.1.1.1.2 (by decide +kernel)
  have I_InvalidState : InstOk K mg "InvalidState" (tsOf "InvalidState") := inst_fam X G (c.fact 64 (f := .glo "InvalidState") rfl) hx2.1.1.1.2 (by decide +kernel)
  have I_InvalidSteps : InstOk K mg "InvalidSteps" (tsOf "InvalidSteps") := inst_fam X G (c.fact 65 (f := .glo "InvalidSteps") rfl) hx2.1.1.1.2 (by decide +kernel)
  have I_InvalidTeeth : InstOk K mg "InvalidTeeth" (tsOf "InvalidTeeth") := inst_fam X G (c.fact 66 (f := .glo "InvalidTeeth") rfl) hx2.1.1.1.2 (by decide +kernel)
  have I_InvalidTooth : InstOk K mg "InvalidTooth" (tsOf "InvalidTooth") := inst_fam X G (c.fact 67 (f := .glo "InvalidTooth") rfl) hx2.1.1.1.2 (by decide +kernel)
  have I_InvalidTurn : InstOk K mg "InvalidTurn" (tsOf "InvalidTurn") := inst_fam X G (c.fact 68 (f := .glo "InvalidTurn") rfl) hx2.1.1.1.2 (by decide +kernel)
  have I_InvalidWheel : InstOk K mg "InvalidWheel" (tsOf "InvalidWheel") := inst_fam X G (c.fact 69 (f := .glo "InvalidWheel") rfl) hx2.1.1.1.2 (by decide +kernel)
  have I_InvalidWords : InstOk K mg "InvalidWords" (tsOf "InvalidWords") := inst_fam X G (c.fact 70 (f := .glo "InvalidWords") rfl) hx2.1.1.1.2 (by decide +kernel)
  have I_NoBlock : InstOk K mg "NoBlock" (tsOf "NoBlock") := inst_fam X G (c.fact 71 (f := .glo "NoBlock") rfl) hx2.1.1.1.2 (by decide +kernel)
  have I_NoTime : InstOk K mg "NoTime" (tsOf "NoTime") := inst_fam X G (c.fact 72 (f := .glo "NoTime") rfl) hx2.1.1.1.2 (by decide +kernel)
  have I_NotDriven : InstOk K mg "NotDriven" (tsOf "NotDriven") := inst_fam X G (c.fact 73 (f := .glo "NotDriven") rfl) hx2.1.1.1.2 (by decide +kernel)
  have I_NotFitting : InstOk K mg "NotFitting" (tsOf "NotFitting") := inst_fam X G (c.fact 74 (f := .glo "NotFitting") rfl) hx2.1.1.1.2 (by decide +kernel)
  have I_NotOpen : InstOk K mg "NotOpen" (tsOf "NotOpen") := inst_fam X G (c.fact 75 (f := .glo "NotOpen") rfl) hx2.1.1.1.2 (by decide +kernel)
  have I_NotPlain : InstOk K mg "NotPlain" (tsOf "NotPlain") := inst_fam X G (c.fact 76 (f := .glo "NotPlain") rfl) hx2.1.1.1.2 (by decide +kernel)
  have I_NotReady : InstOk K mg "NotReady" (tsOf "NotReady") := inst_fam X G (c.fact 77 (f := .glo "NotReady") rfl) hx2.1.1.1.2 (by decide +kernel)
  have I_NotSure : InstOk K mg "NotSure" (tsOf "NotSure") := inst_fam X G (c.fact 78 (f := .glo "NotSure") rfl) hx2.1.1.1.2 (by decide +kernel)
  have I_NotTold : InstOk K mg "NotTold" (tsOf "NotTold") := inst_fam X G (c.fact 79 (f := .glo "NotTold") rfl) hx2.1.1.1.2 (by decide +kernel)
  have I_NothingToUndo : InstOk K mg "NothingToUndo" (tsOf "NothingToUndo") := inst_fam X G (c.fact 80 (f := .glo "NothingToUndo") rfl) hx2.1.1.1.2 (by decide +kernel)
  have I_Refused : InstOk K mg "Refused" (tsOf "Refused") := inst_fam X G (c.fact 81 (f := .glo "Refused") rfl) hx2.1.1.1.2 (by decide +kernel)
  have I_Stopped : InstOk K mg "Stopped" (tsOf "Stopped") := inst_fam X G (c.fact 82 (f := .glo "Stopped") rfl) hx2.1.1.1.2 (by decide +kernel)
  have I_TooMany : InstOk K mg "TooMany" (tsOf "TooMany") := inst_fam X G (c.fact 83 (f := .glo "TooMany") rfl) hx2.1.1.1.2 (by decide +kernel)
  have I_WheelError : InstOk K mg "WheelError" tsW := inst_famW X G (c.fact 84 (f := .glo "WheelError") rfl) hx2.1.1.1.2
  have A_InvalidDeeds : InOk PRG K mg "InvalidDeeds" "entry" := in_of X G (c.fact 43 (f := .glo "InvalidDeeds") rfl) hx2.1.1.2 (hbn _ (by decide)) (fun _ _ _ _ _ _ _ _ _ _ _ _ _ _ => rfl) (fun _ _ _ _ _ _ _ _ _ _ _ _ _ _ => rfl)
  have A_InvalidWords : InOk PRG K mg "InvalidWords" "spot" := in_of X G (c.fact 70 (f := .glo "InvalidWords") rfl) hx2.1.2 (hbn _ (by decide)) (fun _ _ _ _ _ _ _ _ _ _ _ _ _ _ => rfl) (fun _ _ _ _ _ _ _ _ _ _ _ _ _ _ => rfl)
  have A_Stopped : InOk PRG K mg "Stopped" "clicks" := in_of X G (c.fact 82 (f := .glo "Stopped") rfl) hx2.2 (hbn _ (by decide)) (fun _ _ _ _ _ _ _ _ _ _ _ _ _ _ => rfl) (fun _ _ _ _ _ _ _ _ _ _ _ _ _ _ => rfl)
  exact ⟨_, fun s v => b s [v] rfl, fun base _ _ => chain F__law_lot_of (He.glo_ok X G (c.fact 0 (f := .glo "_law_lot_of") rfl)) F__law_lift (He.glo_ok X G (c.fact 1 (f := .glo "_law_lift") rfl)) F__law_of (He.glo_ok X G (c.fact 2 (f := .glo "_law_of") rfl)) F__law_great (He.glo_ok X G (c.fact 3 (f := .glo "_law_great") rfl)) F__law_far (He.glo_ok X G (c.fact 4 (f := .glo "_law_far") rfl)) F__law_signed (He.glo_ok X G (c.fact 5 (f := .glo "_law_signed") rfl)) F__law_texted (He.glo_ok X G (c.fact 6 (f := .glo "_law_texted") rfl)) F__law_valued (He.glo_ok X G (c.fact 7 (f := .glo "_law_valued") rfl)) F__law_named (He.glo_ok X G (c.fact 8 (f := .glo "_law_named") rfl)) F__law_kept (He.glo_ok X G (c.fact 9 (f := .glo "_law_kept") rfl)) F__law_truths (He.glo_ok X G (c.fact 10 (f := .glo "_law_truths") rfl)) F__law_worth (He.glo_ok X G (c.fact 11 (f := .glo "_law_worth") rfl)) F__law_caught (He.glo_ok X G (c.fact 12 (f := .glo "_law_caught") rfl)) F__law_fields_right (He.glo_ok X G (c.fact 13 (f := .glo "_law_fields_right") rfl)) F_law (He.glo_ok X G (c.fact 14 (f := .glo "law") rfl)) O_InvalidAsked O_InvalidChoice O_InvalidClaim O_InvalidCommand O_InvalidCongruence O_InvalidCount O_InvalidFamily O_InvalidFraction O_InvalidGear O_InvalidGears O_InvalidGrain O_InvalidIndex O_InvalidLooks O_InvalidMachine O_InvalidNumber O_InvalidOffers O_InvalidPen O_InvalidPens O_InvalidPlace O_InvalidProgression O_InvalidProgressions O_InvalidRoots O_InvalidRows O_InvalidSession O_InvalidShaft O_InvalidSpot O_InvalidState O_InvalidSteps O_InvalidTeeth O_InvalidTooth O_InvalidTurn O_InvalidWheel O_NoBlock O_NoTime O_NotDriven O_NotFitting O_NotOpen O_NotPlain O_NotReady O_NotSure O_NotTold O_NothingToUndo O_Refused O_TooMany O_WheelError C_WheelError A_InvalidDeeds A_InvalidWords A_Stopped I_InvalidAsked I_InvalidChoice I_InvalidClaim I_InvalidCommand I_InvalidCongruence I_InvalidCount I_InvalidDeeds I_InvalidFamily I_InvalidFraction I_InvalidGear I_InvalidGears I_InvalidGrain I_InvalidIndex I_InvalidLooks I_InvalidMachine I_InvalidNumber I_InvalidOffers I_InvalidPen I_InvalidPens I_InvalidPlace I_InvalidProgression I_InvalidProgressions I_InvalidRoots I_InvalidRows I_InvalidSession I_InvalidShaft I_InvalidSpot I_InvalidState I_InvalidSteps I_InvalidTeeth I_InvalidTooth I_InvalidTurn I_InvalidWheel I_InvalidWords I_NoBlock I_NoTime I_NotDriven I_NotFitting I_NotOpen I_NotPlain I_NotReady I_NotSure I_NotTold I_NothingToUndo I_Refused I_Stopped I_TooMany I_WheelError hbn⟩
end K00
open PySem PySem.W PySem.Calls PyProof.Rows
set_option maxHeartbeats 0 in
theorem PySem.Challenge.cw_drawnbywheels_k00_error_classes_holds : PySem.Challenge.rw_drawnbywheels_k00_error_classes.Holds := by
  w_on; o_law
  refine HandSHeadRun.head_any (r := OpenLaw.row PySem.Challenge.rw_drawnbywheels_k00_error_classes) (q := view (OpenLaw.row PySem.Challenge.rw_drawnbywheels_k00_error_classes).prog [64]) (H := K00.hk) (ob := K00.ob) (M := 20000) (loose := K00.loose) (d := HandSHeadRun.topDef (OpenLaw.row PySem.Challenge.rw_drawnbywheels_k00_error_classes).prog 64) (kwd := []) K00E.obQ_eq
    (by kernel_rfl) (fun s => by kernel_rfl) K00.run (by kernel_rfl) (by kernel_rfl) (by kernel_rfl) (by rfl) (by first | assumption | decide +kernel) (by decide +kernel) ⟨rfl, rfl, rfl, rfl, rfl, by decide +kernel⟩ ?hw ?hc
  case hw => w_witness2
  case hc =>
    refine PF.walk_g (l := PySem.Challenge.rw_drawnbywheels_k00_error_classes) (n := 63) (k := 6) (x := "_law_script") rfl (by decide) (by kernel_rfl) ⟨rfl, by decide, by decide⟩ ?F
    intro w mg fa h Y G hmg0
    obtain ⟨K, KX, hx, c⟩ := Y
    have hmg : mg ("law" : PySem.Str) = some (.ref fa) := by
      have e : (HandSHeadRun.topDef (OpenLaw.row PySem.Challenge.rw_drawnbywheels_k00_error_classes).prog 64).name = ("law" : PySem.Str) := by kernel_rfl
      rw [← e]
      exact hmg0
    obtain ⟨fd, hb, hF⟩ := K00.facts (w := w) KX G hmg hx c
    exact ⟨K, fd, KX, hb, hF⟩


