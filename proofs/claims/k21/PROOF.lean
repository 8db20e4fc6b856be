import PyProof.Rows.All
import Wide.All
import OpenK.AllK
import Wide.FinOn
import KE.KStateDown
import Lean
import HandS.ForMost
import HandS.Defaults
import HandS.Property
import HandS.OwnEq
import HandS.IsInst
import HandS.Star
import HandS.Wide
import HandS.Conv
import HandS.DictComp
import HandS.ListItems
import HandS.FStr
import HandS.RaiseMore
import HandS.More
import HandS.SetKeys
import HandS.Set
import HandS.Walk
import HandS.Head0
import HandS.Head1
import HandS.Head2
import HandS.HeadEnd
import HandS.HeadHook1
import HandS.HeadHook2
import PySem.Challenge.RW_anyofthese_k21_whole_rules_kept_or_their
import PyProof.Rows.ReprOcc
set_option Elab.async false
set_option linter.all false
set_option maxRecDepth 100000
set_option maxHeartbeats 4000000
/-! the text by places; what the head tells -/
namespace K21
open PySem PySem.Spec PyProof.Rows L2 He
abbrev Fg := PySem.W.Frag
/-- the i-th statement of the top; the j-th def of the class there -/
def sT (i : Nat) : Stmt := PySem.Challenge.pw_anyofthese_k21_whole_rules_kept_or_their.main.body.getD i (.Pass ⟨0, 0, 0, 0⟩)
abbrev sC (i j : Nat) : Stmt := inClass (sT i) j

/-! ### where things stand -/
abbrev cE (K : Fg) : Addr := ga K "Earliest"
abbrev cR (K : Fg) : Addr := ga K "Rule"
abbrev cT (K : Fg) : Addr := ga K "Term"
/-- a property's getter -/
def pgt (K : Fg) (C f : Str) : Addr := match PySem.W.recIn K (ma K (ga K C) f) "property" with
  | some (.ref g :: _) => g
  | _ => 0
/-- one def of the text: where, its name, its full name, its statement, its defaults -/
structure Df where
  pl : Fg → Addr
  nm : Str
  ql : Str
  st : Stmt
  dv : List V := []
def Df.look (d : Df) (K : Fg) : FnW := match K.lookup (d.pl K) with
  | some o => (match o.data with
    | .func z => some (z.name, z.qualname, z.params, z.body, z.scope, z.globals, z.closure, z.builtins)
    | _ => none)
  | none => none
def Df.want (d : Df) : FnW := some (d.nm, d.ql, defArgs d.st, .stmts (defBody d.st), defScope d.st, mainGlobals, [], builtinsNs)
def Df.good (d : Df) (K : Fg) : Bool := PySem.W.keepIn K (.ref (d.pl K)) && (match K.lookup (d.pl K) with
  | some o => (match o.data with
    | .func z => PySem.W.codeIn K z.code d.ql && (dflB K z.defaults d.dv)
    | _ => false)
  | none => false)
/-- the def as the layer wants it -/
abbrev DfAt (K : Fg) (d : Df) (fd : FuncData) : Prop := FunD K d.nm d.ql (defArgs d.st) (defBody d.st) (defScope d.st) d.dv [] (d.pl K) fd
theorem Df.at {K : Fg} {d : Df} (h1 : d.look K = d.want) (h2 : d.good K = true) : ∃ fd, DfAt K d fd := by
  obtain ⟨k1, k2⟩ := ba h2
  unfold Df.look at h1
  cases q : K.lookup (d.pl K) with
  | none => rw [q] at k2; cases k2
  | some o =>
    obtain ⟨oc, od, dt, osl⟩ := o
    rw [q] at k2 h1
    cases dt with
    | func z =>
      obtain ⟨a1, a2, a3, a4, a5, a6, a7, a8, a9, a10, a11, a12, a13, a14, a15⟩ := z
      have h3 : (some (a1, a2, a3, a4, a5, a6, a7, a15) : FnW) = d.want := h1
      unfold Df.want at h3
      simp only [Option.some.injEq, Prod.mk.injEq] at h3
      obtain ⟨e1, e2, e3, e4, e5, e6, e7, e8⟩ := h3
      subst e1 e2 e3 e4 e5 e6 e7 e8
      obtain ⟨k3, k4⟩ := ba (show (PySem.W.codeIn K a13 d.ql && dflB K a8 d.dv) = true from k2)
      exact ⟨_, ⟨oc, od, a8, a9, a10, a11, a12, a13, a14, osl, rfl, q, k3, dflB_ok k4, .inl rfl⟩, k1⟩
    | _ => cases k2

/-! ### the facts -/
def prB (K : Fg) (C f : Str) : Bool :=
  eqO (PySem.W.findIn K (.ref (ga K C)) f) (some (some (.ref (ma K (ga K C) f)))) && (eqO (PySem.W.specialIn K (.ref (ma K (ga K C) f)) "__get__") (some (some (.builtin "property.__get__"))) &&
  (decide (PySem.W.takesIn K (.ref (ma K (ga K C) f)) = some true) && (match PySem.W.recIn K (ma K (ga K C) f) "property" with
    | some (.ref _ :: _) => true
    | _ => false)))
theorem prB_ok {K : Fg} {C f : Str} (h : prB K C f = true) : PropOf K (ga K C) f (ma K (ga K C) f) (pgt K C f) := by
  obtain ⟨h1, h⟩ := ba h
  obtain ⟨h2, h⟩ := ba h
  obtain ⟨h3, h4⟩ := ba h
  refine ⟨eqO_ok h1, eqO_ok h2, of_decide_eq_true h3, ?_⟩
  unfold pgt
  cases q : PySem.W.recIn K (ma K (ga K C) f) "property" with
  | none => rw [q] at h4; cases h4
  | some l =>
    rw [q] at h4
    cases l with
    | nil => cases h4
    | cons v r =>
      cases v with
      | ref g => exact ⟨r, rfl⟩
      | _ => cases h4
/-- an own special method: there, a plain def -/
def spB (K : Fg) (C m : Str) : Bool := eqO (PySem.W.findIn K (.ref (ga K C)) m) (some (some (.ref (ma K (ga K C) m)))) && (PySem.W.isFn K (.ref (ma K (ga K C) m)) && PySem.W.fnIn K (ma K (ga K C) m))
structure SpOf (K : Fg) (C m : Str) : Prop where
  at_ : PySem.W.findIn K (.ref (ga K C)) m = some (some (.ref (ma K (ga K C) m)))
  fn : PySem.W.isFn K (.ref (ma K (ga K C) m)) = true
  fi : PySem.W.fnIn K (ma K (ga K C) m) = true
theorem spB_ok {K : Fg} {C m : Str} (h : spB K C m = true) : SpOf K C m := by
  obtain ⟨h1, h⟩ := ba h
  obtain ⟨h2, h3⟩ := ba h
  exact ⟨eqO_ok h1, h2, h3⟩
/-- what isinstance asks of a class -/
def isB (K : Fg) (C : Str) : Bool :=
  eqO (PySem.W.findIn K (.ref (ga K C)) "__class__") (some (some (.builtin "object.__class__"))) && (eqO (PySem.W.specialIn K (.builtin "object.__class__") "__get__") (some (some (.builtin "getset_descriptor.__get__"))) &&
  (decide (PySem.W.takesIn K (.builtin "object.__class__") = some true) && decide (PySem.W.mroIn K (ga K C) (.type "object") = some true)))
structure IsOf (K : Fg) (C : Str) : Prop where
  a : PySem.W.findIn K (.ref (ga K C)) "__class__" = some (some (.builtin "object.__class__"))
  b : PySem.W.specialIn K (.builtin "object.__class__") "__get__" = some (some (.builtin "getset_descriptor.__get__"))
  c : PySem.W.takesIn K (.builtin "object.__class__") = some true
  d : PySem.W.mroIn K (ga K C) (.type "object") = some true
theorem isB_ok {K : Fg} {C : Str} (h : isB K C = true) : IsOf K C := by
  obtain ⟨h1, h⟩ := ba h
  obtain ⟨h2, h⟩ := ba h
  obtain ⟨h3, h4⟩ := ba h
  exact ⟨eqO_ok h1, eqO_ok h2, of_decide_eq_true h3, of_decide_eq_true h4⟩
end K21
set_option maxHeartbeats 0
namespace K21
open PySem PySem.Spec PyProof.Rows L2 He
/-! ### the defs -/
def dIsInteger : Df := ⟨(ga · "is_integer"), "is_integer", "is_integer", sT 14, []⟩
def dIsName : Df := ⟨(ga · "is_name"), "is_name", "is_name", sT 15, []⟩
def dAreTimes : Df := ⟨(ga · "are_times"), "are_times", "are_times", sT 16, []⟩
def dWantTimes : Df := ⟨(ga · "want_times"), "want_times", "want_times", sT 17, []⟩
def dWantShift : Df := ⟨(ga · "want_shift"), "want_shift", "want_shift", sT 18, []⟩
def dLeastOf : Df := ⟨(ga · "least_of"), "least_of", "least_of", sT 22, []⟩
def dWantShifts : Df := ⟨(ga · "want_shifts"), "want_shifts", "want_shifts", sT 23, []⟩
def dAsEarliest : Df := ⟨(ga · "as_earliest"), "as_earliest", "as_earliest", sT 24, []⟩
def dLawPot : Df := ⟨(ga · "_law_pot"), "_law_pot", "_law_pot", sT 31, []⟩
def dLawDraw : Df := ⟨(ga · "_law_draw"), "_law_draw", "_law_draw", sT 32, []⟩
def dLawPick : Df := ⟨(ga · "_law_pick"), "_law_pick", "_law_pick", sT 33, []⟩
def dLawMixed : Df := ⟨(ga · "_law_mixed"), "_law_mixed", "_law_mixed", sT 34, []⟩
def dLawNames : Df := ⟨(ga · "_law_names"), "_law_names", "_law_names", sT 35, []⟩
def dLawNumber : Df := ⟨(ga · "_law_number"), "_law_number", "_law_number", sT 36, []⟩
def dLawShifts : Df := ⟨(ga · "_law_shifts"), "_law_shifts", "_law_shifts", sT 37, []⟩
def dLawSide : Df := ⟨(ga · "_law_side"), "_law_side", "_law_side", sT 38, []⟩
def dLawLeast : Df := ⟨(ga · "_law_least"), "_law_least", "_law_least", sT 39, []⟩
def dLawTimes : Df := ⟨(ga · "_law_times"), "_law_times", "_law_times", sT 40, []⟩
def dLawBroken : Df := ⟨(ga · "_law_broken"), "_law_broken", "_law_broken", sT 41, []⟩
def dLawKept : Df := ⟨(ga · "_law_kept"), "_law_kept", "_law_kept", sT 42, []⟩
def dLawMoved : Df := ⟨(ga · "_law_moved"), "_law_moved", "_law_moved", sT 43, []⟩
def dLawAtTimesRight : Df := ⟨(ga · "_law_at_times_right"), "_law_at_times_right", "_law_at_times_right", sT 44, []⟩
def dLawContraryRight : Df := ⟨(ga · "_law_contrary_right"), "_law_contrary_right", "_law_contrary_right", sT 45, []⟩
def dLawKindsRight : Df := ⟨(ga · "_law_kinds_right"), "_law_kinds_right", "_law_kinds_right", sT 46, []⟩
def dLawTurnedRight : Df := ⟨(ga · "_law_turned_right"), "_law_turned_right", "_law_turned_right", sT 47, []⟩
def dLawRuleRight : Df := ⟨(ga · "_law_rule_right"), "_law_rule_right", "_law_rule_right", sT 48, []⟩
def dLaw : Df := ⟨(ga · "law"), "law", "law", sT 49, []⟩
def dEarliestInit : Df := ⟨(fun K => ma K (ga K "Earliest") "__init__"), "__init__", "Earliest.__init__", sC 25 0, []⟩
def dEarliestshifts : Df := ⟨(fun K => ma K (ga K "Earliest") "shifts"), "shifts", "Earliest.shifts", sC 25 3, []⟩
def dEarliesttermValues : Df := ⟨(fun K => ma K (ga K "Earliest") "term_values"), "term_values", "Earliest.term_values", sC 25 4, []⟩
def dEarliestCall : Df := ⟨(fun K => ma K (ga K "Earliest") "__call__"), "__call__", "Earliest.__call__", sC 25 11, []⟩
def dEarliestOr : Df := ⟨(fun K => ma K (ga K "Earliest") "__or__"), "__or__", "Earliest.__or__", sC 25 19, []⟩
def dEarliestEq : Df := ⟨(fun K => ma K (ga K "Earliest") "__eq__"), "__eq__", "Earliest.__eq__", sC 25 20, []⟩
def dEarliestRepr : Df := ⟨(fun K => ma K (ga K "Earliest") "__repr__"), "__repr__", "Earliest.__repr__", sC 25 22, []⟩
def dRuleInit : Df := ⟨(fun K => ma K (ga K "Rule") "__init__"), "__init__", "Rule.__init__", sC 27 0, []⟩
def dRuleslack : Df := ⟨(fun K => ma K (ga K "Rule") "slack"), "slack", "Rule.slack", sC 27 6, []⟩
def dRulekeptBy : Df := ⟨(fun K => ma K (ga K "Rule") "kept_by"), "kept_by", "Rule.kept_by", sC 27 7, []⟩
def dRulecontrary : Df := ⟨(fun K => ma K (ga K "Rule") "contrary"), "contrary", "Rule.contrary", sC 27 8, []⟩
def dRuleEq : Df := ⟨(fun K => ma K (ga K "Rule") "__eq__"), "__eq__", "Rule.__eq__", sC 27 12, []⟩
def dRuleRepr : Df := ⟨(fun K => ma K (ga K "Rule") "__repr__"), "__repr__", "Rule.__repr__", sC 27 14, []⟩
def dRulemoments : Df := ⟨(pgt · "Rule" "moments"), "moments", "Rule.moments", sC 27 3, []⟩
def dRuleisAlways : Df := ⟨(pgt · "Rule" "is_always"), "is_always", "Rule.is_always", sC 27 4, []⟩
def dRuleisNever : Df := ⟨(pgt · "Rule" "is_never"), "is_never", "Rule.is_never", sC 27 5, []⟩
def dTermInit : Df := ⟨(fun K => ma K (ga K "Term") "__init__"), "__init__", "Term.__init__", sC 29 0, [.int 0]⟩
def dTermOr : Df := ⟨(fun K => ma K (ga K "Term") "__or__"), "__or__", "Term.__or__", sC 29 8, []⟩
def dTermmoment : Df := ⟨(pgt · "Term" "moment"), "moment", "Term.moment", sC 29 1, []⟩
def dTermshift : Df := ⟨(pgt · "Term" "shift"), "shift", "Term.shift", sC 29 2, []⟩
def dAll : List Df :=
  [dIsInteger, dIsName, dAreTimes, dWantTimes, dWantShift, dLeastOf, dWantShifts, dAsEarliest, dLawPot, dLawDraw, dLawPick, dLawMixed, dLawNames, dLawNumber, dLawShifts, dLawSide, dLawLeast, dLawTimes, dLawBroken, dLawKept, dLawMoved, dLawAtTimesRight, dLawContraryRight, dLawKindsRight, dLawTurnedRight, dLawRuleRight, dLaw, dEarliestInit, dEarliestshifts, dEarliesttermValues, dEarliestCall, dEarliestOr, dEarliestEq, dEarliestRepr, dRuleInit, dRuleslack, dRulekeptBy, dRulecontrary, dRuleEq, dRuleRepr, dRulemoments, dRuleisAlways, dRuleisNever, dTermInit, dTermOr, dTermmoment, dTermshift]
def fAll : List Fa := [
  .glo "is_integer", .glo "is_name", .glo "are_times", .glo "want_times", .glo "want_shift", .glo "least_of",
  .glo "want_shifts", .glo "as_earliest", .glo "Earliest", .glo "Rule", .glo "Term", .glo "_law_pot",
  .glo "_law_draw", .glo "_law_pick", .glo "_law_mixed", .glo "_law_names", .glo "_law_number", .glo "_law_shifts",
  .glo "_law_side", .glo "_law_least", .glo "_law_times", .glo "_law_broken", .glo "_law_kept", .glo "_law_moved",
  .glo "_law_at_times_right", .glo "_law_contrary_right", .glo "_law_kinds_right", .glo "_law_turned_right", .glo "_law_rule_right", .glo "law",
  .free "len", .free "isinstance", .free "all", .free "sorted", .free "min", .free "max",
  .free "list", .free "dict", .free "tuple", .free "set", .free "str", .free "int",
  .free "bool", .free "repr", .free "abs", .free "divmod", .free "range", .free "enumerate",
  .int "MOST_LETTERS" 8, .int "MOST_TERMS" 8, .str "LETTERS" "abcdefghijklmnopqrstuvwxyz", .cls "Earliest", .cls "Rule", .cls "Term",
  .mkr "Earliest", .mkr "Rule", .mkr "Term", .noat "Earliest" "own_shifts", .noat "Rule" "own_moment", .noat "Rule" "own_earliest",
  .noat "Term" "own_moment", .noat "Term" "own_shift", .meth "Earliest" "shifts", .meth "Earliest" "term_values", .meth "Rule" "slack", .meth "Rule" "kept_by",
  .meth "Rule" "contrary"]
def xAll (K : Fg) : List Bool := [
  prB K "Rule" "moments", prB K "Rule" "is_always",
  prB K "Rule" "is_never", prB K "Term" "moment",
  prB K "Term" "shift", spB K "Earliest" "__call__",
  spB K "Earliest" "__or__", spB K "Earliest" "__eq__",
  spB K "Earliest" "__repr__", spB K "Rule" "__eq__",
  spB K "Rule" "__repr__", spB K "Term" "__or__",
  isB K "Earliest", isB K "Rule",
  isB K "Term", decide (PySem.W.kitOne K (.ref (ga K "Earliest")) (.ref (ga K "Earliest")) = some true),
  decide (PySem.W.kitOne K (.ref (ga K "Term")) (.ref (ga K "Earliest")) = some false), decide (PySem.W.kitOne K (.ref (ga K "Rule")) (.ref (ga K "Rule")) = some true),
  PySem.W.selfFirst K (ga K "Term"), PySem.W.selfFirst K (ga K "Earliest"),
  PySem.W.notFirst K (ga K "Earliest") (.ref (ga K "Term")), eqO (PySem.W.findIn K (.ref (ga K "Earliest")) "__ror__") (some none),
  eqO (PySem.W.findIn K (.ref (ga K "Term")) "__ror__") (some none), decide (PySem.W.subIn K (.ref (ga K "Term")) (.ref (ga K "Earliest")) = some false)]
def lo1 : List PySem.Str := ["_wall", "AnyError", "InvalidName", "InvalidShift", "InvalidShifts", "InvalidTimes",
  "MissingError", "UnknownMoment", "LimitError", "TooMany", "LETTERS", "MOST_LETTERS",
  "is_integer", "is_name", "are_times", "want_times", "want_shift", "term_text",
  "MOST_TERMS", "least_of", "want_shifts"]
def lo2 : List PySem.Str := ["as_earliest", "Earliest", "Rule", "Term", "_law_pot", "_law_draw",
  "_law_pick", "_law_mixed", "_law_names", "_law_number", "_law_shifts", "_law_side",
  "_law_least", "_law_times", "_law_broken", "_law_kept", "_law_moved", "_law_at_times_right",
  "_law_contrary_right", "_law_kinds_right", "_law_turned_right", "_law_rule_right"]
end K21
namespace K21
open PySem PySem.Spec PyProof.Rows L2 He
/-! ### the run of the top -/
abbrev RW : PySem.W.OpenRow := PySem.W.OpenLaw.row PySem.Challenge.rw_anyofthese_k21_whole_rules_kept_or_their
abbrev AlK : Type := Bool × List FnW
/-- what objects name -/
def rfs (g : Addr → Option Obj) (as : List Addr) : List Addr := as.flatMap fun a => match g a with
  | some o => refsD o
  | none => []
def fcL {β : Type} : List Addr → (List Addr → β) → β
  | [], k => k []
  | a :: r, k => HandSHeadRun.frNat a fun a => fcL r fun r => k (a :: r)
theorem fcL_eq {β : Type} : ∀ (l : List Addr) (k : List Addr → β), fcL l k = k l
  | [], _ => rfl
  | a :: r, k => by
    show HandSHeadRun.frNat a (fun a => fcL r fun r => k (a :: r)) = _
    rw [HandSHeadRun.frNat_eq, fcL_eq r]
def csL (g : Addr → Option Obj) : List Addr := [ga (frG g [mainGlobals]) "Earliest", ga (frG g [mainGlobals]) "Rule", ga (frG g [mainGlobals]) "Term"]
def adK {β : Type} (g : Addr → Option Obj) (k : List Addr → β) : β :=
  fcL (rfs g [mainGlobals]) fun g1 => fcL (rfs g g1) fun g2 => fcL (csL g) fun cs => fcL (rfs g cs) fun m1 => fcL (rfs g m1) fun m2 => fcL (rfs g m2) fun m3 => fcL (rfs g m3) fun m4 => k (mainGlobals :: (g1 ++ (m1 ++ (m2 ++ (m3 ++ (m4 ++ g2))))))
def adL (g : Addr → Option Obj) : List Addr := adK g id
theorem adK_eq {β : Type} (g : Addr → Option Obj) (k : List Addr → β) : adK g k = k (adL g) := by
  unfold adL adK
  simp only [fcL_eq, id]
def obK (fa : List Fa) (xb : Fg → List Bool) (ds : List Df) (K : Fg) : AlK := ((fa.all fun f => f.ok K) && ((xb K).all id && ds.all fun d => d.good K), ds.map fun d => d.look K)
def vaK (ds : List Df) : AlK := (true, ds.map Df.want)
def hkK (fa : List Fa) (xb : Fg → List Bool) (ds : List Df) : PySem.W.Hook where
  α := AlK
  obs := fun s => obK fa xb ds (frG s.heap.get? (adL s.heap.get?))
  val := fun _ => vaK ds
  says := fun _ h => ∃ K : Fg, K.In h ∧ obK fa xb ds K = vaK ds
  of := fun _ _ e => ⟨_, frG_in, e⟩
  keeps := fun _ _ _ ⟨K, hK, c⟩ k => ⟨K, PySem.W.Frag.In.keeps hK k, c⟩
def obW (fa : List Fa) (xb : Fg → List Bool) (ds : List Df) (s : PySem.W.SharedT) : AlK := adK (HandSHeadRun.getT s) fun as => obK fa xb ds (frG (HandSHeadRun.getT s) as)
theorem obW_eq (fa : List Fa) (xb : Fg → List Bool) (ds : List Df) (s : PySem.W.SharedT) : obW fa xb ds s = (hkK fa xb ds).obs s.abs := by
  unfold obW
  rw [adK_eq]
  show obK fa xb ds (frG (HandSHeadRun.getT s) (adL (HandSHeadRun.getT s))) = obK fa xb ds (frG s.abs.heap.get? (adL s.abs.heap.get?))
  rw [show HandSHeadRun.getT s = s.abs.heap.get? from funext (HandSHeadRun.getT_eq s)]
def loose : List PySem.Str := lo1 ++ lo2
end K21
set_option maxHeartbeats 4000000
/-! names, tables from names to numbers, what stands where -/
namespace K21
open PySem PySem.Spec PyProof.Rows L2 He

/-! ### names -/
structure VN (x : Str) : Prop where
  lo : 1 ≤ x.length
  hi : x.length ≤ 8
  az : ∀ c ∈ x.cps.toList, 97 ≤ c ∧ c ≤ 122

/-! ### tables -/
abbrev Tb := List (Str × Int)
def dk (ts : Tb) : List (Key × V) := ts.map fun p => (Sum.inr p.1, V.int p.2)
def ks (ts : Tb) : List Str := ts.map (·.1)
def lk : Tb → Str → Option Int
  | [], _ => none
  | p :: r, x => if p.1 = x then some p.2 else lk r x
def pt (ts : Tb) (x : Str) (n : Int) : Tb := if x ∈ ts.map (·.1) then ts.map (fun p => if p.1 = x then (p.1, n) else p) else ts ++ [(x, n)]
theorem dk_len (ts : Tb) : (dk ts).length = ts.length := List.length_map _
theorem ks_len (ts : Tb) : (ks ts).length = ts.length := List.length_map _
theorem dk_keys (ts : Tb) : (dk ts).map (·.1) = (ks ts).map Sum.inr := by
  unfold dk ks
  rw [List.map_map, List.map_map]
  rfl
theorem inr_iff {x y : Str} : ((Sum.inr x : Key) = Sum.inr y) ↔ x = y := ⟨Sum.inr.inj, fun e => by rw [e]⟩
theorem valV_dk : ∀ (ts : Tb) (x : Str), valV (dk ts) (Sum.inr x : Key) = (lk ts x).map V.int
  | [], _ => rfl
  | p :: r, x => by
    show valV ((Sum.inr p.1, V.int p.2) :: dk r) (Sum.inr x : Key) = (if p.1 = x then some p.2 else lk r x).map V.int
    by_cases h : p.1 = x
    · rw [valV_pos (show ((Sum.inr p.1 : Key), V.int p.2).1 = Sum.inr x by rw [h]), if_pos h]
      rfl
    · rw [valV_neg (show ¬ ((Sum.inr p.1 : Key), V.int p.2).1 = Sum.inr x from fun e => h (Sum.inr.inj e)), if_neg h, valV_dk r x]
theorem lk_none_iff : ∀ {ts : Tb} {x : Str}, lk ts x = none ↔ x ∉ ks ts
  | [], x => by simp [lk, ks]
  | p :: r, x => by
    show (if p.1 = x then some p.2 else lk r x) = none ↔ x ∉ p.1 :: ks r
    by_cases h : p.1 = x
    · rw [if_pos h]
      simp [h]
    · rw [if_neg h, lk_none_iff, List.mem_cons]
      constructor
      · intro a b
        exact b.elim (fun e => h e.symm) a
      · intro a b
        exact a (.inr b)
theorem lk_some {ts : Tb} {x : Str} (h : x ∈ ks ts) : ∃ n, lk ts x = some n := by
  cases e : lk ts x with
  | none => exact absurd h (lk_none_iff.mp e)
  | some n => exact ⟨n, rfl⟩
theorem ks_of_lk {ts : Tb} {x : Str} {n : Int} (h : lk ts x = some n) : x ∈ ks ts := by
  apply Classical.byContradiction
  intro q
  rw [lk_none_iff.mpr q] at h
  cases h
theorem lk_mem : ∀ {ts : Tb} {x : Str} {n : Int}, lk ts x = some n → (x, n) ∈ ts
  | [], _, _, h => by cases h
  | p :: r, x, n, h => by
    have h1 : (if p.1 = x then some p.2 else lk r x) = some n := h
    by_cases e : p.1 = x
    · rw [if_pos e] at h1
      have e2 : p.2 = n := Option.some.inj h1
      rw [← e, ← e2]
      exact List.mem_cons_self
    · rw [if_neg e] at h1
      exact List.mem_cons_of_mem _ (lk_mem h1)
theorem mem_lk : ∀ {ts : Tb} {x : Str} {n : Int}, (ks ts).Nodup → (x, n) ∈ ts → lk ts x = some n
  | [], _, _, _, h => by cases h
  | p :: r, x, n, hn, h => by
    have hn2 : (p.1 :: ks r).Nodup := hn
    obtain ⟨h1, h2⟩ := List.nodup_cons.mp hn2
    show (if p.1 = x then some p.2 else lk r x) = some n
    rcases List.mem_cons.mp h with e | e
    · rw [if_pos (by rw [← e]), ← e]
    · have hx : x ∈ ks r := List.mem_map.mpr ⟨(x, n), e, rfl⟩
      rw [if_neg (fun q => h1 (by rw [q]; exact hx))]
      exact mem_lk h2 e
theorem pt_new {ts : Tb} {x : Str} {n : Int} (h : x ∉ ks ts) : pt ts x n = ts ++ [(x, n)] := if_neg h
theorem pt_old {ts : Tb} {x : Str} {n : Int} (h : x ∈ ks ts) : pt ts x n = ts.map (fun p => if p.1 = x then (p.1, n) else p) := if_pos h
theorem lk_snoc : ∀ (ts : Tb) (x y : Str) (n : Int), x ∉ ks ts → lk (ts ++ [(x, n)]) y = if y = x then some n else lk ts y
  | [], x, y, n, _ => by
    show (if x = y then some n else none) = if y = x then some n else none
    by_cases h : x = y
    · rw [if_pos h, if_pos h.symm]
    · rw [if_neg h, if_neg (Ne.symm h)]
  | p :: r, x, y, n, hx => by
    have hx2 : x ∉ p.1 :: ks r := hx
    show (if p.1 = y then some p.2 else lk (r ++ [(x, n)]) y) = if y = x then some n else (if p.1 = y then some p.2 else lk r y)
    rw [lk_snoc r x y n (fun q => hx2 (List.mem_cons_of_mem _ q))]
    by_cases h2 : y = x
    · rw [if_pos h2, if_pos h2, if_neg (fun e => hx2 (by rw [← h2, ← e]; exact List.mem_cons_self))]
    · rw [if_neg h2, if_neg h2]
theorem lk_rep : ∀ (ts : Tb) (x y : Str) (n : Int), lk (ts.map (fun p => if p.1 = x then (p.1, n) else p)) y = (lk ts y).map fun m => if y = x then n else m
  | [], _, _, _ => rfl
  | p :: r, x, y, n => by
    show (if (if p.1 = x then (p.1, n) else p).1 = y then some (if p.1 = x then (p.1, n) else p).2 else lk (r.map (fun p => if p.1 = x then (p.1, n) else p)) y) = (if p.1 = y then some p.2 else lk r y).map fun m => if y = x then n else m
    rw [lk_rep r x y n]
    by_cases h : p.1 = x
    · rw [if_pos h]
      by_cases h2 : p.1 = y
      · rw [if_pos h2, if_pos h2]
        show some n = some (if y = x then n else p.2)
        rw [if_pos (by rw [← h2]; exact h)]
      · rw [if_neg h2, if_neg h2]
    · rw [if_neg h]
      by_cases h2 : p.1 = y
      · rw [if_pos h2, if_pos h2]
        show some p.2 = some (if y = x then n else p.2)
        rw [if_neg (by rw [← h2]; exact h)]
      · rw [if_neg h2, if_neg h2]
theorem lk_pt (ts : Tb) (x y : Str) (n : Int) : lk (pt ts x n) y = if y = x then some n else lk ts y := by
  by_cases h : x ∈ ks ts
  · rw [pt_old h, lk_rep]
    by_cases h2 : y = x
    · rw [if_pos h2]
      obtain ⟨m, e⟩ := lk_some (show y ∈ ks ts by rw [h2]; exact h)
      rw [e]
      show some (if y = x then n else m) = some n
      rw [if_pos h2]
    · rw [if_neg h2]
      cases lk ts y with
      | none => rfl
      | some m =>
        show some (if y = x then n else m) = some m
        rw [if_neg h2]
  · rw [pt_new h, lk_snoc ts x y n h]
theorem ks_pt (ts : Tb) (x : Str) (n : Int) : ks (pt ts x n) = if x ∈ ks ts then ks ts else ks ts ++ [x] := by
  by_cases h : x ∈ ks ts
  · rw [pt_old h, if_pos h]
    unfold ks
    rw [List.map_map]
    exact List.map_congr_left fun p _ => by
      show (if p.1 = x then (p.1, n) else p).1 = p.1
      by_cases e : p.1 = x
      · rw [if_pos e]
      · rw [if_neg e]
  · rw [pt_new h, if_neg h]
    unfold ks
    rw [List.map_append]
    rfl
theorem ks_pt_old {ts : Tb} {x : Str} {n : Int} (h : x ∈ ks ts) : ks (pt ts x n) = ks ts := by rw [ks_pt, if_pos h]
theorem ks_pt_new {ts : Tb} {x : Str} {n : Int} (h : x ∉ ks ts) : ks (pt ts x n) = ks ts ++ [x] := by rw [ks_pt, if_neg h]
theorem nodup_pt {ts : Tb} {x : Str} {n : Int} (h : (ks ts).Nodup) : (ks (pt ts x n)).Nodup := by
  rw [ks_pt]
  by_cases h2 : x ∈ ks ts
  · rw [if_pos h2]
    exact h
  · rw [if_neg h2]
    exact nd_snoc h h2
theorem mem_pt {ts : Tb} {x : Str} {n : Int} {q : Str × Int} (h : q ∈ pt ts x n) : q = (x, n) ∨ q ∈ ts := by
  by_cases hx : x ∈ ks ts
  · rw [pt_old hx] at h
    obtain ⟨p, hp, e⟩ := List.mem_map.mp h
    by_cases e2 : p.1 = x
    · rw [if_pos e2] at e
      exact .inl (by rw [← e, e2])
    · rw [if_neg e2] at e
      exact .inr (by rw [← e]; exact hp)
  · rw [pt_new hx] at h
    rcases List.mem_append.mp h with a | a
    · exact .inr a
    · exact .inl (List.mem_singleton.mp a)
theorem len_pt (ts : Tb) (x : Str) (n : Int) : (pt ts x n).length ≤ ts.length + 1 := by
  rw [← ks_len, ks_pt, ← ks_len]
  by_cases h : x ∈ ks ts
  · rw [if_pos h]
    omega
  · rw [if_neg h, List.length_append]
    exact Nat.le_refl _
theorem any_dk (ts : Tb) (x : Str) : ((dk ts).any fun kv => decide (kv.1 = (Sum.inr x : Key))) = decide (x ∈ ks ts) := by
  rw [valV_any, valV_dk]
  by_cases h : x ∈ ks ts
  · obtain ⟨n, e⟩ := lk_some h
    rw [e, decide_eq_true h]
    rfl
  · rw [lk_none_iff.mpr h, decide_eq_false h]
    rfl
theorem putK_dk (ts : Tb) (x : Str) (n : Int) : putK (dk ts) (Sum.inr x : Key) (V.int n) = dk (pt ts x n) := by
  unfold putK
  rw [any_dk]
  by_cases h : x ∈ ks ts
  · rw [decide_eq_true h, if_pos rfl, pt_old h]
    unfold dk
    rw [List.map_map, List.map_map]
    refine List.map_congr_left fun p _ => ?_
    show (if (Sum.inr p.1 : Key) = Sum.inr x then ((Sum.inr p.1 : Key), V.int n) else (Sum.inr p.1, V.int p.2)) = (Sum.inr (if p.1 = x then (p.1, n) else p).1, V.int (if p.1 = x then (p.1, n) else p).2)
    by_cases e : p.1 = x
    · rw [if_pos (by rw [e]), if_pos e]
    · rw [if_neg (fun q => e (Sum.inr.inj q)), if_neg e]
  · rw [decide_eq_false h, if_neg Bool.false_ne_true, pt_new h]
    unfold dk
    rw [List.map_append]
    rfl
end K21
set_option maxHeartbeats 4000000
/-! what the head tells, by name -/
namespace K21
open PySem PySem.Spec PyProof.Rows L2 He
structure Tx (K : Fg) (mg : Str → Option Value) : Prop where
  says : obK fAll xAll dAll K = vaK dAll
  on : ∃ h : Heap, K.In h ∧ h.Ns mainGlobals mg
section
variable {K : Fg} {mg : Str → Option Value}
theorem Tx.one (T : Tx K mg) : ((fAll.all fun f => f.ok K) && ((xAll K).all id && dAll.all fun d => d.good K)) = true := congrArg (fun z : AlK => z.1) T.says
theorem Tx.fact (T : Tx K mg) (i : Nat) {f : Fa} (h : fAll[i]? = some f := by rfl) : f.ok K = true := List.all_eq_true.mp (ba T.one).1 f (List.mem_of_getElem? h)
theorem Tx.xf (T : Tx K mg) (i : Nat) {b : Bool} (h : (xAll K)[i]? = some b := by rfl) : b = true := List.all_eq_true.mp (ba (ba T.one).2).1 b (List.mem_of_getElem? h)
theorem Tx.df (T : Tx K mg) (i : Nat) {d : Df} (h : dAll[i]? = some d := by rfl) : ∃ fd, DfAt K d fd := by
  have e : dAll.map (fun d => d.look K) = dAll.map Df.want := congrArg (fun z : AlK => z.2) T.says
  have e2 : (dAll.map fun d => d.look K)[i]? = (dAll.map Df.want)[i]? := by rw [e]
  rw [List.getElem?_map, List.getElem?_map, h] at e2
  exact Df.at (Option.some.inj e2) (List.all_eq_true.mp (ba (ba T.one).2).2 d (List.mem_of_getElem? h))
theorem Tx.glo (T : Tx K mg) {x : Str} (h : (Fa.glo x).ok K = true) : mg x = some (.ref (ga K x)) := by
  obtain ⟨h0, X, G⟩ := T.on
  exact glo_ok X G h
theorem Tx.fre (T : Tx K mg) {x : Str} (h : (Fa.free x).ok K = true) : mg x = none := by
  obtain ⟨h0, X, G⟩ := T.on
  exact free_ok X G h
theorem Tx.g_is_integer (T : Tx K mg) : mg "is_integer" = some (.ref (ga K "is_integer")) := T.glo (T.fact 0)
theorem Tx.g_is_name (T : Tx K mg) : mg "is_name" = some (.ref (ga K "is_name")) := T.glo (T.fact 1)
theorem Tx.g_are_times (T : Tx K mg) : mg "are_times" = some (.ref (ga K "are_times")) := T.glo (T.fact 2)
theorem Tx.g_want_times (T : Tx K mg) : mg "want_times" = some (.ref (ga K "want_times")) := T.glo (T.fact 3)
theorem Tx.g_want_shift (T : Tx K mg) : mg "want_shift" = some (.ref (ga K "want_shift")) := T.glo (T.fact 4)
theorem Tx.g_least_of (T : Tx K mg) : mg "least_of" = some (.ref (ga K "least_of")) := T.glo (T.fact 5)
theorem Tx.g_want_shifts (T : Tx K mg) : mg "want_shifts" = some (.ref (ga K "want_shifts")) := T.glo (T.fact 6)
theorem Tx.g_as_earliest (T : Tx K mg) : mg "as_earliest" = some (.ref (ga K "as_earliest")) := T.glo (T.fact 7)
theorem Tx.g_Earliest (T : Tx K mg) : mg "Earliest" = some (.ref (ga K "Earliest")) := T.glo (T.fact 8)
theorem Tx.g_Rule (T : Tx K mg) : mg "Rule" = some (.ref (ga K "Rule")) := T.glo (T.fact 9)
theorem Tx.g_Term (T : Tx K mg) : mg "Term" = some (.ref (ga K "Term")) := T.glo (T.fact 10)
theorem Tx.g_law_pot (T : Tx K mg) : mg "_law_pot" = some (.ref (ga K "_law_pot")) := T.glo (T.fact 11)
theorem Tx.g_law_draw (T : Tx K mg) : mg "_law_draw" = some (.ref (ga K "_law_draw")) := T.glo (T.fact 12)
theorem Tx.g_law_pick (T : Tx K mg) : mg "_law_pick" = some (.ref (ga K "_law_pick")) := T.glo (T.fact 13)
theorem Tx.g_law_mixed (T : Tx K mg) : mg "_law_mixed" = some (.ref (ga K "_law_mixed")) := T.glo (T.fact 14)
theorem Tx.g_law_names (T : Tx K mg) : mg "_law_names" = some (.ref (ga K "_law_names")) := T.glo (T.fact 15)
theorem Tx.g_law_number (T : Tx K mg) : mg "_law_number" = some (.ref (ga K "_law_number")) := T.glo (T.fact 16)
theorem Tx.g_law_shifts (T : Tx K mg) : mg "_law_shifts" = some (.ref (ga K "_law_shifts")) := T.glo (T.fact 17)
theorem Tx.g_law_side (T : Tx K mg) : mg "_law_side" = some (.ref (ga K "_law_side")) := T.glo (T.fact 18)
theorem Tx.g_law_least (T : Tx K mg) : mg "_law_least" = some (.ref (ga K "_law_least")) := T.glo (T.fact 19)
theorem Tx.g_law_times (T : Tx K mg) : mg "_law_times" = some (.ref (ga K "_law_times")) := T.glo (T.fact 20)
theorem Tx.g_law_broken (T : Tx K mg) : mg "_law_broken" = some (.ref (ga K "_law_broken")) := T.glo (T.fact 21)
theorem Tx.g_law_kept (T : Tx K mg) : mg "_law_kept" = some (.ref (ga K "_law_kept")) := T.glo (T.fact 22)
theorem Tx.g_law_moved (T : Tx K mg) : mg "_law_moved" = some (.ref (ga K "_law_moved")) := T.glo (T.fact 23)
theorem Tx.g_law_at_times_right (T : Tx K mg) : mg "_law_at_times_right" = some (.ref (ga K "_law_at_times_right")) := T.glo (T.fact 24)
theorem Tx.g_law_contrary_right (T : Tx K mg) : mg "_law_contrary_right" = some (.ref (ga K "_law_contrary_right")) := T.glo (T.fact 25)
theorem Tx.g_law_kinds_right (T : Tx K mg) : mg "_law_kinds_right" = some (.ref (ga K "_law_kinds_right")) := T.glo (T.fact 26)
theorem Tx.g_law_turned_right (T : Tx K mg) : mg "_law_turned_right" = some (.ref (ga K "_law_turned_right")) := T.glo (T.fact 27)
theorem Tx.g_law_rule_right (T : Tx K mg) : mg "_law_rule_right" = some (.ref (ga K "_law_rule_right")) := T.glo (T.fact 28)
theorem Tx.g_law (T : Tx K mg) : mg "law" = some (.ref (ga K "law")) := T.glo (T.fact 29)
theorem Tx.n_len (T : Tx K mg) : mg "len" = none := T.fre (T.fact 30)
theorem Tx.n_isinstance (T : Tx K mg) : mg "isinstance" = none := T.fre (T.fact 31)
theorem Tx.n_all (T : Tx K mg) : mg "all" = none := T.fre (T.fact 32)
theorem Tx.n_sorted (T : Tx K mg) : mg "sorted" = none := T.fre (T.fact 33)
theorem Tx.n_min (T : Tx K mg) : mg "min" = none := T.fre (T.fact 34)
theorem Tx.n_max (T : Tx K mg) : mg "max" = none := T.fre (T.fact 35)
theorem Tx.n_list (T : Tx K mg) : mg "list" = none := T.fre (T.fact 36)
theorem Tx.n_dict (T : Tx K mg) : mg "dict" = none := T.fre (T.fact 37)
theorem Tx.n_tuple (T : Tx K mg) : mg "tuple" = none := T.fre (T.fact 38)
theorem Tx.n_set (T : Tx K mg) : mg "set" = none := T.fre (T.fact 39)
theorem Tx.n_str (T : Tx K mg) : mg "str" = none := T.fre (T.fact 40)
theorem Tx.n_int (T : Tx K mg) : mg "int" = none := T.fre (T.fact 41)
theorem Tx.n_bool (T : Tx K mg) : mg "bool" = none := T.fre (T.fact 42)
theorem Tx.n_repr (T : Tx K mg) : mg "repr" = none := T.fre (T.fact 43)
theorem Tx.n_abs (T : Tx K mg) : mg "abs" = none := T.fre (T.fact 44)
theorem Tx.n_divmod (T : Tx K mg) : mg "divmod" = none := T.fre (T.fact 45)
theorem Tx.n_range (T : Tx K mg) : mg "range" = none := T.fre (T.fact 46)
theorem Tx.n_enumerate (T : Tx K mg) : mg "enumerate" = none := T.fre (T.fact 47)
theorem Tx.i_MOST_LETTERS (T : Tx K mg) : ∃ u, mg "MOST_LETTERS" = some u ∧ RelV (.int 8) u := by
  obtain ⟨h0, X, G⟩ := T.on
  obtain ⟨t, e⟩ := int_ok X G (T.fact 48)
  exact ⟨_, e, t, rfl⟩
theorem Tx.i_MOST_TERMS (T : Tx K mg) : ∃ u, mg "MOST_TERMS" = some u ∧ RelV (.int 8) u := by
  obtain ⟨h0, X, G⟩ := T.on
  obtain ⟨t, e⟩ := int_ok X G (T.fact 49)
  exact ⟨_, e, t, rfl⟩
theorem Tx.s_LETTERS (T : Tx K mg) : ∃ u, mg "LETTERS" = some u ∧ RelV (.str "abcdefghijklmnopqrstuvwxyz") u := by
  obtain ⟨h0, X, G⟩ := T.on
  obtain ⟨t, e⟩ := str_ok X G (T.fact 50)
  exact ⟨_, e, t, rfl⟩
theorem Tx.c_Earliest (T : Tx K mg) : Cls K (ga K "Earliest") := cls_ok (T.fact 51)
theorem Tx.c_Rule (T : Tx K mg) : Cls K (ga K "Rule") := cls_ok (T.fact 52)
theorem Tx.c_Term (T : Tx K mg) : Cls K (ga K "Term") := cls_ok (T.fact 53)
theorem Tx.mk_Earliest (T : Tx K mg) : Mk K (ga K "Earliest") (ma K (ga K "Earliest") "__init__") := mkr_ok (T.fact 54)
theorem Tx.mk_Rule (T : Tx K mg) : Mk K (ga K "Rule") (ma K (ga K "Rule") "__init__") := mkr_ok (T.fact 55)
theorem Tx.mk_Term (T : Tx K mg) : Mk K (ga K "Term") (ma K (ga K "Term") "__init__") := mkr_ok (T.fact 56)
theorem Tx.no_Earliest_own_shifts (T : Tx K mg) : NoAttr K (ga K "Earliest") "own_shifts" := noat_ok (T.fact 57)
theorem Tx.no_Rule_own_moment (T : Tx K mg) : NoAttr K (ga K "Rule") "own_moment" := noat_ok (T.fact 58)
theorem Tx.no_Rule_own_earliest (T : Tx K mg) : NoAttr K (ga K "Rule") "own_earliest" := noat_ok (T.fact 59)
theorem Tx.no_Term_own_moment (T : Tx K mg) : NoAttr K (ga K "Term") "own_moment" := noat_ok (T.fact 60)
theorem Tx.no_Term_own_shift (T : Tx K mg) : NoAttr K (ga K "Term") "own_shift" := noat_ok (T.fact 61)
theorem Tx.me_Earliest_shifts (T : Tx K mg) : Meth K (ga K "Earliest") "shifts" (ma K (ga K "Earliest") "shifts") := meth_ok (T.fact 62)
theorem Tx.me_Earliest_term_values (T : Tx K mg) : Meth K (ga K "Earliest") "term_values" (ma K (ga K "Earliest") "term_values") := meth_ok (T.fact 63)
theorem Tx.me_Rule_slack (T : Tx K mg) : Meth K (ga K "Rule") "slack" (ma K (ga K "Rule") "slack") := meth_ok (T.fact 64)
theorem Tx.me_Rule_kept_by (T : Tx K mg) : Meth K (ga K "Rule") "kept_by" (ma K (ga K "Rule") "kept_by") := meth_ok (T.fact 65)
theorem Tx.me_Rule_contrary (T : Tx K mg) : Meth K (ga K "Rule") "contrary" (ma K (ga K "Rule") "contrary") := meth_ok (T.fact 66)
theorem Tx.p_Rule_moments (T : Tx K mg) : PropOf K (ga K "Rule") "moments" (ma K (ga K "Rule") "moments") (pgt K "Rule" "moments") := prB_ok (T.xf 0)
theorem Tx.p_Rule_is_always (T : Tx K mg) : PropOf K (ga K "Rule") "is_always" (ma K (ga K "Rule") "is_always") (pgt K "Rule" "is_always") := prB_ok (T.xf 1)
theorem Tx.p_Rule_is_never (T : Tx K mg) : PropOf K (ga K "Rule") "is_never" (ma K (ga K "Rule") "is_never") (pgt K "Rule" "is_never") := prB_ok (T.xf 2)
theorem Tx.p_Term_moment (T : Tx K mg) : PropOf K (ga K "Term") "moment" (ma K (ga K "Term") "moment") (pgt K "Term" "moment") := prB_ok (T.xf 3)
theorem Tx.p_Term_shift (T : Tx K mg) : PropOf K (ga K "Term") "shift" (ma K (ga K "Term") "shift") (pgt K "Term" "shift") := prB_ok (T.xf 4)
theorem Tx.sp_Earliest_call (T : Tx K mg) : SpOf K "Earliest" "__call__" := spB_ok (T.xf 5)
theorem Tx.sp_Earliest_or (T : Tx K mg) : SpOf K "Earliest" "__or__" := spB_ok (T.xf 6)
theorem Tx.sp_Earliest_eq (T : Tx K mg) : SpOf K "Earliest" "__eq__" := spB_ok (T.xf 7)
theorem Tx.sp_Earliest_repr (T : Tx K mg) : SpOf K "Earliest" "__repr__" := spB_ok (T.xf 8)
theorem Tx.sp_Rule_eq (T : Tx K mg) : SpOf K "Rule" "__eq__" := spB_ok (T.xf 9)
theorem Tx.sp_Rule_repr (T : Tx K mg) : SpOf K "Rule" "__repr__" := spB_ok (T.xf 10)
theorem Tx.sp_Term_or (T : Tx K mg) : SpOf K "Term" "__or__" := spB_ok (T.xf 11)
theorem Tx.is_Earliest (T : Tx K mg) : IsOf K "Earliest" := isB_ok (T.xf 12)
theorem Tx.is_Rule (T : Tx K mg) : IsOf K "Rule" := isB_ok (T.xf 13)
theorem Tx.is_Term (T : Tx K mg) : IsOf K "Term" := isB_ok (T.xf 14)
theorem Tx.kitOne_Earliest_Earliest (T : Tx K mg) : PySem.W.kitOne K (.ref (ga K "Earliest")) (.ref (ga K "Earliest")) = some true := of_decide_eq_true (T.xf 15)
theorem Tx.kitOne_Term_Earliest (T : Tx K mg) : PySem.W.kitOne K (.ref (ga K "Term")) (.ref (ga K "Earliest")) = some false := of_decide_eq_true (T.xf 16)
theorem Tx.kitOne_Rule_Rule (T : Tx K mg) : PySem.W.kitOne K (.ref (ga K "Rule")) (.ref (ga K "Rule")) = some true := of_decide_eq_true (T.xf 17)
theorem Tx.selfFirst_Term (T : Tx K mg) : PySem.W.selfFirst K (ga K "Term") = true := T.xf 18
theorem Tx.selfFirst_Earliest (T : Tx K mg) : PySem.W.selfFirst K (ga K "Earliest") = true := T.xf 19
theorem Tx.notFirst_Earliest_Term (T : Tx K mg) : PySem.W.notFirst K (ga K "Earliest") (.ref (ga K "Term")) = true := T.xf 20
theorem Tx.noror_Earliest (T : Tx K mg) : PySem.W.findIn K (.ref (ga K "Earliest")) "__ror__" = some none := eqO_ok (T.xf 21)
theorem Tx.noror_Term (T : Tx K mg) : PySem.W.findIn K (.ref (ga K "Term")) "__ror__" = some none := eqO_ok (T.xf 22)
theorem Tx.subIn_Term_Earliest (T : Tx K mg) : PySem.W.subIn K (.ref (ga K "Term")) (.ref (ga K "Earliest")) = some false := of_decide_eq_true (T.xf 23)
theorem Tx.dIsInteger (T : Tx K mg) : ∃ fd, DfAt K dIsInteger fd := T.df 0
theorem Tx.dIsName (T : Tx K mg) : ∃ fd, DfAt K dIsName fd := T.df 1
theorem Tx.dAreTimes (T : Tx K mg) : ∃ fd, DfAt K dAreTimes fd := T.df 2
theorem Tx.dWantTimes (T : Tx K mg) : ∃ fd, DfAt K dWantTimes fd := T.df 3
theorem Tx.dWantShift (T : Tx K mg) : ∃ fd, DfAt K dWantShift fd := T.df 4
theorem Tx.dLeastOf (T : Tx K mg) : ∃ fd, DfAt K dLeastOf fd := T.df 5
theorem Tx.dWantShifts (T : Tx K mg) : ∃ fd, DfAt K dWantShifts fd := T.df 6
theorem Tx.dAsEarliest (T : Tx K mg) : ∃ fd, DfAt K dAsEarliest fd := T.df 7
theorem Tx.dLawPot (T : Tx K mg) : ∃ fd, DfAt K dLawPot fd := T.df 8
theorem Tx.dLawDraw (T : Tx K mg) : ∃ fd, DfAt K dLawDraw fd := T.df 9
theorem Tx.dLawPick (T : Tx K mg) : ∃ fd, DfAt K dLawPick fd := T.df 10
theorem Tx.dLawMixed (T : Tx K mg) : ∃ fd, DfAt K dLawMixed fd := T.df 11
theorem Tx.dLawNames (T : Tx K mg) : ∃ fd, DfAt K dLawNames fd := T.df 12
theorem Tx.dLawNumber (T : Tx K mg) : ∃ fd, DfAt K dLawNumber fd := T.df 13
theorem Tx.dLawShifts (T : Tx K mg) : ∃ fd, DfAt K dLawShifts fd := T.df 14
theorem Tx.dLawSide (T : Tx K mg) : ∃ fd, DfAt K dLawSide fd := T.df 15
theorem Tx.dLawLeast (T : Tx K mg) : ∃ fd, DfAt K dLawLeast fd := T.df 16
theorem Tx.dLawTimes (T : Tx K mg) : ∃ fd, DfAt K dLawTimes fd := T.df 17
theorem Tx.dLawBroken (T : Tx K mg) : ∃ fd, DfAt K dLawBroken fd := T.df 18
theorem Tx.dLawKept (T : Tx K mg) : ∃ fd, DfAt K dLawKept fd := T.df 19
theorem Tx.dLawMoved (T : Tx K mg) : ∃ fd, DfAt K dLawMoved fd := T.df 20
theorem Tx.dLawAtTimesRight (T : Tx K mg) : ∃ fd, DfAt K dLawAtTimesRight fd := T.df 21
theorem Tx.dLawContraryRight (T : Tx K mg) : ∃ fd, DfAt K dLawContraryRight fd := T.df 22
theorem Tx.dLawKindsRight (T : Tx K mg) : ∃ fd, DfAt K dLawKindsRight fd := T.df 23
theorem Tx.dLawTurnedRight (T : Tx K mg) : ∃ fd, DfAt K dLawTurnedRight fd := T.df 24
theorem Tx.dLawRuleRight (T : Tx K mg) : ∃ fd, DfAt K dLawRuleRight fd := T.df 25
theorem Tx.dLaw (T : Tx K mg) : ∃ fd, DfAt K dLaw fd := T.df 26
theorem Tx.dEarliestInit (T : Tx K mg) : ∃ fd, DfAt K dEarliestInit fd := T.df 27
theorem Tx.dEarliestshifts (T : Tx K mg) : ∃ fd, DfAt K dEarliestshifts fd := T.df 28
theorem Tx.dEarliesttermValues (T : Tx K mg) : ∃ fd, DfAt K dEarliesttermValues fd := T.df 29
theorem Tx.dEarliestCall (T : Tx K mg) : ∃ fd, DfAt K dEarliestCall fd := T.df 30
theorem Tx.dEarliestOr (T : Tx K mg) : ∃ fd, DfAt K dEarliestOr fd := T.df 31
theorem Tx.dEarliestEq (T : Tx K mg) : ∃ fd, DfAt K dEarliestEq fd := T.df 32
theorem Tx.dEarliestRepr (T : Tx K mg) : ∃ fd, DfAt K dEarliestRepr fd := T.df 33
theorem Tx.dRuleInit (T : Tx K mg) : ∃ fd, DfAt K dRuleInit fd := T.df 34
theorem Tx.dRuleslack (T : Tx K mg) : ∃ fd, DfAt K dRuleslack fd := T.df 35
theorem Tx.dRulekeptBy (T : Tx K mg) : ∃ fd, DfAt K dRulekeptBy fd := T.df 36
theorem Tx.dRulecontrary (T : Tx K mg) : ∃ fd, DfAt K dRulecontrary fd := T.df 37
theorem Tx.dRuleEq (T : Tx K mg) : ∃ fd, DfAt K dRuleEq fd := T.df 38
theorem Tx.dRuleRepr (T : Tx K mg) : ∃ fd, DfAt K dRuleRepr fd := T.df 39
theorem Tx.dRulemoments (T : Tx K mg) : ∃ fd, DfAt K dRulemoments fd := T.df 40
theorem Tx.dRuleisAlways (T : Tx K mg) : ∃ fd, DfAt K dRuleisAlways fd := T.df 41
theorem Tx.dRuleisNever (T : Tx K mg) : ∃ fd, DfAt K dRuleisNever fd := T.df 42
theorem Tx.dTermInit (T : Tx K mg) : ∃ fd, DfAt K dTermInit fd := T.df 43
theorem Tx.dTermOr (T : Tx K mg) : ∃ fd, DfAt K dTermOr fd := T.df 44
theorem Tx.dTermmoment (T : Tx K mg) : ∃ fd, DfAt K dTermmoment fd := T.df 45
theorem Tx.dTermshift (T : Tx K mg) : ∃ fd, DfAt K dTermshift fd := T.df 46
end
end K21
set_option maxHeartbeats 4000000
/-! rules in short; the first defs -/
namespace K21
open PySem PySem.Spec PyProof.Rows L2 He
/-! ### built-ins at the boot -/
theorem bt_isinstance : bootBuiltins "isinstance" = some (.builtin "isinstance") := PyProof.Rows.boot_isinstance
theorem bt_len : bootBuiltins "len" = some (.builtin "len") := PySem.boot_len
theorem bt_all : bootBuiltins "all" = some (.builtin "all") := PyProof.Rows.boot_all
theorem bt_sorted : bootBuiltins "sorted" = some (.builtin "sorted") := PyProof.Rows.boot_sorted
theorem bt_min : bootBuiltins "min" = some (.builtin "min") := PyProof.Rows.boot_min
theorem bt_max : bootBuiltins "max" = some (.builtin "max") := PyProof.Rows.boot_max
theorem bt_abs : bootBuiltins "abs" = some (.builtin "abs") := PyProof.Rows.boot_abs
theorem bt_repr : bootBuiltins "repr" = some (.builtin "repr") := PyProof.Rows.boot_repr
theorem bt_divmod : bootBuiltins "divmod" = some (.builtin "divmod") := PyProof.Rows.boot_divmod
theorem bt_list : bootBuiltins "list" = some (.type "list") := PyProof.Rows.boot_list
theorem bt_dict : bootBuiltins "dict" = some (.type "dict") := PyProof.Rows.boot_dict
theorem bt_tuple : bootBuiltins "tuple" = some (.type "tuple") := PyProof.Rows.boot_tuple
theorem bt_set : bootBuiltins "set" = some (.type "set") := PyProof.Rows.boot_set
theorem bt_int : bootBuiltins "int" = some (.type "int") := PyProof.Rows.boot_int
theorem bt_bool : bootBuiltins "bool" = some (.type "bool") := PyProof.Rows.boot_bool
theorem bt_str : bootBuiltins "str" = some (.type "str") := PyProof.Rows.boot_str

/-! ### a def that keeps its promise -/
structure Cd (P : Program) (w : World) (K : Fg) (mg : Str → Option Value) (base : Heap) (k : Nat) (d : Df) (ps : List Str) (sp : Sp) : Prop where
  ex : ∃ fd, FnOk P w K mg base CX0 k (d.pl K) fd ps sp ∧ Binds K fd ps []
  kp : PySem.W.keepIn K (.ref (d.pl K)) = true
theorem Cd.mk1 {P : Program} {w : World} {K : Fg} {mg : Str → Option Value} {base : Heap} {k : Nat} {d : Df} {ps : List Str} {sp : Sp} {fd : FuncData} (F : DfAt K d fd) (h : FnOk P w K mg base CX0 k (d.pl K) fd ps sp) (b : Binds K fd ps []) : Cd P w K mg base k d ps sp := ⟨⟨fd, h, b⟩, F.kp⟩
theorem Cd.of {P : Program} {w : World} {K : Fg} {mg : Str → Option Value} {base : Heap} {k : Nat} {d : Df} {N ps : List Str} {sp : Sp} {fd : FuncData} (F : DfAt K d fd) (S : FnScope N ps (defScope d.st)) (b : Binds K fd ps []) (len : ∀ vs H Q E, sp vs H Q E → vs.length = ps.length)
    (hbody : ∀ (cdv : Value) (A : Around) (outer : List Env) (s : Shared) (H : Hp) (vs : List V) (Q : VK) (E : XK), Room k (A.deeper (envOfC d.ql (defScope d.st) s.heap.objs.size (d.pl K) cdv)) → sp vs H Q E →
      ∃ t, PSs (cxOf CX0 P w K mg base N d.ql (defScope d.st) (d.pl K) cdv A outer s H E).nox (defBody d.st) t ∧ t { nx := fun _ H' => Q .non H', rt := Q } (L2.start N vs) H) : Cd P w K mg base (k + 1) d ps sp :=
  .mk1 F (F.ok S len fun cdv A outer s H vs Q E hr h => by
    obtain ⟨t, h1, h2⟩ := hbody cdv A outer s H vs Q E hr h
    exact ⟨t, h1.nox, h2⟩) b
section
variable {X : Cx} {k j : Nat} {d : Df} {ps : List Str} {sp : Sp} {x : Str} {p pos : Pos} {e : Expr} {es : List Expr} {t : TA}
/-- f(e, ..) -/
theorem pe_cd (c : Cd X.prog X.w X.K X.mg X.base k d ps sp) (hr : Room j X.A) (hm : X.mg x = some (.ref (d.pl X.K))) (ha : PA X (e :: es) t) (hk : k ≤ j := by decide) (hg : Gl X x := by rfl) (hdb : (x == ("__debug__" : Str)) = false := by decide)
    (he : starEach (e :: es) X.env = (false, eval e X.env) :: starEach es X.env := by rfl) (hpl : (backTo pos (starEach es X.env)).any (·.1) = false := by rfl) : PE X (.Call (.Name x p) (e :: es) [] pos) (tCall sp [] E0 t) := by
  obtain ⟨fd, F, b⟩ := c.ex
  exact pe_call F (hr.mono hk) hg hm c.kp b .nil pass0 ha hdb he hpl
/-- a constant of the module -/
theorem pe_gk {v : V} (h : ∃ u, X.mg x = some u ∧ RelV v u) (hg : Gl X x := by rfl) (hd : (x == ("__debug__" : Str)) = false := by decide) : PE X (.Name x pos) (tC v) := by
  obtain ⟨u, h1, h2⟩ := h
  exact pe_glob hg h1 h2 hd
end
theorem isi_go {K : Fg} {H : Hp} {x c : V} {t u : Value} {b : Bool} {Q : VK} (k : ClsV c u) (ty : TyX K H x t) (e : PySem.W.kitOne K t u = some b) (q : Q (.bl b) H) : rIsi K [x, c] H Q := ⟨x, c, t, u, b, rfl, k, ty, e, q⟩
theorem ki_ii {K : Fg} : PySem.W.kitOne K (.type "int") (.type "int") = some true := kit_ty (by decide +kernel)
theorem ki_ib {K : Fg} : PySem.W.kitOne K (.type "int") (.type "bool") = some false := kit_ty (by decide +kernel)
theorem ki_ss {K : Fg} : PySem.W.kitOne K (.type "str") (.type "str") = some true := kit_ty (by decide +kernel)
theorem ki_dd {K : Fg} : PySem.W.kitOne K (.type "dict") (.type "dict") = some true := kit_ty (by decide +kernel)
theorem ki_ll {K : Fg} : PySem.W.kitOne K (.type "list") (.type "list") = some true := kit_ty (by decide +kernel)

section
variable {P : Program} {w : World} {K : Fg} {mg : Str → Option Value} {base : Heap}
/-! ### is_integer -/
def spInteger : Sp := fun vs H Q _ => ∃ n : Int, vs = [.int n] ∧ Q (.bl true) H
theorem sc_is_integer : FnScope ["value"] ["value"] (defScope dIsInteger.st) := ⟨rfl, rfl, rfl, by decide +kernel, rfl, by decide +kernel, by decide +kernel⟩
theorem ok_is_integer (T : Tx K mg) : Cd P w K mg base 1 dIsInteger ["value"] spInteger := by
  obtain ⟨fd, F⟩ := T.dIsInteger
  refine .mk1 F (F.ok sc_is_integer (fun vs H Q E h => ?_) (fun cdv A outer s H vs Q E hr h => ?_)) (F.bindsN fun _ _ _ _ _ _ us hl => match us, hl with | [_], _ => rfl)
  · obtain ⟨n, rfl, _⟩ := h
    rfl
  · obtain ⟨n, rfl, q⟩ := h
    refine ⟨_, pss_one (ps_ret (pe_and (pe_callB call_isi (by rfl) T.n_isinstance bt_isinstance (pa_cons (pv 0) (pa_cons (pe_bltn (v := .ty "int") (by rfl) T.n_int bt_int rfl) pa_nil)))
      (pe_one (pe_not (pe_callB call_isi (by rfl) T.n_isinstance bt_isinstance (pa_cons (pv 0) (pa_cons (pe_bltn (v := .ty "bool") (by rfl) T.n_bool bt_bool rfl) pa_nil))))))), ?_⟩
    refine ⟨_, rfl, _, _, _, _, _, rfl, .ty _, .base (.int n), ki_ii, true, rfl, iteT ?_⟩
    exact ⟨_, rfl, _, _, _, _, _, rfl, .ty _, .base (.int n), ki_ib, false, rfl, q⟩
end
end K21
set_option maxHeartbeats 4000000
/-! the plain checks -/
namespace K21
open PySem PySem.Spec PyProof.Rows L2 He
theorem new_same {H : Hp} {p : Addr} {o : HO} (h : H p = none) : Same H (upd H p o) := fun b x e => by
  rw [upd_ne (ne_of_none e h)]
  exact e
/-- what was not known to H may be written -/
theorem _root_.L2.Same.wr {H H' : Hp} {p : Addr} {o : HO} (s : Same H H') (h : H p = none) : Same H (upd H' p o) := fun b x e => by
  rw [upd_ne (ne_of_none e h)]
  exact s b x e
theorem az_in {c : Nat} (h : 97 ≤ c ∧ c ≤ 122) : c ∈ (Str.ofString "abcdefghijklmnopqrstuvwxyz").cps.toList := by
  have e : (Str.ofString "abcdefghijklmnopqrstuvwxyz").cps.toList = (List.range 26).map (97 + ·) := by decide +kernel
  rw [e]
  exact List.mem_map.mpr ⟨c - 97, List.mem_range.mpr (by omega), by omega⟩
theorem rep_snoc {α : Type} (i : Nat) (a : α) : List.replicate i a ++ [a] = List.replicate (i + 1) a := by
  rw [List.replicate_succ']
theorem rep_all (n : Nat) : (List.replicate n true).all id = true := by
  rw [List.all_eq_true]
  intro x hx
  rw [List.eq_of_mem_replicate hx]
  rfl
theorem small_lt {n : Nat} (h : n ≤ 100000) : n < sizeLine := Nat.lt_of_le_of_lt h (by decide)
theorem small_le {n : Nat} (h : n ≤ 100000) : n ≤ sizeLine := Nat.le_trans h (by decide)
section
variable {P : Program} {w : World} {K : Fg} {mg : Str → Option Value} {base : Heap}
/-! ### is_name -/
def spName : Sp := fun vs H Q _ => ∃ x : Str, vs = [.str x] ∧ VN x ∧ ∀ H', Same H H' → Q (.bl true) H'
theorem sc_is_name : FnScope ["value", "sign"] ["value"] (defScope dIsName.st) := ⟨rfl, rfl, rfl, by decide +kernel, rfl, by decide +kernel, by decide +kernel⟩
theorem ok_is_name (T : Tx K mg) : Cd P w K mg base 1 dIsName ["value"] spName := by
  obtain ⟨fd, F⟩ := T.dIsName
  refine .mk1 F (F.ok sc_is_name (fun vs H Q E h => ?_) (fun cdv A outer s H vs Q E hr h => ?_)) (F.bindsN fun _ _ _ _ _ _ us hl => match us, hl with | [_], _ => rfl)
  · obtain ⟨n, rfl, _⟩ := h
    rfl
  · obtain ⟨x, rfl, hx, q⟩ := h
    refine ⟨_, pss_cons (ps_if (PW.pt (pw_or (pt_not (pt_val (pe_callB call_isi (by rfl) T.n_isinstance bt_isinstance (pa_cons (pv 0) (pa_cons (pe_bltn (v := .ty "str") (by rfl) T.n_str bt_str rfl) pa_nil)))))
        (pw_or1 (pt_not (pt_chain op_le op_le pe_int (pe_callB call_len_str (by rfl) T.n_len bt_len (pa_cons (pv 0) pa_nil)) (pe_gk T.i_MOST_LETTERS)))))) (pss_one (ps_ret pe_bl)) pss_nil)
      (pss_one (ps_ret (pe_callB (cr_all rfl) (by rfl) T.n_all bt_all (pa_cons (pe_lc (own := [("sign", 1)]) (g := gName 1) (tt := tYes) rfl sc_is_name.nd (pi_str (pv 0)) (blkOk_by (N := ["value", "sign"]) (sc := defScope dIsName.st) (by decide +kernel))
        (fun _ _ _ _ _ => pg_name (i := 1) sc_is_name.nd rfl (Or.inl rfl)) (fun _ _ _ _ _ => pts_nil) (fun _ _ _ _ _ => pe_cmpR op_in_sign (pv 1) (pe_gk T.s_LETTERS) rfl)) pa_nil)))), ?_⟩
    have l1 := hx.lo
    have l2 := hx.hi
    refine ⟨_, rfl, _, _, _, _, _, rfl, .ty _, .base (.str x), ki_ss, true, rfl, iteF ?_⟩
    refine ⟨_, rfl, x, rfl, small_le (by omega), 1, (x.length : Int), rfl, rfl, true, congrArg V.bl (decide_eq_true (by omega)), iteT ?_⟩
    refine ⟨(x.length : Int), 8, rfl, rfl, true, congrArg V.bl (decide_eq_true (by omega)), iteF ?_⟩
    refine ⟨_, rfl, x, rfl, fun D nD => ?_⟩
    refine lc_it (walk_str (z := x)) (fun i H' => Same H H' ∧ H' D = some (.lst ((List.replicate i true).map V.bl))) ⟨new_same nD, upd_same⟩ (fun _ _ _ _ => trivial) (fun i v H1 H2 hi p y => ?_) (fun H1 p => ?_)
    · obtain ⟨rfl, c, hc, rfl⟩ := y
      refine ⟨rfl, _, rfl, c, _, rfl, rfl, (List.replicate i true).map V.bl, p.2, small_lt ?_, Same.wr p.1 nD, ?_⟩
      · rw [List.length_map, List.length_replicate]
        have e : x.cps.size = x.length := rfl
        omega
      · rw [upd_same]
        have hm : c ∈ x.cps.toList := by
          rw [Array.mem_toList_iff]
          exact Array.mem_of_getElem? hc
        rw [decide_eq_true (az_in (hx.az c hm)), ← rep_snoc, List.map_append]
        rfl
    · refine ⟨D, List.replicate x.cps.size true, rfl, .of p.2, ?_⟩
      rw [rep_all]
      exact q _ p.1
end
end K21
set_option maxHeartbeats 4000000
/-! locks, sorted tables; want_times, least_of, want_shifts -/
namespace K21
open PySem PySem.Spec PyProof.Rows L2 He
/-! ### locks -/
theorem unlock_same {H H' : Hp} {d : Addr} {u f : HO} (h : H d = some u) (s : Same (upd H d f) H') : Same H (upd H' d u) := fun b o e => by
  by_cases hb : b = d
  · subst hb
    rw [h] at e
    rw [upd_same]
    exact e
  · rw [upd_ne hb]
    exact s b o (by rw [upd_ne hb]; exact e)
theorem rd_lock {H : Hp} {d e : Addr} {u v : HO} {od : Obj} (h : H d = some u) (he : H e = some v) : Rd (upd H e (.frz od v)) d u := by
  by_cases hb : d = e
  · subst hb
    rw [h] at he
    have e2 : u = v := Option.some.inj he
    exact .inr ⟨od, by rw [upd_same, e2]⟩
  · exact .inl (by rw [upd_ne hb]; exact h)
theorem _root_.L2.Same.rd {H H' : Hp} {d : Addr} {u : HO} (s : Same H H') (h : Rd H d u) : Rd H' d u := h.elim (fun h => .inl (s _ _ h)) fun ⟨o, h⟩ => .inr ⟨o, s _ _ h⟩
theorem _root_.L2.Same.tu {K : Fg} {H H' : Hp} {a : Addr} {xs : List V} (e : Same H H') (h : SqT K H a xs) : SqT K H' a xs := by
  rcases h with (h | ⟨o, h⟩) | h
  · exact .inl (.inl (e _ _ h))
  · exact .inl (.inr ⟨o, e _ _ h⟩)
  · exact .inr h
theorem dget {H : Hp} {d : Addr} {ss : Tb} {x : Str} (h : Rd H d (.dK (dk ss))) : DGet H d (.str x) ((lk ss x).map V.int) := .inl ⟨dk ss, Sum.inr x, h, rfl, (valV_dk ss x).symm⟩
theorem dgetS {H : Hp} {d : Addr} {ss : Tb} {x : Str} {n : Int} (h : Rd H d (.dK (dk ss))) (e : lk ss x = some n) : DGet H d (.str x) (some (.int n)) := by
  have q := dget (x := x) h
  rw [e] at q
  exact q
theorem dput {H : Hp} {d : Addr} {ss : Tb} {x : Str} {n : Int} (h : H d = some (.dK (dk ss))) (hl : ss.length < sizeLine) : DPut H d (.str x) (.int n) (upd H d (.dK (dk (pt ss x n)))) :=
  .inl ⟨dk ss, Sum.inr x, h, rfl, by rw [dk_len]; exact hl, by rw [putK_dk]⟩
theorem isd {H : Hp} {d : Addr} {ss : Tb} (h : Rd H d (.dK (dk ss))) : IsD H d := .inl ⟨_, h⟩
theorem dk_at {ss : Tb} {i : Nat} {k : Key} {v : V} (h : (dk ss)[i]? = some (k, v)) : ∃ p, ss[i]? = some p ∧ k = Sum.inr p.1 ∧ v = .int p.2 := by
  unfold dk at h
  rw [List.getElem?_map] at h
  cases e : ss[i]? with
  | none => rw [e] at h; cases h
  | some p =>
    rw [e] at h
    have h2 : ((Sum.inr p.1 : Key), V.int p.2) = (k, v) := Option.some.inj h
    injection h2 with a b
    exact ⟨p, rfl, a.symm, b.symm⟩
theorem dk_pair {ss : Tb} {i : Nat} {x y : V} (h1 : ((dk ss)[i]?.map fun kv => kV kv.1) = some x) (h2 : ((dk ss)[i]?.map Prod.snd) = some y) : ∃ p, ss[i]? = some p ∧ x = .str p.1 ∧ y = .int p.2 := by
  cases e : (dk ss)[i]? with
  | none => rw [e] at h1; cases h1
  | some q =>
    obtain ⟨k, v⟩ := q
    obtain ⟨p, hp, rfl, rfl⟩ := dk_at e
    rw [e] at h1 h2
    exact ⟨p, hp, (Option.some.inj h1).symm, (Option.some.inj h2).symm⟩
/-! ### a dict's comprehension over a walk -/
section
variable {J : It} {n : Nat} {G : Hp → Prop} {Y : Nat → Hp → V → Hp → Prop}
theorem dc_go (w : Walk J n G Y) {g : TG} {tt : TT} {tk tv : TE} {vs : List Nat} {σ : L2.St} {H1 : Hp} {D : Addr} {Qd : Hp → Prop} (Pv : Nat → Hp → Prop) (h0 : Pv 0 (upd H1 D (.dK [])))
    (hG : ∀ j U, j ≤ n → Pv j U → G U)
    (ht : ∀ j x U U', j < n → Pv j U → Y j U x U' → g x (wipe σ vs) U' fun ρ U2 => wipe ρ vs = wipe σ vs ∧ tt ρ U2 fun b U3 =>
      if b = true then tk ρ U3 fun y U4 => tv ρ U4 fun z U5 => ∃ kvs k, y = kV k ∧ U5 D = some (.dK kvs) ∧ kvs.length < sizeLine ∧ Pv (j + 1) (upd U5 D (.dK (putK kvs k z))) else Pv (j + 1) U3)
    (he : ∀ U, Pv n U → Qd U) :
    ∃ W : Nat → Nat → Hp → Prop, (∃ m, W 0 m (upd H1 D (.dK []))) ∧ ∀ i m H, W i m H →
      (J.stop i H ∧ Qd H) ∨ (J.go i H ∧ ∃ Nx : Hp → Prop, (∀ H', Nx H' → ∃ m', m' < m ∧ W (i + 1) m' H') ∧ ∀ x H', J.yld i H x H' → g x (wipe σ vs) H' fun σ2 H2 => wipe σ2 vs = wipe σ vs ∧ tt σ2 H2 fun b H3 =>
        if b = true then tk σ2 H3 fun y H4 => tv σ2 H4 fun z H5 => ∃ kvs k, y = kV k ∧ H5 D = some (.dK kvs) ∧ kvs.length < sizeLine ∧ Nx (upd H5 D (.dK (putK kvs k z))) else Nx H3) := by
  refine ⟨fun j m U => m + j = n ∧ Pv j U, ⟨n, rfl, h0⟩, fun j m U hW => ?_⟩
  obtain ⟨e, p⟩ := hW
  have q := hG j U (by omega) p
  rcases Nat.lt_or_ge j n with h | h
  · exact .inr ⟨w.goes j U h q, Pv (j + 1), fun U' p' => ⟨m - 1, by omega, by omega, p'⟩, fun x U' y => ht j x U U' h p (w.yields j U x U' h q y)⟩
  · have ej : j = n := by omega
    subst ej
    exact .inl ⟨w.stops U q, he U p⟩
end
/-! ### sorted keys -/
def rSortD : List V → Hp → VK → Prop := fun xs H Q => ∃ (a : Addr) (kvs : List (Key × V)) (ks : List Str), xs = [.ref a] ∧ Rd H a (.dK kvs) ∧ kvs.map (·.1) = ks.map Sum.inr ∧ ks.length < 64 ∧
  ∀ ys p, ys.Perm ks → sortedS ys = true → H p = none → Q (.ref p) (upd H p (.lst (ys.map V.str)))
theorem cr_sortD {X : Cx} (hc : X.calm = true) : CallR X (.builtin "sorted") rSortD := call_sortedD hc
/-- a table read along some keys -/
def rg (ss : Tb) (ys : List Str) : Tb := ys.map fun y => (y, (lk ss y).getD 0)
theorem ks_rg (ss : Tb) (ys : List Str) : ks (rg ss ys) = ys := by
  unfold ks rg
  rw [List.map_map]
  exact List.map_id' ys
theorem rg_len (ss : Tb) (ys : List Str) : (rg ss ys).length = ys.length := List.length_map _
theorem rg_self : ∀ {ss : Tb}, (ks ss).Nodup → rg ss (ks ss) = ss := by
  intro ss hn
  unfold rg ks
  rw [List.map_map]
  have e : ss.map ((fun y => (y, (lk ss y).getD 0)) ∘ fun x => x.1) = ss.map id := List.map_congr_left fun p hp => by
    show (p.1, (lk ss p.1).getD 0) = p
    rw [mem_lk hn (show (p.1, p.2) ∈ ss from hp)]
    rfl
  rw [e, List.map_id]
theorem rg_perm {ss : Tb} {ys : List Str} (hn : (ks ss).Nodup) (h : ys.Perm (ks ss)) : (rg ss ys).Perm ss := by
  have e : (rg ss ys).Perm (rg ss (ks ss)) := h.map _
  rw [rg_self hn] at e
  exact e
/-- {x: d[x] for x in sorted(d)} -/
theorem rd_sorted {K : Fg} {σ : L2.St} {H : Hp} {Q : VK} {i j : Nat} {vs : List Nat} {d : Addr} {ss : Tb} (hi : σ[i]? = some (some (.ref d))) (hd : Rd H d (.dK (dk ss))) (hl : ss.length < 64) (hn : (ks ss).Nodup)
    (h1 : ∀ x : V, ((wipe σ vs).set j (some x))[i]? = some (some (.ref d))) (h2 : ∀ x : V, ((wipe σ vs).set j (some x))[j]? = some (some x)) (h3 : ∀ x : V, wipe ((wipe σ vs).set j (some x)) vs = wipe σ vs)
    (k : ∀ ys p H', ys.Perm (ks ss) → sortedS ys = true → Same H H' → H p = none → H' p = some (.dK (dk (rg ss ys))) → Q (.ref p) H') :
    tDc (iList K (tCB rSortD (tCons (tVar i) tNil))) (gName j) tYes (tVar j) (tDGet (tVar i) (tVar j)) vs σ H Q := by
  refine ⟨_, hi, d, dk ss, ks ss, rfl, hd, dk_keys ss, by rw [ks_len]; exact hl, fun ys p hp hs np => ?_⟩
  refine ⟨p, rfl, ⟨_, .of upd_same⟩, fun D nD => ?_⟩
  have yl : ys.length < 64 := by rw [hp.length_eq, ks_len]; exact hl
  have nDp : D ≠ p := fun e => by rw [e, upd_same] at nD; cases nD
  have nDH : H D = none := by rw [upd_ne nDp] at nD; exact nD
  refine dc_go (walk_list (K := K) (a := p) (xs := ys.map V.str)) (fun i H' => Same H H' ∧ H' p = some (.lst (ys.map V.str)) ∧ H' D = some (.dK (dk (rg ss (ys.take i))))) ⟨(new_same np).wr nDH, by rw [upd_ne nDp.symm, upd_same], upd_same⟩ (fun i U _ q => .of q.2.1) (fun m x U U' hm q y => ?_) (fun U q => ?_)
  · obtain ⟨rfl, hx⟩ := y
    rw [List.getElem?_map] at hx
    rw [List.length_map] at hm
    cases e : ys[m]? with
    | none => rw [e] at hx; cases hx
    | some z =>
      rw [e] at hx
      have ex : V.str z = x := Option.some.inj hx
      subst ex
      have zin : z ∈ ks ss := hp.mem_iff.mp (List.mem_of_getElem? e)
      obtain ⟨v, hv⟩ := lk_some zin
      refine ⟨h3 _, _, h2 _, _, h1 _, _, h2 _, d, .int v, rfl, dgetS (q.1.rd hd) hv, dk (rg ss (ys.take m)), Sum.inr z, rfl, q.2.2, ?_, q.1.wr nDH, by rw [upd_ne nDp.symm]; exact q.2.1, ?_⟩
      · rw [dk_len, rg_len, List.length_take]
        exact small_lt (by omega)
      · rw [upd_same, putK_dk]
        have en : z ∉ ks (rg ss (ys.take m)) := by
          rw [ks_rg]
          intro hz
          obtain ⟨i, hi2⟩ := List.mem_iff_getElem?.mp hz
          rw [List.getElem?_take] at hi2
          by_cases him : i < m
          · rw [if_pos him] at hi2
            exact absurd (nd_ix ((hp.nodup_iff).mpr hn) hi2 e) (by omega)
          · rw [if_neg him] at hi2
            cases hi2
        rw [pt_new en, List.take_add_one, e]
        unfold rg
        rw [List.map_append]
        show some (HO.dK (dk _)) = some (HO.dK (dk (_ ++ [(z, (lk ss z).getD 0)])))
        rw [hv]
        rfl
  · rw [List.length_map, List.take_length] at q
    exact k ys D U hp hs q.1 nDH q.2.2
end K21
set_option maxHeartbeats 4000000
/-! are_times, want_times, want_shift, least_of, want_shifts -/
namespace K21
open PySem PySem.Spec PyProof.Rows L2 He
def AllV (ss : Tb) : Prop := ∀ p ∈ ss, VN p.1
theorem len0 {ss : Tb} (h : ss ≠ []) : ¬ (V.int ((dk ss).length : Nat) = V.int 0) := fun e => by
  have e2 : ((dk ss).length : Int) = 0 := V.int.inj e
  rw [dk_len] at e2
  cases ss with
  | nil => exact h rfl
  | cons p r => rw [List.length_cons] at e2; omega
section
variable {P : Program} {w : World} {K : Fg} {mg : Str → Option Value} {base : Heap}
/-! ### are_times -/
def spTimes : Sp := fun vs H Q _ => ∃ d ss, vs = [.ref d] ∧ H d = some (.dK (dk ss)) ∧ ss ≠ [] ∧ AllV ss ∧ ss.length ≤ 1000 ∧ ∀ H', Same H H' → Q (.bl true) H'
theorem sc_are_times : FnScope ["value", "name", "time"] ["value"] (defScope dAreTimes.st) := ⟨rfl, rfl, rfl, by decide +kernel, rfl, by decide +kernel, by decide +kernel⟩
theorem ok_are_times (T : Tx K mg) : Cd P w K mg base 2 dAreTimes ["value"] spTimes := by
  obtain ⟨fd, F⟩ := T.dAreTimes
  have cN : Cd P w K mg base 1 dIsName ["value"] spName := ok_is_name T
  have cI : Cd P w K mg base 1 dIsInteger ["value"] spInteger := ok_is_integer T
  refine .mk1 F (F.ok sc_are_times (fun vs H Q E h => ?_) (fun cdv A outer s H vs Q E hr h => ?_)) (F.bindsN fun _ _ _ _ _ _ us hl => match us, hl with | [_], _ => rfl)
  · obtain ⟨_, _, rfl, _⟩ := h
    rfl
  · obtain ⟨d, ss, rfl, hd, h0, hv, hl, q⟩ := h
    refine ⟨_, pss_cons (ps_if (PW.pt (pw_or (pt_not (pt_val (pe_callB call_isi (by rfl) T.n_isinstance bt_isinstance (pa_cons (pv 0) (pa_cons (pe_bltn (v := .ty "dict") (by rfl) T.n_dict bt_dict rfl) pa_nil)))))
        (pw_or1 (pt_cmpR op_eq (pe_callB call_lenD (by rfl) T.n_len bt_len (pa_cons (pv 0) pa_nil)) pe_int (nomark _))))) (pss_one (ps_ret pe_bl)) pss_nil)
      (pss_one (ps_ret (pe_callB (cr_all rfl) (by rfl) T.n_all bt_all (pa_cons (pe_lock (pe_lc (own := [("name", 1), ("time", 2)]) (g := gTup K 2 (gCons (gName 1) (gCons (gName 2) gNil))) (tt := tYes) rfl sc_are_times.nd (pi_items (pv 0)) (blkOk_by (N := ["value", "name", "time"]) (sc := defScope dAreTimes.st) (by decide +kernel))
        (fun _ _ _ _ _ => pg_tup rfl (pgs_cons (pg_name (i := 1) sc_are_times.nd rfl (Or.inl rfl)) (pgs_cons (pg_name (i := 2) sc_are_times.nd rfl (Or.inl rfl)) pgs_nil))) (fun _ _ _ _ _ => pts_nil)
        (fun _ _ _ _ _ => pe_and (pe_cd cN hr T.g_is_name (pa_cons (pv 1) pa_nil)) (pe_one (pe_cd cI hr T.g_is_integer (pa_cons (pv 2) pa_nil)))))) pa_nil)))), ?_⟩
    refine ⟨_, rfl, _, _, _, _, _, rfl, .ty _, .base (.dK hd), ki_dd, true, rfl, iteF ?_⟩
    refine ⟨_, rfl, d, _, rfl, hd, rfl, false, congrArg V.bl (decide_eq_false (len0 h0)), iteF ?_⟩
    refine ⟨d, _, hd, trivial, fun od => ?_⟩
    refine ⟨_, rfl, d, od, _, rfl, upd_same, fun D nD => ?_⟩
    refine lc_it (walk_items (d := d) (o := od) (kvs := dk ss)) (fun i H' => Same (upd H d (.frz od (.dK (dk ss)))) H' ∧ H' D = some (.lst ((List.replicate i true).map V.bl))) ⟨new_same nD, upd_same⟩ (fun _ _ _ q => q.1 _ _ upd_same) (fun i v H1 H2 hi p y => ?_) (fun H1 p => ?_)
    · obtain ⟨t, x, y, rfl, nt, rfl, e1, e2⟩ := y
      obtain ⟨r, hr2, rfl, rfl⟩ := dk_pair e1 e2
      have rin : r ∈ ss := List.mem_of_getElem? hr2
      refine ⟨t, _, rfl, .of upd_same, rfl, _, _, rfl, _, _, rfl, rfl, rfl, ?_⟩
      refine ⟨_, rfl, r.1, rfl, hv r rin, fun H3 s3 => ⟨true, rfl, iteT ?_⟩⟩
      have ntD : D ≠ t := fun e => by rw [e] at p; rw [p.2] at nt; cases nt
      refine ⟨_, rfl, r.2, rfl, (List.replicate i true).map V.bl, s3 _ _ (by rw [upd_ne ntD]; exact p.2), ?_, ((p.1.trans (new_same nt)).trans s3).wr nD, ?_⟩
      · rw [List.length_map, List.length_replicate]
        rw [dk_len] at hi
        exact small_lt (by omega)
      · rw [upd_same, ← rep_snoc, List.map_append]
        rfl
    · refine ⟨p.1 _ _ upd_same, D, List.replicate (dk ss).length true, rfl, .of ?_, ?_⟩
      · rw [upd_ne (fun e => by rw [e, upd_same] at nD; cases nD)]
        exact p.2
      · rw [rep_all]
        exact q _ (unlock_same hd p.1)
/-! ### want_times -/
/-- moments: a dict, or a tuple -/
def Mts (K : Fg) (H : Hp) (m : V) (xs : List Str) : Prop := (∃ e ms, m = .ref e ∧ H e = some (.dK (dk ms)) ∧ xs = ks ms) ∨ ∃ e, m = .ref e ∧ SqT K H e (xs.map V.str)
def spWantTimes (K : Fg) : Sp := fun vs H Q _ => ∃ d ss m xs, vs = [.ref d, m] ∧ H d = some (.dK (dk ss)) ∧ ss ≠ [] ∧ AllV ss ∧ ss.length ≤ 1000 ∧ Mts K H m xs ∧ xs.length ≤ 1000 ∧ (∀ x ∈ xs, x ∈ ks ss) ∧ ∀ H', Same H H' → Q .non H'
theorem sc_want_times : FnScope ["value", "moments", "moment"] ["value", "moments"] (defScope dWantTimes.st) := ⟨rfl, rfl, rfl, by decide +kernel, rfl, by decide +kernel, by decide +kernel⟩
theorem ok_want_times (T : Tx K mg) : Cd P w K mg base 3 dWantTimes ["value", "moments"] (spWantTimes K) := by
  obtain ⟨fd, F⟩ := T.dWantTimes
  have cA : Cd P w K mg base 2 dAreTimes ["value"] spTimes := ok_are_times T
  refine .mk1 F (F.ok sc_want_times (fun vs H Q E h => ?_) (fun cdv A outer s H vs Q E hr h => ?_)) (F.bindsN fun _ _ _ _ _ _ us hl => match us, hl with | [_, _], _ => rfl)
  · obtain ⟨_, _, _, _, rfl, _⟩ := h
    rfl
  · obtain ⟨d, ss, m, xs, rfl, hd, h0, hv, hl, hm, hxl, hx, q⟩ := h
    have hu := hu_of hr
    have turn : ∀ {H1 H2 : Hp} {i : Nat} {z : Str} {D : Addr}, Same H1 H2 → H1 D = none → Rd H2 d (.dK (dk ss)) → H2 D = some (.lst ((List.replicate i true).map V.bl)) → i < 1000 → z ∈ xs →
        ∃ a o, V.ref d = V.ref a ∧ DGet H2 a (.str z) o ∧ ∃ acc, H2 D = some (.lst acc) ∧ acc.length < sizeLine ∧ (Same H1 (upd H2 D (.lst (acc ++ [V.bl o.isSome]))) ∧ (upd H2 D (.lst (acc ++ [V.bl o.isSome]))) D = some (.lst ((List.replicate (i + 1) true).map V.bl))) := fun {H1 H2 i z D} s1 nD rd eD hi hz => by
      obtain ⟨n, e⟩ := lk_some (hx z hz)
      refine ⟨d, _, rfl, dgetS rd e, _, eD, ?_, s1.wr nD, ?_⟩
      · rw [List.length_map, List.length_replicate]
        exact small_lt (by omega)
      · rw [upd_same, ← rep_snoc, List.map_append]
        rfl
    rcases hm with ⟨e, ms, rfl, he, rfl⟩ | ⟨e, rfl, he⟩
    · refine ⟨_, pss_one (ps_if (PW.pt (pw_or (pt_not (pt_val (pe_cd cA hr T.g_are_times (pa_cons (pv 0) pa_nil))))
        (pw_or1 (pt_not (pt_val (pe_callB (cr_all rfl) (by rfl) T.n_all bt_all (pa_cons (pe_lock (pe_lc (own := [("moment", 2)]) (g := gName 2) (tt := tYes) rfl sc_want_times.nd (pi_keys (pv 1)) (blkOk_by (N := ["value", "moments", "moment"]) (sc := defScope dWantTimes.st) (by decide +kernel))
        (fun _ _ _ _ _ => pg_name (i := 2) sc_want_times.nd rfl (Or.inl rfl)) (fun _ _ _ _ _ => pts_nil) (fun _ _ _ _ _ => pe_cmp (pc_din hu (pv 2) (pv 0)) (by rfl)))) pa_nil))))))) pss_never pss_nil), ?_⟩
      refine ⟨_, rfl, d, ss, rfl, hd, h0, hv, hl, fun H1 s1 => ⟨true, rfl, iteF ?_⟩⟩
      refine ⟨e, _, s1 _ _ he, trivial, fun od => ?_⟩
      refine ⟨_, rfl, e, od, rfl, .inl ⟨_, upd_same, fun D nD => ?_⟩⟩
      refine lc_it (walk_keys (d := e) (o := od) (kvs := dk ms)) (fun i H' => Same (upd H1 e (.frz od (.dK (dk ms)))) H' ∧ H' D = some (.lst ((List.replicate i true).map V.bl))) ⟨new_same nD, upd_same⟩ (fun _ _ _ q => q.1 _ _ upd_same) (fun i v H2 H3 hi p y => ?_) (fun H2 p => ?_)
      · obtain ⟨rfl, k, v2, hk, rfl⟩ := y
        obtain ⟨r, hr2, rfl, rfl⟩ := dk_at hk
        refine ⟨rfl, _, rfl, _, rfl, turn p.1 nD (p.1.rd (rd_lock (s1 _ _ hd) (s1 _ _ he))) p.2 ?_ (List.mem_map.mpr ⟨r, List.mem_of_getElem? hr2, rfl⟩)⟩
        rw [dk_len] at hi
        rw [ks_len] at hxl
        omega
      · refine ⟨p.1 _ _ upd_same, D, List.replicate (dk ms).length true, rfl, .of ?_, ?_⟩
        · rw [upd_ne (fun z => by rw [z, upd_same] at nD; cases nD)]
          exact p.2
        · rw [rep_all]
          refine ⟨true, rfl, iteF ?_⟩
          exact q _ (s1.trans (unlock_same (s1 _ _ he) p.1))
    · refine ⟨_, pss_one (ps_if (PW.pt (pw_or (pt_not (pt_val (pe_cd cA hr T.g_are_times (pa_cons (pv 0) pa_nil))))
        (pw_or1 (pt_not (pt_val (pe_callB (cr_all rfl) (by rfl) T.n_all bt_all (pa_cons (pe_lc (own := [("moment", 2)]) (g := gName 2) (tt := tYes) rfl sc_want_times.nd (pi_tup (pv 1)) (blkOk_by (N := ["value", "moments", "moment"]) (sc := defScope dWantTimes.st) (by decide +kernel))
        (fun _ _ _ _ _ => pg_name (i := 2) sc_want_times.nd rfl (Or.inl rfl)) (fun _ _ _ _ _ => pts_nil) (fun _ _ _ _ _ => pe_cmp (pc_din hu (pv 2) (pv 0)) (by rfl))) pa_nil))))))) pss_never pss_nil), ?_⟩
      refine ⟨_, rfl, d, ss, rfl, hd, h0, hv, hl, fun H1 s1 => ⟨true, rfl, iteF ?_⟩⟩
      refine ⟨_, rfl, e, rfl, ⟨_, s1.tu he⟩, fun D nD => ?_⟩
      refine lc_it (walk_tup (K := K) (a := e) (xs := xs.map V.str)) (fun i H' => Same H1 H' ∧ H' D = some (.lst ((List.replicate i true).map V.bl))) ⟨new_same nD, upd_same⟩ (fun _ _ _ q => (s1.trans q.1).tu he) (fun i v H2 H3 hi p y => ?_) (fun H2 p => ?_)
      · obtain ⟨rfl, hz⟩ := y
        rw [List.getElem?_map] at hz
        cases ez : xs[i]? with
        | none => rw [ez] at hz; cases hz
        | some z =>
          rw [ez] at hz
          have e2 : V.str z = v := Option.some.inj hz
          subst e2
          refine ⟨rfl, _, rfl, _, rfl, turn p.1 nD (.inl (p.1 _ _ (s1 _ _ hd))) p.2 ?_ (List.mem_of_getElem? ez)⟩
          rw [List.length_map] at hi
          omega
      · refine ⟨D, List.replicate (xs.map V.str).length true, rfl, .of p.2, ?_⟩
        rw [rep_all]
        refine ⟨true, rfl, iteF ?_⟩
        exact q _ (s1.trans p.1)
/-! ### want_shift -/
def spWantShift : Sp := fun vs H Q _ => ∃ n : Int, vs = [.int n] ∧ Q .non H
theorem sc_want_shift : FnScope ["value"] ["value"] (defScope dWantShift.st) := ⟨rfl, rfl, rfl, by decide +kernel, rfl, by decide +kernel, by decide +kernel⟩
theorem ok_want_shift (T : Tx K mg) : Cd P w K mg base 2 dWantShift ["value"] spWantShift := by
  obtain ⟨fd, F⟩ := T.dWantShift
  have cI : Cd P w K mg base 1 dIsInteger ["value"] spInteger := ok_is_integer T
  refine .mk1 F (F.ok sc_want_shift (fun vs H Q E h => ?_) (fun cdv A outer s H vs Q E hr h => ?_)) (F.bindsN fun _ _ _ _ _ _ us hl => match us, hl with | [_], _ => rfl)
  · obtain ⟨n, rfl, _⟩ := h
    rfl
  · obtain ⟨n, rfl, q⟩ := h
    exact ⟨_, pss_one (ps_if (pt_not (pt_val (pe_cd cI hr T.g_is_integer (pa_cons (pv 0) pa_nil)))) pss_never pss_nil), _, rfl, n, rfl, true, rfl, iteF q⟩
end
end K21
set_option maxHeartbeats 4000000
/-! least_of, want_shifts, Earliest made -/
namespace K21
open PySem PySem.Spec PyProof.Rows L2 He
/-- the same table, its names sorted -/
def Srt (ss tt : Tb) : Prop := tt.Perm ss ∧ sortedS (ks tt) = true
theorem srt_rg {ss : Tb} {ys : List Str} (hn : (ks ss).Nodup) (h : ys.Perm (ks ss)) (hs : sortedS ys = true) : Srt ss (rg ss ys) := ⟨rg_perm hn h, by rw [ks_rg]; exact hs⟩
theorem Srt.keys {ss tt : Tb} (h : Srt ss tt) : (ks tt).Perm (ks ss) := h.1.map _
theorem Srt.nodup {ss tt : Tb} (h : Srt ss tt) (hn : (ks ss).Nodup) : (ks tt).Nodup := h.keys.nodup_iff.mpr hn
theorem Srt.len {ss tt : Tb} (h : Srt ss tt) : tt.length = ss.length := h.1.length_eq
theorem Srt.mem {ss tt : Tb} (h : Srt ss tt) {p : Str × Int} : p ∈ tt ↔ p ∈ ss := h.1.mem_iff
theorem Srt.allV {ss tt : Tb} (h : Srt ss tt) (v : AllV ss) : AllV tt := fun p hp => v p (h.mem.mp hp)
theorem Srt.ne {ss tt : Tb} (h : Srt ss tt) (v : ss ≠ []) : tt ≠ [] := fun e => v (List.eq_nil_of_length_eq_zero (by rw [← h.len, e]; rfl))
theorem Srt.lk {ss tt : Tb} (h : Srt ss tt) (hn : (ks ss).Nodup) (x : Str) : lk tt x = lk ss x := by
  cases e : K21.lk ss x with
  | none => exact lk_none_iff.mpr fun q => lk_none_iff.mp e (h.keys.mem_iff.mp q)
  | some n => exact mem_lk (h.nodup hn) (h.mem.mpr (lk_mem e))
theorem paired_at {α β : Type} {G : α → β → Prop} : ∀ {l : List α} {m : List β}, Paired G l m → ∀ {i : Nat} {a : α}, l[i]? = some a → ∃ b, m[i]? = some b ∧ G a b
  | _, _, .nil, i, a, h => by simp at h
  | _, _, .cons r t, 0, a, h => by
    have e := Option.some.inj h
    subst e
    exact ⟨_, rfl, r⟩
  | _, _, .cons r t, i + 1, a, h => paired_at t (i := i) h
theorem paired_len {α β : Type} {G : α → β → Prop} : ∀ {l : List α} {m : List β}, Paired G l m → l.length = m.length
  | _, _, .nil => rfl
  | _, _, .cons _ t => congrArg Nat.succ (paired_len t)
theorem paired_imp {α β : Type} {F G : α → β → Prop} (h : ∀ a b, F a b → G a b) : ∀ {l : List α} {m : List β}, Paired F l m → Paired G l m
  | _, _, .nil => .nil
  | _, _, .cons r t => .cons (h _ _ r) (paired_imp h t)
theorem take_keys {ss : Tb} {m : Nat} {q : Str × Int} (hn : (ks ss).Nodup) (e : ss[m]? = some q) : q.1 ∉ ks (ss.take m) := by
  intro hz
  have e1 : (ks ss)[m]? = some q.1 := by
    unfold ks
    rw [List.getElem?_map, e]
    rfl
  obtain ⟨i, hi2⟩ := List.mem_iff_getElem?.mp hz
  unfold ks at hi2
  rw [List.map_take, List.getElem?_take] at hi2
  by_cases him : i < m
  · rw [if_pos him] at hi2
    exact absurd (nd_ix hn hi2 e1) (by omega)
  · rw [if_neg him] at hi2
    cases hi2
theorem pt_take {ss : Tb} {m : Nat} {q : Str × Int} (hn : (ks ss).Nodup) (e : ss[m]? = some q) : pt (ss.take m) q.1 q.2 = ss.take (m + 1) := by
  rw [pt_new (take_keys hn e), List.take_add_one, e]
  rfl
/-- the pairs, each a tuple -/
def Prs2 (H : Hp) (ts : List Addr) (ss : Tb) : Prop := Paired (fun t (q : Str × Int) => H t = some (.tup [.str q.1, .int q.2])) ts ss
section
variable {P : Program} {w : World} {K : Fg} {mg : Str → Option Value} {base : Heap}
/-! ### least_of -/
def spLeast : Sp := fun vs H Q _ => ∃ l ts ss, vs = [.ref l] ∧ H l = some (.lst (ts.map V.ref)) ∧ Prs2 H ts ss ∧ (ks ss).Nodup ∧ ss.length < 64 ∧
  ∀ H' p tt, Same H H' → H p = none → H' p = some (.dK (dk tt)) → Srt ss tt → Q (.ref p) H'
theorem sc_least_of : FnScope ["pairs", "found", "moment", "shift"] ["pairs"] (defScope dLeastOf.st) := ⟨rfl, rfl, rfl, by decide +kernel, rfl, by decide +kernel, by decide +kernel⟩
theorem ok_least_of (T : Tx K mg) : Cd P w K mg base 1 dLeastOf ["pairs"] spLeast := by
  obtain ⟨fd, F⟩ := T.dLeastOf
  refine .of F sc_least_of (F.bindsN fun _ _ _ _ _ _ us hl => match us, hl with | [_], _ => rfl) (fun vs H Q E h => ?_) (fun cdv A outer s H vs Q E hr h => ?_)
  · obtain ⟨_, _, _, rfl, _⟩ := h
    rfl
  · obtain ⟨l, ts, ss, rfl, hl, hp, hn, h64, q⟩ := h
    have hu := hu_of hr
    refine ⟨_, pss_cons (ps_set (i := 1) sc_least_of.nd rfl (Or.inr rfl) pe_dnewK)
      (pss_cons (ps_for PassesOwn.never rfl (pi_list (pv 0)) (pg_tup rfl (pgs_cons (pg_name (i := 2) sc_least_of.nd rfl (Or.inl rfl)) (pgs_cons (pg_name (i := 3) sc_least_of.nd rfl (Or.inl rfl)) pgs_nil)))
        (pss_one (ps_dput hu (pv 1) (pv 2) (pe_callB (call_min2 rfl) (by rfl) T.n_min bt_min (pa_cons (pv 3) (pa_cons (pe_dget2 hu (pv 1) (pv 2) (pv 3) ⟨rfl, rfl, rfl, rfl⟩) pa_nil))) rfl)))
      (pss_one (ps_ret (pe_dc (own := [("moment", 2)]) (g := gName 2) (tt := tYes) rfl sc_least_of.nd (pi_list (pe_callB (cr_sortD rfl) (by rfl) T.n_sorted bt_sorted (pa_cons (pv 1) pa_nil)))
        (blkOk_by (N := ["pairs", "found", "moment", "shift"]) (sc := defScope dLeastOf.st) (by decide +kernel)) (fun _ _ _ _ _ => pg_name (i := 2) sc_least_of.nd rfl (Or.inl rfl)) (fun _ _ _ _ _ => pts_nil)
        (fun _ _ _ _ _ => pv 2) (fun _ _ _ _ _ => pe_dget hu (pv 1) (pv 2) (fun _ _ => rfl)))))), ?_⟩
    intro D nD
    have s1 : Same H (upd H D (.dK [])) := new_same nD
    refine ⟨_, rfl, l, rfl, ⟨_, .of (s1 _ _ hl)⟩, for_list (K := K) (a := l) (xs := ts.map V.ref) (fun i σ H' => ∃ v2 v3, σ = [some (.ref l), some (.ref D), v2, v3] ∧ Same H H' ∧ H' D = some (.dK (dk (ss.take i))))
      ⟨none, none, rfl, s1, upd_same⟩ (fun i σ H' _ ⟨_, _, _, s2, _⟩ => .of (s2 _ _ hl)) (fun i x σ H1 hx hP => ?_) (fun σ H1 hP => ?_)⟩
    · obtain ⟨v2, v3, rfl, s2, e2⟩ := hP
      rw [List.getElem?_map] at hx
      cases et : ts[i]? with
      | none => rw [et] at hx; cases hx
      | some t =>
        rw [et] at hx
        have ex : V.ref t = x := Option.some.inj hx
        subst ex
        obtain ⟨r, hr2, ht⟩ := paired_at hp et
        refine ⟨t, _, rfl, .of (s2 _ _ ht), rfl, _, _, rfl, _, _, rfl, rfl, ?_⟩
        have hno : lk (ss.take i) r.1 = none := lk_none_iff.mpr (take_keys hn hr2)
        refine ⟨_, rfl, _, rfl, D, rfl, isd (.inl e2), _, rfl, _, rfl, _, dget (x := r.1) (.inl e2), r.2, r.2, ?_, ?_⟩
        · rw [hno]
          rfl
        · refine ⟨_, rfl, _, rfl, D, _, rfl, dput (x := r.1) e2 ?_, _, _, rfl, s2.wr nD, ?_⟩
          · rw [List.length_take]
            exact small_lt (by omega)
          · rw [upd_same, show (if r.2 < r.2 then r.2 else r.2) = r.2 from if_neg (Int.lt_irrefl _), pt_take hn hr2]
    · obtain ⟨v2, v3, rfl, s2, e2⟩ := hP
      rw [List.length_map, paired_len hp, List.take_length] at e2
      refine rd_sorted (K := K) (i := 1) (j := 2) (d := D) (ss := ss) rfl (.inl e2) h64 hn (fun x => rfl) (fun x => rfl) (fun x => rfl) (fun ys p H' h1 h2 h3 h4 h5 => ?_)
      exact q H' p _ (s2.trans h3) (s2.free h4) h5 (srt_rg hn h1 h2)
end
end K21
set_option maxHeartbeats 4000000
/-! want_shifts, Earliest made, Term made -/
namespace K21
open PySem PySem.Spec PyProof.Rows L2 He
/-- the wanted shifts -/
structure Sh (ss : Tb) : Prop where
  ne : ss ≠ []
  v : AllV ss
  len : ss.length ≤ 8
  nd : (ks ss).Nodup
def EarAt (K : Fg) (H : Hp) (e : Addr) (tt : Tb) : Prop := ∃ d dx, H e = some (.ins (cE K) dx [("own_shifts", .ref d)]) ∧ H d = some (.dK (dk tt))
def TermAt (K : Fg) (H : Hp) (t : Addr) (m : Str) (n : Int) : Prop := ∃ dx, H t = some (.ins (cT K) dx [("own_moment", .str m), ("own_shift", .int n)])
theorem EarAt.mono {K : Fg} {H H' : Hp} {e : Addr} {tt : Tb} (s : Same H H') (h : EarAt K H e tt) : EarAt K H' e tt := let ⟨d, dx, a, b⟩ := h; ⟨d, dx, s _ _ a, s _ _ b⟩
theorem TermAt.mono {K : Fg} {H H' : Hp} {e : Addr} {m : Str} {n : Int} (s : Same H H') (h : TermAt K H e m n) : TermAt K H' e m n := let ⟨dx, a⟩ := h; ⟨dx, s _ _ a⟩
section
variable {X : Cx} {k j : Nat} {d : Df} {ps : List Str} {sp : Sp} {x m f : Str} {p pos apos : Pos} {e o : Expr} {es : List Expr} {t : TA} {ta : TE} {C pr : Addr}
/-- C(e, ..) -/
theorem pe_mkc (c : Cd X.prog X.w X.K X.mg X.base k d ps sp) (M : Mk X.K C (d.pl X.K)) (hr : Room j X.A) (hm : X.mg x = some (.ref C)) (ha : PA X (e :: es) t) (hk : k + 1 ≤ j := by decide) (hg : Gl X x := by rfl) (hdb : (x == ("__debug__" : Str)) = false := by decide)
    (he : starEach (e :: es) X.env = (false, eval e X.env) :: starEach es X.env := by rfl) (hpl : (backTo pos (starEach es X.env)).any (·.1) = false := by rfl) : PE X (.Call (.Name x p) (e :: es) [] pos) (tMake C sp [] E0 t) := by
  obtain ⟨fd, F, b⟩ := c.ex
  exact pe_make M F (hr.mono hk) hg hm b .nil pass0 ha hdb he hpl
/-- o.f, a property -/
theorem pe_prc (c : Cd X.prog X.w X.K X.mg X.base k d ps sp) (cl : Cls X.K C) (hp : PropOf X.K C f pr (d.pl X.K)) (hr : Room j X.A) (ho : PE X o ta) (hk : k + 1 ≤ j := by decide) (hab : attributeBase o f X.env (eval o X.env) = eval o X.env := by rfl) : PE X (.Attribute o f pos) (tProp C sp [] E0 ta) := by
  obtain ⟨fd, F, b⟩ := c.ex
  exact pe_prop ho cl hp F (hr.mono hk) b .nil pass0 hab
end
/-- a new instance, its __init__ over -/
theorem made_same {H H2 : Hp} {x dx C : Addr} (hx : H x = none) (hd : H dx = none) (k : ∀ b o, b ≠ x → (upd (upd H dx (.own x)) x (.ins C dx [])) b = some o → H2 b = some o) : Same H H2 := fun b o e => by
  have nx : b ≠ x := ne_of_none e hx
  refine k b o nx ?_
  rw [upd_ne nx, upd_ne (ne_of_none e hd)]
  exact e
section
variable {P : Program} {w : World} {K : Fg} {mg : Str → Option Value} {base : Heap}
/-- len(d), d locked or not -/
theorem cr_lenR {X : Cx} : CallR X (.builtin "len") (fun xs H Q => ∃ a kvs, xs = [V.ref a] ∧ Rd H a (.dK kvs) ∧ Q (.int kvs.length) H) := by
  intro pins s σ H xs us Q I r h
  obtain ⟨a, kvs, rfl, ha, q⟩ := h
  obtain ⟨u, rfl, ru⟩ := vals1 r
  cases ru
  exact d_len I ha fun t s2 I2 => ⟨.int kvs.length, H, I2, ⟨t, rfl⟩, q⟩
/-! ### want_shifts -/
def spWantShifts : Sp := fun vs H Q _ => ∃ d ss, vs = [.ref d] ∧ Rd H d (.dK (dk ss)) ∧ Sh ss ∧ ∀ H', Same H H' → Q .non H'
theorem sc_want_shifts : FnScope ["shifts", "moment"] ["shifts"] (defScope dWantShifts.st) := ⟨rfl, rfl, rfl, by decide +kernel, rfl, by decide +kernel, by decide +kernel⟩
theorem ok_want_shifts (T : Tx K mg) : Cd P w K mg base 2 dWantShifts ["shifts"] spWantShifts := by
  obtain ⟨fd, F⟩ := T.dWantShifts
  have cN : Cd P w K mg base 1 dIsName ["value"] spName := ok_is_name T
  have cI : Cd P w K mg base 1 dIsInteger ["value"] spInteger := ok_is_integer T
  refine .of F sc_want_shifts (F.bindsN fun _ _ _ _ _ _ us hl => match us, hl with | [_], _ => rfl) (fun vs H Q E h => ?_) (fun cdv A outer s H vs Q E hr h => ?_)
  · obtain ⟨_, _, rfl, _⟩ := h
    rfl
  · obtain ⟨d, ss, rfl, hr0, S, q⟩ := h
    have hu := hu_of hr
    have S8 := S.len
    rcases hr0 with hd | ⟨od, hd⟩
    · have hr0 : Rd H d (.dK (dk ss)) := .inl hd
      refine ⟨_, pss_cons (ps_if (PW.pt (pw_or (pt_not (pt_val (pe_callB call_isi (by rfl) T.n_isinstance bt_isinstance (pa_cons (pv 0) (pa_cons (pe_bltn (v := .ty "dict") (by rfl) T.n_dict bt_dict rfl) pa_nil)))))
          (pw_or (pt_cmpR op_eq (pe_callB cr_lenR (by rfl) T.n_len bt_len (pa_cons (pv 0) pa_nil)) pe_int (nomark _))
          (pw_or1 (pt_not (pt_val (pe_callB (cr_all rfl) (by rfl) T.n_all bt_all (pa_cons (pe_lock (pe_lc (own := [("moment", 1)]) (g := gName 1) (tt := tYes) rfl sc_want_shifts.nd (pi_keys (pv 0)) (blkOk_by (N := ["shifts", "moment"]) (sc := defScope dWantShifts.st) (by decide +kernel))
          (fun _ _ _ _ _ => pg_name (i := 1) sc_want_shifts.nd rfl (Or.inl rfl)) (fun _ _ _ _ _ => pts_nil) (fun _ _ _ _ _ => pe_cd cN hr T.g_is_name (pa_cons (pv 1) pa_nil)))) pa_nil))))))))
          pss_never pss_nil)
        (pss_cons (ps_for PassesOwn.never rfl (pi_list (pe_callB (cr_sortD rfl) (by rfl) T.n_sorted bt_sorted (pa_cons (pv 0) pa_nil))) (pg_name (i := 1) sc_want_shifts.nd rfl (Or.inl rfl))
          (pss_one (ps_if (pt_not (pt_val (pe_cd cI hr T.g_is_integer (pa_cons (pe_dget hu (pv 0) (pv 1) (fun _ _ => rfl)) pa_nil)))) pss_never pss_nil)))
        (pss_one (ps_if (pt_cmpR op_gt (pe_callB cr_lenR (by rfl) T.n_len bt_len (pa_cons (pv 0) pa_nil)) (pe_gk T.i_MOST_TERMS) (nomark _)) pss_never pss_nil))), ?_⟩
      refine ⟨_, rfl, _, _, _, _, _, rfl, .ty _, .base (.dK hd), ki_dd, true, rfl, iteF ?_⟩
      refine ⟨_, rfl, d, _, rfl, .inl hd, rfl, false, congrArg V.bl (decide_eq_false (len0 S.ne)), iteF ?_⟩
      refine ⟨d, _, hd, trivial, fun od => ?_⟩
      refine ⟨_, rfl, d, od, rfl, .inl ⟨_, upd_same, fun D nD => ?_⟩⟩
      refine lc_it (walk_keys (d := d) (o := od) (kvs := dk ss)) (fun i H' => Same (upd H d (.frz od (.dK (dk ss)))) H' ∧ H' D = some (.lst ((List.replicate i true).map V.bl))) ⟨new_same nD, upd_same⟩ (fun _ _ _ q => q.1 _ _ upd_same) (fun i v H1 H2 hi p y => ?_) (fun H1 p => ?_)
      · obtain ⟨rfl, k, v2, hk, rfl⟩ := y
        obtain ⟨r, hr2, rfl, rfl⟩ := dk_at hk
        rw [dk_len] at hi
        refine ⟨rfl, _, rfl, r.1, rfl, S.v r (List.mem_of_getElem? hr2), fun H3 s3 => ⟨(List.replicate i true).map V.bl, s3 _ _ p.2, ?_, (p.1.trans s3).wr nD, ?_⟩⟩
        · rw [List.length_map, List.length_replicate]
          exact small_lt (by omega)
        · rw [upd_same, ← rep_snoc, List.map_append]
          rfl
      · have nDd : D ≠ d := fun z => by rw [z, upd_same] at nD; cases nD
        refine ⟨p.1 _ _ upd_same, D, List.replicate (dk ss).length true, rfl, .of (by rw [upd_ne nDd]; exact p.2), ?_⟩
        rw [rep_all]
        refine ⟨true, rfl, iteF ?_⟩
        have s2 : Same H (upd H1 d (.dK (dk ss))) := unlock_same hd p.1
        refine ⟨_, rfl, d, dk ss, ks ss, rfl, s2.rd hr0, dk_keys ss, by rw [ks_len]; omega, fun ys p1 hp hs np => ?_⟩
        refine ⟨p1, rfl, ⟨_, .of upd_same⟩, for_list (K := K) (a := p1) (xs := ys.map V.str) (fun i σ H' => ∃ v1, σ = [some (.ref d), v1] ∧ Same H H' ∧ H' p1 = some (.lst (ys.map V.str))) ⟨none, rfl, s2.trans (new_same np), upd_same⟩
          (fun i σ H' _ ⟨_, _, _, e⟩ => .of e) (fun i x σ H2 hx hP => ?_) (fun σ H2 hP => ?_)⟩
        · obtain ⟨v1, rfl, s3, e3⟩ := hP
          rw [List.getElem?_map] at hx
          cases ey : ys[i]? with
          | none => rw [ey] at hx; cases hx
          | some y =>
            rw [ey] at hx
            have ex : V.str y = x := Option.some.inj hx
            subst ex
            obtain ⟨n, hn⟩ := lk_some (hp.mem_iff.mp (List.mem_of_getElem? ey))
            exact ⟨_, rfl, _, rfl, d, _, rfl, dgetS (s3.rd hr0) hn, n, rfl, true, rfl, iteF ⟨_, rfl, s3, e3⟩⟩
        · obtain ⟨v1, rfl, s3, e3⟩ := hP
          refine ⟨_, rfl, d, _, rfl, s3.rd hr0, _, _, rfl, rfl, false, congrArg V.bl (decide_eq_false ?_), iteF ?_⟩
          · rw [dk_len]
            omega
          · exact q _ s3
    · have hr0 : Rd H d (.dK (dk ss)) := .inr ⟨od, hd⟩
      refine ⟨_, pss_cons (ps_if (PW.pt (pw_or (pt_not (pt_val (pe_callB call_isi (by rfl) T.n_isinstance bt_isinstance (pa_cons (pv 0) (pa_cons (pe_bltn (v := .ty "dict") (by rfl) T.n_dict bt_dict rfl) pa_nil)))))
          (pw_or (pt_cmpR op_eq (pe_callB cr_lenR (by rfl) T.n_len bt_len (pa_cons (pv 0) pa_nil)) pe_int (nomark _))
          (pw_or1 (pt_not (pt_val (pe_callB (cr_all rfl) (by rfl) T.n_all bt_all (pa_cons ((pe_lc (own := [("moment", 1)]) (g := gName 1) (tt := tYes) rfl sc_want_shifts.nd (pi_keys (pv 0)) (blkOk_by (N := ["shifts", "moment"]) (sc := defScope dWantShifts.st) (by decide +kernel))
          (fun _ _ _ _ _ => pg_name (i := 1) sc_want_shifts.nd rfl (Or.inl rfl)) (fun _ _ _ _ _ => pts_nil) (fun _ _ _ _ _ => pe_cd cN hr T.g_is_name (pa_cons (pv 1) pa_nil)))) pa_nil))))))))
          pss_never pss_nil)
        (pss_cons (ps_for PassesOwn.never rfl (pi_list (pe_callB (cr_sortD rfl) (by rfl) T.n_sorted bt_sorted (pa_cons (pv 0) pa_nil))) (pg_name (i := 1) sc_want_shifts.nd rfl (Or.inl rfl))
          (pss_one (ps_if (pt_not (pt_val (pe_cd cI hr T.g_is_integer (pa_cons (pe_dget hu (pv 0) (pv 1) (fun _ _ => rfl)) pa_nil)))) pss_never pss_nil)))
        (pss_one (ps_if (pt_cmpR op_gt (pe_callB cr_lenR (by rfl) T.n_len bt_len (pa_cons (pv 0) pa_nil)) (pe_gk T.i_MOST_TERMS) (nomark _)) pss_never pss_nil))), ?_⟩
      refine ⟨_, rfl, _, _, _, _, _, rfl, .ty _, .fDict hd, ki_dd, true, rfl, iteF ?_⟩
      refine ⟨_, rfl, d, _, rfl, hr0, rfl, false, congrArg V.bl (decide_eq_false (len0 S.ne)), iteF ?_⟩
      refine ⟨_, rfl, d, od, rfl, .inl ⟨_, hd, fun D nD => ?_⟩⟩
      refine lc_it (walk_keys (d := d) (o := od) (kvs := dk ss)) (fun i H' => Same H H' ∧ H' D = some (.lst ((List.replicate i true).map V.bl))) ⟨new_same nD, upd_same⟩ (fun _ _ _ q => q.1 _ _ hd) (fun i v H1 H2 hi p y => ?_) (fun H1 p => ?_)
      · obtain ⟨rfl, k, v2, hk, rfl⟩ := y
        obtain ⟨r, hr2, rfl, rfl⟩ := dk_at hk
        rw [dk_len] at hi
        refine ⟨rfl, _, rfl, r.1, rfl, S.v r (List.mem_of_getElem? hr2), fun H3 s3 => ⟨(List.replicate i true).map V.bl, s3 _ _ p.2, ?_, (p.1.trans s3).wr nD, ?_⟩⟩
        · rw [List.length_map, List.length_replicate]
          exact small_lt (by omega)
        · rw [upd_same, ← rep_snoc, List.map_append]
          rfl
      · refine ⟨D, List.replicate (dk ss).length true, rfl, .of p.2, ?_⟩
        rw [rep_all]
        refine ⟨true, rfl, iteF ?_⟩
        have s2 : Same H H1 := p.1
        refine ⟨_, rfl, d, dk ss, ks ss, rfl, s2.rd hr0, dk_keys ss, by rw [ks_len]; omega, fun ys p1 hp hs np => ?_⟩
        refine ⟨p1, rfl, ⟨_, .of upd_same⟩, for_list (K := K) (a := p1) (xs := ys.map V.str) (fun i σ H' => ∃ v1, σ = [some (.ref d), v1] ∧ Same H H' ∧ H' p1 = some (.lst (ys.map V.str))) ⟨none, rfl, s2.trans (new_same np), upd_same⟩
          (fun i σ H' _ ⟨_, _, _, e⟩ => .of e) (fun i x σ H2 hx hP => ?_) (fun σ H2 hP => ?_)⟩
        · obtain ⟨v1, rfl, s3, e3⟩ := hP
          rw [List.getElem?_map] at hx
          cases ey : ys[i]? with
          | none => rw [ey] at hx; cases hx
          | some y =>
            rw [ey] at hx
            have ex : V.str y = x := Option.some.inj hx
            subst ex
            obtain ⟨n, hn⟩ := lk_some (hp.mem_iff.mp (List.mem_of_getElem? ey))
            exact ⟨_, rfl, _, rfl, d, _, rfl, dgetS (s3.rd hr0) hn, n, rfl, true, rfl, iteF ⟨_, rfl, s3, e3⟩⟩
        · obtain ⟨v1, rfl, s3, e3⟩ := hP
          refine ⟨_, rfl, d, _, rfl, s3.rd hr0, _, _, rfl, rfl, false, congrArg V.bl (decide_eq_false ?_), iteF ?_⟩
          · rw [dk_len]
            omega
          · exact q _ s3
/-! ### Earliest.__init__ -/
def spEarInit (K : Fg) : Sp := fun vs H Q _ => ∃ x dx d ss, vs = [.ref x, .ref d] ∧ H x = some (.ins (cE K) dx []) ∧ Rd H d (.dK (dk ss)) ∧ Sh ss ∧
  ∀ H' tt, Srt ss tt → (∀ b o, b ≠ x → H b = some o → H' b = some o) → EarAt K H' x tt → Q .non H'
theorem sc_ear_init : FnScope ["self", "shifts", "moment"] ["self", "shifts"] (defScope dEarliestInit.st) := ⟨rfl, rfl, rfl, by decide +kernel, rfl, by decide +kernel, by decide +kernel⟩
theorem ok_ear_init (T : Tx K mg) : Cd P w K mg base 3 dEarliestInit ["self", "shifts"] (spEarInit K) := by
  obtain ⟨fd, F⟩ := T.dEarliestInit
  have cW : Cd P w K mg base 2 dWantShifts ["shifts"] spWantShifts := ok_want_shifts T
  refine .of F sc_ear_init (F.bindsN fun _ _ _ _ _ _ us hl => match us, hl with | [_, _], _ => rfl) (fun vs H Q E h => ?_) (fun cdv A outer s H vs Q E hr h => ?_)
  · obtain ⟨_, _, _, _, rfl, _⟩ := h
    rfl
  · obtain ⟨x, dx, d, ss, rfl, hx, hd, S, q⟩ := h
    have hu := hu_of hr
    have S8 := S.len
    refine ⟨_, pss_cons (ps_expr (pe_cd cW hr T.g_want_shifts (pa_cons (pv 1) pa_nil)))
      (pss_one (ps_fld (pv 0) (pe_dc (own := [("moment", 2)]) (g := gName 2) (tt := tYes) rfl sc_ear_init.nd (pi_list (pe_callB (cr_sortD rfl) (by rfl) T.n_sorted bt_sorted (pa_cons (pv 1) pa_nil)))
        (blkOk_by (N := ["self", "shifts", "moment"]) (sc := defScope dEarliestInit.st) (by decide +kernel)) (fun _ _ _ _ _ => pg_name (i := 2) sc_ear_init.nd rfl (Or.inl rfl)) (fun _ _ _ _ _ => pts_nil)
        (fun _ _ _ _ _ => pv 2) (fun _ _ _ _ _ => pe_dget hu (pv 1) (pv 2) (fun _ _ => rfl))) rfl)), ?_⟩
    refine ⟨_, rfl, d, ss, rfl, hd, S, fun H1 s1 => ?_⟩
    dsimp only [sFld]
    refine rd_sorted (K := K) (i := 1) (j := 2) (d := d) (ss := ss) rfl (s1.rd hd) (by omega) S.nd (fun x => rfl) (fun x => rfl) (fun x => rfl) (fun ys p H' h1 h2 h3 h4 h5 => ?_)
    have s3 := s1.trans h3
    have npx : p ≠ x := fun e => by rw [e, s1 _ _ hx] at h4; cases h4
    refine ⟨_, rfl, x, cE K, dx, [], rfl, s3 _ _ hx, T.c_Earliest, T.no_Earliest_own_shifts, by show 0 < 1000; decide, ?_⟩
    refine q _ (rg ss ys) (srt_rg S.nd h1 h2) (fun b o nb e => by rw [upd_ne nb]; exact s3 _ _ e) ⟨p, dx, upd_same, ?_⟩
    rw [upd_ne npx]
    exact h5
end
/-- what a caller of Earliest(..) gets -/
theorem mkE {K : Fg} {H : Hp} {d x dx : Addr} {ss : Tb} {Q : VK} {E : XK} (hd : H d = some (.dK (dk ss))) (S : Sh ss) (nx : H x = none) (ndx : H dx = none) (ne : dx ≠ x)
    (k : ∀ H' tt, Srt ss tt → Same H H' → EarAt K H' x tt → Q (.ref x) H') : spEarInit K (.ref x :: ([.ref d] ++ [])) (upd (upd H dx (.own x)) x (.ins (cE K) dx [])) (fun v H2 => v = .non ∧ Q (.ref x) H2) E := by
  refine ⟨x, dx, d, ss, rfl, upd_same, .inl ?_, S, fun H' tt h1 h2 h3 => ⟨rfl, k H' tt h1 (made_same nx ndx h2) h3⟩⟩
  rw [upd_ne (ne_of_none hd nx), upd_ne (ne_of_none hd ndx)]
  exact hd
end K21
set_option maxHeartbeats 4000000
/-! rules of my own: list(d.values()); {k: v, **d} -/
namespace K21
open PySem PySem.Spec PyProof.Rows L2 He
/-! ### list(e.values()) -/
def rValsL : V → Hp → VK → Prop := fun x H Q => ∃ (d : Addr) (kvs : List (Key × V)), x = .ref d ∧ Rd H d (.dK kvs) ∧ ∀ p, H p = none → Q (.ref p) (upd H p (.lst (kvs.map (·.2))))
def tListVals (te : TE) : TE := fun σ H Q => te σ H fun x H1 => rValsL x H1 Q
section
variable {X : Cx} {e : Expr} {te : TE} {p apos cpos pos : Pos}
theorem kv_snd {kvs : List (Key × V)} {vs : List (Key × Value)} (r : KV kvs vs) : ∀ {us : List Value}, us.length = vs.length → (∀ (j : Nat) (u : Value), us[j]? = some u → ∃ k, vs[j]? = some (k, u)) → Vals (kvs.map (·.2)) us := by
  induction r with
  | nil =>
    intro us hl _
    rw [List.eq_nil_of_length_eq_zero hl]
    exact .nil
  | @cons a b as bs h t ih =>
    intro us hl hv
    cases us with
    | nil => cases hl
    | cons u us =>
      obtain ⟨k, e⟩ := hv 0 u rfl
      have e2 : b = (k, u) := Option.some.inj e
      refine .cons ?_ (ih (Nat.succ.inj hl) fun j w hw => hv (j + 1) w hw)
      have e3 : b.2 = u := by rw [e2]
      rw [← e3]
      exact h.2
theorem pe_listVals (hc : X.calm = true) (he : PE X e te) (hm : X.mg "list" = none) (hg : Gl X "list" := by rfl) (hbase : attributeBase e "values" X.env (eval e X.env) = eval e X.env := by rfl) (hline : (apos.endLine == cpos.line) = true := by rfl)
    (hs : starEach [.Call (.Attribute e "values" apos) [] [] cpos] X.env = (false, eval (.Call (.Attribute e "values" apos) [] [] cpos) X.env) :: starEach [] X.env := by rfl) :
    PE X (.Call (.Name "list" p) [.Call (.Attribute e "values" apos) [] [] cpos] [] pos) (tListVals te) := by
  constructor
  intro pins s σ H Q I hq
  refine wpAny_Call_Name_kw (ld_blt I hg hm bt_list (callWith_type1 ?_ hs rfl))
  rw [hs]
  refine Calls.spliced_cons ?_
  refine wpAny_Call_method (T := "dict") (id := "dict.values") hbase rfl hline F.plainAttrs_dict F.slot_dict_values F.type_dict_values (thn (he.run pins s σ H _ I hq) ?_)
  rintro u s1 ⟨x, H1, I1, rx, d, kvs, rfl, hd, q⟩
  cases (show u = Value.ref d from rx)
  obtain ⟨hz, hsys, vs, kv, hdo⟩ := dk_rd I1.hok hd
  obtain ⟨ep, hat⟩ := hdo.dictAt
  have ln : kvs.length = vs.length := kv.length
  refine ⟨hdo.typeIs, hdo.mapOf.noDict, method_meetsIn F.slot_dict_values F.entry_dict_values rfl (PySem.evalArgs_none ⟨rfl, hdo.typeIs, F.args_dict_values_1 _, _, meets_dict_values (mixKind X.prog X.w) d hsys, ⟨vs, hdo⟩, ?_⟩)⟩
  refine Calls.spliced_nil ?_
  refine PySem.W.kdl_call (PySem.W.kdl_values (knd := mixKind X.prog X.w) (kvs := vs) (ep := ep) (r := s1.heap.objs.size) (d := d)) (I1.ok.hd hc) ⟨⟨_, Heap.get?_push_size _ rfl, rfl, rfl⟩, hat.push _⟩ (by omega) fun h' tk acc c hk hS hacc => ?_
  have I2 : Inv X pins σ H1 { s1 with heap := s1.heap.push { cls := .type "dict_values", data := .fields #[.ref d] } } := I1.kept (t' := s1.toks) fun b ob z => Heap.get?_push_of_some _ z
  have hv : Vals (kvs.map (·.2)) acc.toList := kv_snd kv (by rw [Array.length_toList]; exact hacc.1) fun j w hw => hacc.2 j w (by rw [← Array.getElem?_toList]; exact hw)
  refine ⟨.ref _, _, I2.laid (t' := tk) (o := .lst (kvs.map (·.2))) hk (Nat.le_refl _) ⟨by rw [List.length_map]; exact hz, acc.toList, c, hv, ?_⟩, rfl, q _ (I2.hok.fresh (Nat.le_refl _))⟩
  rw [Array.toArray_toList]
  exact hS
end
end K21
set_option maxHeartbeats 4000000
/-! rules of my own: {k: v, **d} -/
namespace K21
open PySem PySem.Spec PyProof.Rows L2 He
section
variable {prog : Program} {w : World} {κ : Type} [DecidableEq κ] {knd : PySem.KeyKind prog w κ} {A : Around} {E : Value → Shared → Prop} {s : Shared}
theorem put_go {d : Addr} {kvs : List (κ × Value)} {k : κ} {key v : Value} {Q : Unit → Shared → Prop} (hkey : knd.is k key = true) (hm : s.heap.DictOf knd d kvs)
    (hQ : ∀ h', h'.DictOf knd d (stored kvs k v) → Heap.SameBut d s.heap h' → Q () { s with heap := h' }) (hsz : kvs.length ≤ sizeLine) : wpAny (model prog w) A (dictPut d (knd.hash k) key v) Q E s := by
  obtain ⟨o, es, ep, ho, hc, hd, hk, hp, hn⟩ := hm
  have hes : es.size ≤ sizeLine := by
    have e1 := hp.length
    rw [Array.length_toList] at e1
    omega
  unfold dictPut
  refine wpAny_bind (wpAny_dictFind_of hkey ho hd hk ?_)
  have hidx : (es.findIdx? fun e => knd.is k e.key) = kvs.findIdx? fun kv => decide (kv.1 = k) := by
    rw [← hp.findIdx k]
    obtain ⟨l⟩ := es
    simp
  cases hi : es.findIdx? fun e => knd.is k e.key with
  | some i =>
    refine wpAny_updateDict ho hd (hQ _ ⟨_, _, ep, Heap.get?_update_self _ ho (Obj.isFreed_of_dict (Obj.data_mapDict hd _)), hc.mapDict _, Obj.data_mapDict hd _, hk.modify _ _, ?_, ?_⟩ (Heap.SameBut.update ..))
    · rw [stored, if_pos (any_of_findIdx_some (hidx ▸ hi))]
      have hl : (es.toList.findIdx? fun e => knd.is k e.key) = some i := by
        rw [← hi]
        obtain ⟨l⟩ := es
        simp
      have z := hp.modify hn hl v
      obtain ⟨l⟩ := es
      simpa using z
    · rw [stored, if_pos (any_of_findIdx_some (hidx ▸ hi)), keys_map_store]
      exact hn
  | none =>
    have hnot : k ∉ kvs.map (·.1) := not_mem_of_findIdx_none (hidx ▸ hi)
    have hany : ¬ (kvs.any fun kv => decide (kv.1 = k)) = true := fun z => by
      obtain ⟨kv, hkv, he⟩ := List.any_eq_true.mp z
      exact hnot (List.mem_map.mpr ⟨kv, hkv, of_decide_eq_true he⟩)
    refine wpAny_updateDictKeys (hz := hes) ho hd (hQ _ ⟨_, _, ep + 1, Heap.get?_update_self _ ho (Obj.isFreed_of_dict (Obj.data_mapDictKeys hd _)), hc.mapDictKeys _, Obj.data_mapDictKeys hd _, hk.push hkey _, ?_, ?_⟩ (Heap.SameBut.update ..))
    · rw [stored, if_neg hany]
      have z := hp.append hkey (knd.hash k) v
      obtain ⟨l⟩ := es
      simpa using z
    · rw [stored, if_neg hany, List.map_append]
      exact nd_snoc hn hnot
theorem pairs_ix : ∀ {es : List DictEntry} {kvs : List (κ × Value)}, PySem.Pairs knd es kvs → ∀ {i : Nat} {e : DictEntry}, es[i]? = some e → ∃ kv, kvs[i]? = some kv ∧ knd.is kv.1 e.key = true ∧ e.val = kv.2
  | _, _, .nil, i, e, h => by simp at h
  | _, _, .cons h1 h2 t, 0, e, h => by
    have z := Option.some.inj h
    subst z
    exact ⟨_, rfl, h1, h2⟩
  | _, _, .cons _ _ t, i + 1, e, h => pairs_ix t (i := i) h
theorem drop_range {n i x : Nat} {rest : List Nat} (h : x :: rest = (List.range n).drop i) : x = i ∧ i < n ∧ rest = (List.range n).drop (i + 1) := by
  have hi : i < n := by
    apply Classical.byContradiction
    intro z
    rw [List.drop_eq_nil_of_le (by rw [List.length_range]; omega)] at h
    cases h
  rw [List.drop_eq_getElem_cons (by rw [List.length_range]; exact hi)] at h
  injection h with h1 h2
  rw [List.getElem_range] at h1
  exact ⟨h1, hi, h2⟩
theorem merge_go {d a : Addr} (ne : a ≠ d) (hs : (a == sysModules) = false) {kvs more : List (κ × Value)} (hd : s.heap.DictOf knd d kvs) (h0 : kvs ≠ []) (ha : s.heap.DictOf knd a more) (hsz : kvs.length + more.length ≤ sizeLine) {Q : Unit → Shared → Prop}
    (hQ : ∀ h', h'.DictOf knd d (merged kvs more) → Heap.SameBut d s.heap h' → Q () { s with heap := h' }) : wpAny (model prog w) A (mergeMapping d (.ref a) false) Q E s := by
  have tA := ha.typeIs
  obtain ⟨od, eds, epd, hod, hcd, hdd, hkd, hpd, hnd⟩ := id hd
  obtain ⟨oa, eas, epa, hoa, hca, hda, hka, hpa, hna⟩ := id ha
  have eds0 : eds.isEmpty = false := by
    have e1 := hpd.length
    rw [Array.length_toList] at e1
    cases kvs with
    | nil => exact absurd rfl h0
    | cons p r =>
      rw [Array.isEmpty_eq_false_iff]
      intro z
      rw [z] at e1
      cases e1
  have eln : eas.size = more.length := by
    have e1 := hpa.length
    rw [Array.length_toList] at e1
    exact e1
  unfold mergeMapping
  refine wpAny_bind (wpAny_isInstance (U := "dict") (b := true) tA (by rw [isSubtype_type]; kernel_rfl) ?_)
  simp only [if_true]
  refine wpAny_bind ?_
  unfold specialOf
  refine wpAny_bind (wpAny_typeOf tA ?_)
  rw [F.slot_dict_iter.lookup]
  refine wpAny_pure ?_
  refine wpAny_bind (wpAny_pure ?_)
  simp only [beq_self_eq_true]
  simp only [hs, Bool.false_eq_true, if_false]
  refine wpAny_bind (wpAny_dictEntries hod hdd ?_)
  simp only [eds0, Bool.false_eq_true, if_false]
  refine wpAny_bind (wpAny_dictEntries hoa hda ?_)
  refine wpAny_bind (wpAny_dictEpoch hoa hda ?_)
  refine wpAny_bind (wpAny_forIn_list _ (fun rest _ s' => ∃ i, rest = (List.range eas.size).drop i ∧ i ≤ eas.size ∧ ∃ h', s' = { s with heap := h' } ∧ h'.DictOf knd d (merged kvs (more.take i)) ∧ Heap.SameBut d s.heap h') _ (fun x rest b s' hI => ?_) (fun b s' hI => ?_) _ _ ⟨0, rfl, Nat.zero_le _, s.heap, rfl, hd, Heap.SameBut.refl ..⟩)
  · obtain ⟨i, hr, hi, h', rfl, hm, sb⟩ := hI
    obtain ⟨rfl, hlt, hr2⟩ := drop_range hr
    have hoa' : h'.get? a = some oa := (sb.2 a ne).trans hoa
    have ee : eas[x]? = some eas[x] := Array.getElem?_eq_getElem hlt
    obtain ⟨kv, hkv, k1, k2⟩ := pairs_ix hpa (i := x) (e := eas[x]) (by rw [Array.getElem?_toList]; exact ee)
    obtain ⟨k', k3, k4⟩ := hka eas[x] (Array.getElem_mem hlt)
    have ek : k' = kv.1 := knd.inj _ _ _ k3 k1
    subst ek
    refine wpAny_bind (wpAny_dictEntries (s := { s with heap := h' }) hoa' hda ?_)
    rw [ee]
    dsimp only
    refine wpAny_bind (wpAny_holding ?_)
    rw [k4]
    refine put_go k1 hm (fun h2 hm2 sb2 => ?_) ?_
    · have sb3 : Heap.SameBut d s.heap h2 := ⟨by first | exact sb2.1.trans sb.1 | exact sb.1.trans sb2.1, fun b hb => (sb2.2 b hb).trans (sb.2 b hb)⟩
      refine wpAny_bind (wpAny_dictEpoch (s := { s with heap := h2 }) ((sb3.2 a ne).trans hoa) hda ?_)
      simp only [bne_self_eq_false, Bool.false_eq_true, if_false]
      refine wpAny_pure ⟨x + 1, hr2, hlt, h2, rfl, ?_, sb3⟩
      rw [merged_take_succ kvs more x kv hkv, ← k2]
      exact hm2
    · have e1 := merged_length_le kvs (more.take x)
      rw [List.length_take] at e1
      omega
  · obtain ⟨i, hr, hi, h', rfl, hm, sb⟩ := hI
    have hi2 : eas.size ≤ i := by
      have e1 := congrArg List.length hr
      rw [List.length_drop, List.length_range] at e1
      have e2 : (0 : Nat) = eas.size - i := e1
      omega
    rw [List.take_of_length_le (by omega)] at hm
    exact wpAny_pure (hQ h' hm sb)
end
section
variable {prog : Program} {w : World} {A : Around} {E : Value → Shared → Prop} {s : Shared}
theorem disp_go {ck cv ce : Sem Value} {Q : Value → Shared → Prop} (h : wpAny (model prog w) A (subDict [(ck, cv)]) (fun d s1 => wpAny (model prog w) A ce (fun m s2 => wpAny (model prog w) A (mergeMapping d m false) (fun _ s3 => Q (.ref d) s3) (fun _ _ => False) s2) E s1) E s) :
    wpAny (model prog w) A (dictDisplay [(some ck, cv), (none, ce)]) Q E s := by
  unfold dictDisplay
  simp only [List.forIn_cons, List.forIn_nil, pure_bind, bind_assoc, List.nil_append, List.length_singleton, List.isEmpty_cons, List.isEmpty_nil, Bool.false_eq_true, if_false, if_true]
  have e17 : ((1 : Nat) == 17) = false := rfl
  simp only [e17, Bool.false_eq_true, if_false, pure_bind, List.isEmpty_cons, bind_assoc]
  refine wpAny_bind (wpAny_mono h (fun d s1 h1 => ?_) fun _ _ z => z)
  refine wpAny_bind (wpAny_holding (wpAny_mono h1 (fun m s2 h2 => ?_) fun _ _ z => z))
  refine wpAny_bind (wpAny_onRaise (wpAny_tryCatch (wpAny_onRaise (wpAny_holding (wpAny_mono h2 (fun _ s3 h3 => ?_) fun _ _ z => z.elim)))))
  simp only [List.isEmpty_nil, if_true, pure_bind]
  exact wpAny_pure h3
end
/-- {k: v, **e}: the pair laid first, then the other dict's -/
def tStar1 (tk tv te : TE) : TE := fun σ H Q => ∀ p, H p = none → tk σ (upd H p (.dK [])) fun x H1 => tv σ H1 fun y H2 => ∃ k : Key, x = kV k ∧ H2 p = some (.dK []) ∧
  te σ (upd H2 p (.dK [(k, y)])) fun z H3 => ∃ (a : Addr) (more : List (Key × V)), z = .ref a ∧ H3 p = some (.dK [(k, y)]) ∧ a ≠ p ∧ Rd H3 a (.dK more) ∧ more.length ≤ 1000 ∧ Q (.ref p) (upd H3 p (.dK (mergeK [(k, y)] more)))
section
variable {X : Cx} {pos : Pos} {ek ev ee : Expr} {tk tv te : TE}
theorem pe_star1 (hk : PE X ek tk) (hv : PE X ev tv) (he : PE X ee te) (h1 : evalEachOpt [some ek, none] X.env = [some (eval ek X.env), none] := by rfl) (h2 : evalEach [ev, ee] X.env = [eval ev X.env, eval ee X.env] := by rfl) :
    PE X (.Dict [some ek, none] [ev, ee] pos) (tStar1 tk tv te) := by
  constructor
  intro pins s σ H Q I q
  rw [arm_eval_Dict, h1, h2]
  refine wpAny_bind (wpAny_standAt (disp_go (wpAny_subDict (knd := mixKind X.prog X.w) (by show 1 ≤ 15; decide) ?_)))
  have hn := I.hok.fresh (Nat.le_refl s.heap.objs.size)
  have I1 := I.laid (a := s.heap.objs.size) (o := .dK []) (h' := s.heap.push { cls := .type "dict", data := .dict #[] }) (t' := s.toks) (fun _ _ q => Heap.get?_push_of_some _ q) (Nat.le_refl _) (dk_empty s.heap I.big)
  unfold evalPairs
  refine wpAny_bind (thn (hk.run pins _ σ _ _ I1 (q _ hn)) ?_)
  rintro u s1 ⟨x, H1, I2, rx, q1⟩
  refine wpAny_bind (wpAny_holding (wpAny_bind (thn (hv.run pins _ σ _ _ I2 q1) ?_)))
  rintro r s2 ⟨y, H2, I3, ry, k, rfl, e0, q2⟩
  refine wpAny_bind (wpAny_standAt (wpAny_pure ?_))
  unfold evalPairs
  refine wpAny_bind (wpAny_holding (wpAny_pure (wpAny_pure ?_)))
  obtain ⟨rs, c, rk⟩ := carries_of (P := X.prog) (w := X.w) (kvs := [(k, y)]) (ws := [(u, r)]) (.cons ⟨rx, ry⟩ .nil)
  obtain ⟨z, hd, vs0, r0, dd⟩ := dk_of I3.hok e0
  cases r0
  refine ⟨rs, c, dd, fun h' dd' hs => ?_⟩
  have lrs : rs.length = 1 := rk.length.symm
  have hm : merged [] rs = rs := merged_nil_of_nodup rs (by
    rw [← rk.keys]
    exact List.nodup_cons.mpr ⟨List.not_mem_nil, List.nodup_nil⟩)
  rw [hm] at dd'
  have he2 : ∃ q, h'.get? s.heap.objs.size = some q := let ⟨q, _, _, hq, _⟩ := dd'; ⟨q, hq⟩
  have I4 : Inv X pins σ (upd H2 s.heap.objs.size (.dK [(k, y)])) { s2 with heap := h', toks := s2.toks + [(u, r)].length } := d_write I3 (by rw [e0]; exact True.intro) hs he2 (dk_new (by show 1 ≤ sizeLine; decide) hd rk dd')
  refine wpAny_bind (thn (he.run pins _ σ _ _ I4 q2) ?_)
  rintro m s3 ⟨zv, H3, I5, rz, a, more, rfl, e3, ne, ha, hl, q3⟩
  refine wpAny_bind (wpAny_standAt (wpAny_pure ?_))
  cases (show m = Value.ref a from rz)
  obtain ⟨z5, hd5, vs5, r5, dd5⟩ := dk_of I5.hok e3
  obtain ⟨z6, hd6, vs6, r6, dd6⟩ := dk_rd I5.hok ha
  have l6 : vs6.length ≤ 1000 := by rw [← r6.length]; exact hl
  have l5 : vs5.length = 1 := r5.length.symm
  refine merge_go ne hd6 dd5 (fun e => by rw [e] at l5; cases l5) dd6 (Nat.le_trans (show vs5.length + vs6.length ≤ 1001 by omega) (by decide)) fun h2 dm sb => ?_
  have he4 : ∃ q, h2.get? s.heap.objs.size = some q := let ⟨q, _, _, hq, _⟩ := dm; ⟨q, hq⟩
  have hz : (mergeK [(k, y)] more).length ≤ sizeLine := Nat.le_trans (length_mergeK more [(k, y)]) (Nat.le_trans (show [(k, y)].length + more.length ≤ 1001 by rw [List.length_singleton]; omega) (by decide))
  exact ⟨.ref s.heap.objs.size, _, d_write (t' := s3.toks) I5 (by rw [e3]; exact True.intro) sb he4 (dk_new hz hd5 (r6.merge r5) dm), rfl, q3⟩
end
end K21
set_option maxHeartbeats 4000000
/-! rules of my own: set(list of texts), sorted of it -/
namespace K21
open PySem PySem.Spec PyProof.Rows L2 He
def txt (e : Int × Value) : Str := match e.2 with | .str y _ => y | _ => Str.empty
def TxtOk (w : World) (e : Int × Value) : Prop := ∃ y t, e.2 = .str y t ∧ e.1 = hashStr w y
/-- the members are those of L; the table can be walked -/
def SetS (w : World) (h : Heap) (a : Addr) (L : List Str) : Prop :=
  ∃ ob es ep t, h.get? a = some ob ∧ ob.ExactSet ∧ ob.data = .set es ep t ∧ (∀ e ∈ es.toList, TxtOk w e) ∧ (es.toList.map txt).Nodup ∧ (∀ y, y ∈ L ↔ y ∈ es.toList.map txt) ∧
    es.size ≤ L.length ∧ t.fits es.size = true ∧ Ris t.place.toList ∧ (w.params.followText "set-order" = true ∨ t.led = true)
section
variable {P : Program} {w : World} {h h' : Heap} {a : Addr} {L : List Str}
theorem SetS.to (R : SetS w h a L) (k : ∀ o, h.get? a = some o → h'.get? a = some o) : SetS w h' a L := by
  obtain ⟨ob, es, ep, t, ho, r⟩ := R
  exact ⟨ob, es, ep, t, k _ ho, r⟩
theorem txt_elems {l : List (Int × Value)} (g : ∀ e ∈ l, TxtOk w e) : ElemsOf (PySem.strKind P w) l := fun e he => by
  obtain ⟨y, tk, e1, e2⟩ := g e he
  rw [e1]
  exact ⟨⟨y, strKind_is _ _ _ _, e2⟩, rfl⟩
theorem txt_is {e : Int × Value} (g : TxtOk w e) (y : Str) : (PySem.strKind P w).is y e.2 = true ↔ txt e = y := by
  obtain ⟨z, tk, e1, _⟩ := g
  unfold txt
  rw [e1]
  show Value.isStrOf y (.str z tk) = true ↔ z = y
  simp [Value.isStrOf]
theorem txt_mem {l : List (Int × Value)} (g : ∀ e ∈ l, TxtOk w e) (y : Str) : y ∈ l.map txt ↔ ∃ e ∈ l, (PySem.strKind P w).is y e.2 = true := by
  rw [List.mem_map]
  exact ⟨fun ⟨e, he, q⟩ => ⟨e, he, (txt_is (g e he) y).mpr q⟩, fun ⟨e, he, q⟩ => ⟨e, he, (txt_is (g e he) y).mp q⟩⟩
end
section
variable {P : Program} {w : World} {A : Around} {E : Value → Shared → Prop} {s : Shared} {a : Addr} {L : List Str}
theorem put_at {h : Heap} {ob : Obj} {es es2 : Array (Int × Value)} {ep : Nat} {t t2 : SetTable} (ho : h.get? a = some ob) (hd : ob.data = .set es ep t) :
    (h.update a (Obj.putSet es2 t2)).get? a = some { ob with data := .set es2 (ep + 1) t2 } := by
  rw [← putSet_of es2 t2 hd]
  exact Heap.get?_update_self _ ho (by rw [putSet_of es2 t2 hd] <;> rfl)
/-- the end of an add: the table laid, and laid anew if it is too full -/
theorem add_end {gv : Bool → Sem Unit} (hg : ∀ (b : Bool) (s1 : Shared) (Z : Unit → Shared → Prop), Z () s1 → wpAny (model P w) A (gv b) Z E s1) {L2 : List Str}
    {ob : Obj} {es es1 : Array (Int × Value)} {ep : Nat} {t t1 : SetTable} (ho : s.heap.get? a = some ob) (hx : ob.ExactSet) (hd : ob.data = .set es ep t)
    (g : ∀ e ∈ es1.toList, TxtOk w e) (nd : (es1.toList.map txt).Nodup) (hm : ∀ y, y ∈ L2 ↔ y ∈ es1.toList.map txt) (hl : es1.size ≤ L2.length) (hb : L2.length < scanBound) (hf : t1.fits es1.size = true)
    (hr : Ris t1.place.toList) (hled : w.params.followText "set-order" = true ∨ t1.led = true) {dummy : Bool} {R : Option Bool → Shared → Prop} (hR : ∀ h', Heap.SameBut a s.heap h' → SetS w h' a L2 → R (some true) { s with heap := h' }) :
    wpAny (model P w) A (do
      storeSet a es1 t1
      if (!dummy && t1.tooFull) = true then do
        gv (relayAll t1 es1 (SetTable.grown es1.size)).2.2
        storeSet a (relayAll t1 es1 (SetTable.grown es1.size)).1 (relayAll t1 es1 (SetTable.grown es1.size)).2.1
        pure (some true)
      else pure (some true)) R E s := by
  have hz := fits_of_scanBound (Nat.lt_of_le_of_lt hl hb)
  refine wpAny_bind (wpAny_storeSet_of ho hd ?_ hz)
  have o1 := put_at (es2 := es1) (t2 := t1) ho hd
  have b1 := Heap.SameBut.update s.heap a (Obj.putSet es1 t1)
  split
  · have p1 := relayAll_perm t1 es1 (SetTable.grown es1.size)
    have p2 := relayAll_fits t1 es1 (SetTable.grown es1.size)
    have p3 := relayAll_ris t1 es1 (SetTable.grown es1.size)
    have p4 := relayAll_led t1 es1 (SetTable.grown es1.size)
    generalize relayAll t1 es1 (SetTable.grown es1.size) = Y at p1 p2 p3 p4 ⊢
    obtain ⟨es2, t2, gave⟩ := Y
    dsimp only at p1 p2 p3 p4 ⊢
    have e2 : es2.size = es1.size := by rw [← Array.length_toList, p1.length_eq, Array.length_toList]
    refine wpAny_bind (hg _ _ _ ?_)
    refine wpAny_bind (wpAny_storeSet_of o1 rfl ?_ (by rw [e2]; exact hz))
    refine wpAny_pure (hR _ (b1.trans (Heap.SameBut.update _ a _)) ⟨_, es2, _, t2, put_at (es2 := es2) (t2 := t2) o1 rfl, hx, rfl, fun e he => g e (p1.mem_iff.mp he), (p1.map txt).nodup_iff.mpr nd,
      fun y => (hm y).trans (p1.map txt).mem_iff.symm, by rw [e2]; exact hl, p2, p3, hled.imp id fun z => p4.trans z⟩)
  · exact wpAny_pure (hR _ b1 ⟨_, es1, _, t1, o1, hx, rfl, g, nd, hm, hl, hf, hr, hled⟩)
theorem add_txt {y : Str} {tk : Tok} {Q : Bool → Shared → Prop} (R : SetS w s.heap a L) (room : L.length + 1 < scanBound) (hQ : ∀ h' b, Heap.SameBut a s.heap h' → SetS w h' a (L ++ [y]) → Q b { s with heap := h' }) :
    wpAny (model P w) A (setAddHashed a (.str y tk) (hashStr w y)) Q E s := by
  obtain ⟨ob, es, ep, t, ho, hx, hd, g, nd, hm, hl, hf, hr, hled⟩ := R
  have hy : (PySem.strKind P w).is y (.str y tk) = true := strKind_is _ _ _ _
  have el : ElemsOf (PySem.strKind P w) es.toList := txt_elems g
  have hbe : es.size < scanBound := by omega
  unfold setAddHashed setAddHashedIn
  refine wpAny_holding (wpAny_bind (wpAny_setState_of ho hd hf ?_))
  dsimp only
  rw [byScan_of (x := .str y tk) rfl hbe el, if_pos rfl]
  unfold setAddByScan
  refine wpAny_bind (wpAny_bind (wpAny_rule (wpAny_bind (wpAny_setScan_of hy ho hd hf el ?_))))
  cases hfi : List.findIdx? (fun e => (PySem.strKind P w).is y e.2) es.toList with
  | some j =>
    dsimp only
    obtain ⟨hj, pj, _⟩ := List.findIdx?_eq_some_iff_getElem.mp hfi
    have hin : y ∈ es.toList.map txt := (txt_mem g y).mpr ⟨_, List.getElem_mem hj, pj⟩
    refine wpAny_pure (wpAny_pure (hQ s.heap _ (Heap.SameBut.refl a s.heap) ⟨ob, es, ep, t, ho, hx, hd, g, nd, fun z => ?_, ?_, hf, hr, hled⟩))
    · rw [List.mem_append, hm z]
      exact ⟨fun c => c.elim id fun e => by rw [List.mem_singleton.mp e]; exact hin, .inl⟩
    · rw [List.length_append]
      omega
  | none =>
    dsimp only
    have hnot : y ∉ es.toList.map txt := fun z => by
      obtain ⟨e, he, q⟩ := (txt_mem (P := P) g y).mp z
      have c := List.findIdx?_eq_none_iff.mp hfi e he
      rw [q] at c
      cases c
    have p1 := layNew_perm t es (hashStr w y) (.str y tk)
    have p2 := layNew_fits t es (hashStr w y) (.str y tk)
    have p3 := layNew_ris t es (hashStr w y) (.str y tk) hr
    have p4 := layNew_led t es (hashStr w y) (.str y tk)
    have eh : (PySem.strKind P w).hash y = hashStr w y := rfl
    try rw [eh]
    generalize layNew t es (hashStr w y) (.str y tk) = Y at p1 p2 p3 p4 ⊢
    obtain ⟨es1, t1, dm, gave⟩ := Y
    dsimp only at p1 p2 p3 p4 ⊢
    rw [Array.toList_push] at p1
    have pk : (es1.toList.map txt).Perm (es.toList.map txt ++ [y]) := by
      have z := p1.map txt
      rw [List.map_append] at z
      exact z
    have g1 : ∀ e ∈ es1.toList, TxtOk w e := fun e he => by
      rcases List.mem_append.mp (p1.mem_iff.mp he) with z | z
      · exact g e z
      · rw [List.mem_singleton.mp z]
        exact ⟨y, tk, rfl, rfl⟩
    have nd1 : (es1.toList.map txt).Nodup := pk.nodup_iff.mpr (nd_snoc nd hnot)
    have m1 : ∀ z, z ∈ L ++ [y] ↔ z ∈ es1.toList.map txt := fun z => by rw [pk.mem_iff, List.mem_append, List.mem_append, hm z]
    have sz : es1.size ≤ (L ++ [y]).length := by
      have z := p1.length_eq
      rw [Array.length_toList, List.length_append, Array.length_toList] at z
      rw [z, List.length_append]
      exact Nat.add_le_add_right hl _
    have bd : (L ++ [y]).length < scanBound := by rw [List.length_append]; exact room
    have ld : w.params.followText "set-order" = true ∨ t1.led = true := hled.imp id fun z => p4.trans z
    have gv : ∀ (b : Bool) (s1 : Shared) (Z : Unit → Shared → Prop), Z () s1 → wpAny (model P w) A (match b with | true => rule "set.scan.the-table-gave-way" | false => pure ()) Z E s1 := fun b s1 Z q => by
      cases b
      · exact wpAny_pure q
      · exact wpAny_rule q
    refine wpAny_bind (gv _ _ _ ?_)
    split
    · refine wpAny_bind ?_
      rw [hashByValue_scannable 8 (x := .str y tk) rfl]
      refine wpAny_pure (add_end (L2 := L ++ [y]) gv ho hx hd g1 nd1 m1 sz bd ?_ ?_ ?_ fun h' sb r => ?_)
      · split
        · exact p2
        · exact SetTable.fits_plain_off p2
      · split <;> exact p3
      · split <;> exact ld
      · exact wpAny_pure (hQ h' _ sb r)
    · refine wpAny_bind (wpAny_pure ?_)
      simp only [↓reduceIte]
      refine add_end (L2 := L ++ [y]) gv ho hx hd g1 nd1 m1 sz bd p2 p3 ld fun h' sb r => ?_
      exact wpAny_pure (hQ h' _ sb r)
end
end K21
set_option maxHeartbeats 4000000
namespace K21
open PySem PySem.Spec PyProof.Rows L2 He
theorem strs_ix : ∀ {us : List Value} {xs : List Str}, StrsAre us xs → ∀ (i : Nat) (v : Value), us[i]? = some v → ∃ y t, v = .str y t ∧ xs[i]? = some y
  | _, _, .nil, i, v, h => by simp at h
  | _, _, .cons n t hr, 0, v, h => ⟨n, t, (Option.some.inj h).symm, rfl⟩
  | _, _, .cons n t hr, i + 1, v, h => strs_ix hr i v h
section
variable {P : Program} {w : World} {A : Around} {R : Result → Shared → Prop} {I D : Addr} {fp wr : List Addr} {G : Array GenState → Array GenState → Prop} {n : Nat} {Pv : Nat → Value → Prop} {St : Nat → Shared → Prop} {xs : List Str}
/-- the texts laid one by one -/
theorem fill_go (W : WalksS P w A.in1 I fp wr G n Pv St) (nf : D ∉ fp) (hz : xs.length = n) (hb : n + 1 < scanBound) (hv : ∀ i v, Pv i v → ∃ y t, v = .str y t ∧ xs[i]? = some y) (m : Nat) :
    ∀ (i : Nat) (s : Shared), n = i + m → St i s → SetS w s.heap D (xs.take i) → (∀ s2, Moved (D :: wr) G s s2 → SetS w s2.heap D xs → R (.ok (.ret .none)) s2) →
      codeAny (model P w) A (.builtin "set.update.loop" ⟨[.ref D, .ref I], []⟩) R s := by
  have nw : D ∉ wr := fun q => nf (W.sub _ q)
  have up : ∀ b ∈ wr, b ∈ D :: wr := fun b q => List.mem_cons_of_mem _ q
  induction m with
  | zero =>
    intro i s e st hS hR
    have ei : i = n := e.symm
    subst ei
    refine codeAny_builtin F.entry_set_update_loop ?_
    rw [Around.under_plainId F.plain_set_update_loop _]
    refine wpAny_bind (m := pyNext (.ref I)) (W.done s _ _ st fun s2 mv => ?_)
    refine wpAny_pure (hR s2 (mv.mono up) ?_)
    rw [List.take_of_length_le (Nat.le_of_eq hz)] at hS
    exact hS.to fun o q => mv.heap D _ nw q
  | succ m ih =>
    intro i s e st hS hR
    have lt : i < n := by omega
    refine codeAny_builtin F.entry_set_update_loop ?_
    rw [Around.under_plainId F.plain_set_update_loop _]
    refine wpAny_bind (m := pyNext (.ref I)) (W.item i s _ _ lt st fun v s2 hp st2 mv => ?_)
    obtain ⟨y, tk, rfl, hy⟩ := hv i v hp
    have hS2 : SetS w s2.heap D (xs.take i) := hS.to fun o q => mv.heap D _ nw q
    show wpAny _ A.in1 (holding [Value.str y tk] (setAdd D (.str y tk)) >>= _) _ _ s2
    refine wpAny_bind (wpAny_holding ?_)
    unfold setAdd
    refine wpAny_holding (wpAny_bind ((PySem.strKind P w).pyHash (k := y) (strKind_is _ _ _ _) ?_))
    refine add_txt (s := { s2 with toks := s2.toks + 1 }) hS2 ?_ fun h' b sb hS3 => ?_
    · rw [List.length_take]
      omega
    · have e3 : xs.take i ++ [y] = xs.take (i + 1) := by rw [List.take_add_one, hy] <;> rfl
      rw [e3] at hS3
      refine wpAny_pure ⟨plainId_quiet F.plain_set_update_loop _, ih (i + 1) _ (by omega) (W.frame _ s2 _ _ st2 (Nat.le_succ _) fun c hc o q => ?_) hS3 fun s3 mv3 hS4 => ?_⟩
      · exact (sb.2 c (fun z : c = D => nf (z ▸ hc))).trans q
      · refine hR s3 (Moved.trans W.gtrans ((mv.mono up).then_heap (Nat.le_succ _) fun c o hc q => ?_) mv3) hS4
        exact (sb.2 c (fun z : c = D => hc (by rw [z] <;> exact List.mem_cons_self))).trans q
end
section
variable {prog : Program} {w : World} {A : Around} {E : Value → Shared → Prop} {s : Shared}
def set0 (w : World) : Obj := { cls := .type "set", dict := none, data := .set #[] 0 (.fresh 0 0 (!w.params.followText "set-order")) }
theorem setS_new {h : Heap} (w : World) : SetS w (h.push (set0 w)) h.objs.size [] :=
  ⟨_, #[], 0, _, Heap.get?_push_size _ rfl, ⟨rfl, rfl, rfl⟩, rfl, fun e he => (nomatch he), List.nodup_nil, fun y => Iff.rfl, Nat.le_refl _, by rfl, List.Pairwise.nil, by
    show _ ∨ (!w.params.followText "set-order") = true
    cases w.params.followText "set-order"
    · exact .inr rfl
    · exact .inl rfl⟩
theorem set_new1 (a : Value) {Z : Value → Shared → Prop} (h : Z (.ref s.heap.objs.size) { s with heap := s.heap.push (set0 w) }) :
    codeAny (model prog w) A (.call (.builtin "set.__new__") ⟨[.type "set", a], []⟩) (wants Z E) s := by
  refine codeAny_of_tree ?_
  show wpAny _ A.in1 (do
    checkBuiltinCall "set.__new__" ⟨[.type "set", a], []⟩
    again (.builtin "set.__new__" ⟨[.type "set", a], []⟩)) _ _ s
  refine wpAny_bind (wpAny_of_eq (PySem.F.newCall_set_1 a) (wpAny_pure ⟨plainId_quiet PySem.F.plain_set_new _, codeAny_builtin PySem.F.entry_set_new ?_⟩))
  rw [Around.under_plainId PySem.F.plain_set_new _]
  unfold Builtin.«set.__new__» Builtin.Frozenset.newClass
  have hsub := PySem.sub_set_self
  obtain ⟨hp, g, d, tk, os⟩ := s
  dsimp only
  wp_walk
  refine wpAny_askSetting (wpAny_pure ?_)
  dsimp only
  simp only [newObj]
  exact wpAny_bind (wpAny_alloc (wpAny_pure (wpAny_pure h)))
/-- set(l), l a list of texts -/
theorem set_of_list {l : Addr} {items : Array Value} {xs : List Str} {Q : Value → Shared → Prop} (hh : A.handled = none) (hl : s.heap.IsList l items) (hi : StrsAre items.toList xs) (hb : xs.length + 1 < scanBound)
    (h : ∀ (h' : Heap) (tk : Nat), SetS w h' s.heap.objs.size xs → (∀ b o, b < s.heap.objs.size → s.heap.get? b = some o → h'.get? b = some o) → Q (.ref s.heap.objs.size) { s with heap := h', toks := tk }) :
    wpAny (model prog w) A (call (.type "set") [.ref l]) Q E s := by
  obtain ⟨mc, mt, hmro⟩ := PySem.F.called_set.mro
  have c1 := PySem.F.called_set.made
  have c2 := PySem.F.called_set.sub
  refine wpAny_call (codeAny_of_tree ?_)
  show wpAny _ _ (callAny (.type "set") _) _ _ _
  refine wpAny_pure ⟨Code.quiet_builtin _ (by decide +kernel), codeAny_builtin PySem.F.entry_type_call ?_⟩
  rw [Around.under_plain (weight_type_call_type "set" [.ref l] []) rfl]
  have c3 := PySem.F.called_set.notType
  have c4 := PySem.F.called_set.canCreate
  have c5 := PySem.F.typeCall_set_1 (.ref l)
  repeat (any_goals (first | assumption | wp_step))
  refine codeAny_mono (set_new1 (.ref l) (E := E) (Z := fun v s1 => v = .ref s.heap.objs.size ∧ s1 = { s with heap := s.heap.push (set0 w) }) ⟨rfl, rfl⟩) fun r s1 hr => ?_
  cases r with
  | error e => exact hr
  | ok fl =>
    cases fl with
    | ret obj =>
      obtain ⟨rfl, rfl⟩ := hr
      have o0 : (s.heap.push (set0 w)).get? s.heap.objs.size = some (set0 w) := Heap.get?_push_size _ rfl
      have t0 : Shared.TypeIs { s with heap := s.heap.push (set0 w) } (.ref s.heap.objs.size) "set" := ⟨_, o0, rfl⟩
      have c6 := PySem.F.called_set.init.lookup
      have c7 := PySem.F.called_set.init.bind (.ref s.heap.objs.size)
      repeat (any_goals (first | assumption | wp_step))
      refine codeAny_mono (codeAny_call_builtin (R := wants (fun r s2 => r = .none ∧ ∃ h' tk, s2 = { s with heap := h', toks := tk } ∧ SetS w h' s.heap.objs.size xs ∧ (∀ b o, b < s.heap.objs.size → s.heap.get? b = some o → h'.get? b = some o)) E)
        PySem.F.called_set.init.plain PySem.F.entry_set_init (check_set_init_1 t0 ?_)) fun r2 s2 hr2 => ?_
      · obtain ⟨ol, hol, hcl, nl, hdl⟩ := hl
        obtain ⟨ocls, odict, odata, oslots⟩ := ol
        simp only at hcl hdl
        subst hcl
        subst hdl
        have hol1 : (s.heap.push (set0 w)).get? l = some { cls := .type "list", dict := odict, data := .seq items nl, slots := oslots } := Heap.get?_push_of_some _ hol
        have d1 := PySem.F.sub_list_set
        have d2 := PySem.F.sub_list_frozenset
        have d3 : (Value.type "list" == Value.type "dict") = false := by decide
        have hl1 : (s.heap.push (set0 w)).IsList l items := ⟨_, hol1, rfl, nl, rfl⟩
        unfold Builtin.«set.__init__» noKeywords Builtin.Frozenset.updateFrom
        generalize hPI : pyIter = PI
        wp_walk
        subst hPI
        refine wpAny_pyIter_list hl1 ?_
        refine wpAny_bind (wpAny_runValue ?_)
        have lt : l < s.heap.objs.size := Heap.lt_size hol
        have z1 : (s.heap.push (set0 w)).objs.size = s.heap.objs.size + 1 := Heap.size_push ..
        have h3 : A.in1.in1.in1.handled = none := by simp [hh]
        have nI : l ≠ (s.heap.push (set0 w)).objs.size := by
          rw [z1]
          exact Nat.ne_of_lt (Nat.lt_succ_of_lt lt)
        have nf : s.heap.objs.size ∉ [(s.heap.push (set0 w)).objs.size, l] := by
          intro q
          rcases List.mem_cons.mp q with q | q
          · rw [z1] at q
            exact absurd q (Nat.ne_of_lt (Nat.lt_succ_self _))
          · exact absurd (List.mem_singleton.mp q) (Nat.ne_of_gt lt)
        have hz : xs.length = items.size := by rw [← StrsAre.len_eq hi, Array.length_toList]
        refine fill_go ((Walks.list h3 _ l nI items).toS) nf hz (by omega) (fun i v e => strs_ix hi i v (by rw [Array.getElem?_toList]; exact e)) items.size 0 _ (Nat.zero_add _).symm
          ⟨⟨_, Heap.get?_push_size _ rfl, rfl, rfl⟩, hl1.push _⟩ ((setS_new w).to fun o q => Heap.get?_push_of_some _ q) fun s2 mv hS => ?_
        obtain ⟨hp2, g2, d2', tk2, os2⟩ := s2
        obtain rfl : g2 = s.gens := mv.gens
        obtain rfl : d2' = s.drawn := mv.drawn
        obtain rfl : os2 = s.os := mv.os
        show wpAny _ _ _ _ _ _
        refine wpAny_pure ?_
        show wpAny _ _ (ret Value.none) _ _ _
        refine wpAny_pure ⟨rfl, hp2, tk2, rfl, hS, fun b o hb q => ?_⟩
        refine mv.heap b o (fun c => ?_) (Heap.get?_push_of_some _ (Heap.get?_push_of_some _ q))
        rcases List.mem_cons.mp c with c | c
        · exact absurd c (Nat.ne_of_lt hb)
        · have c2 := List.mem_singleton.mp c
          rw [z1] at c2
          exact absurd c2 (Nat.ne_of_lt (Nat.lt_succ_of_lt hb))
      · cases r2 with
        | error e => exact hr2
        | ok fl2 =>
          cases fl2 with
          | ret r =>
            obtain ⟨rfl, h', tk, rfl, hS, hk⟩ := hr2
            repeat (any_goals (first | assumption | wp_step))
            exact h _ _ hS hk
          | _ => exact hr2.elim
    | _ => exact hr.elim
end
end K21
set_option maxHeartbeats 4000000
namespace K21
open PySem PySem.Spec PyProof.Rows L2 He
section
variable {P : Program} {w : World} {A : Around} {E : Value → Shared → Prop} {s : Shared} {a : Addr} {L : List Str}
theorem sort_set {Q : Value → Shared → Prop} (R : SetS w s.heap a L) (hh : A.handled = none) (h64 : L.length < 64)
    (hQ : ∀ s' p (out : Array Value) (c : Nat) (ys : List Str), (∀ b o, s.heap.get? b = some o → s'.heap.get? b = some o) → s'.gens = s.gens → s'.os = s.os → s.heap.objs.size ≤ p → s'.heap.get? p = some (seqObj "list" out c) → StrsAre out.toList ys →
      ys.Nodup → (∀ y, y ∈ ys ↔ y ∈ L) → sortedS ys = true → ys.length ≤ L.length → Q (.ref p) s') : wpAny (model P w) A (call (.builtin "sorted") [.ref a]) Q E s := by
  obtain ⟨ob, es, ep, t, ho, hx, hd, g, nd, hm, hl, hf, hr, hled⟩ := R
  have sb : es.size < scanBound := Nat.lt_of_le_of_lt hl (Nat.lt_trans h64 (by decide))
  refine Calls.call_function_entry kind_sorted plain_sorted entry_sorted (args_sorted1 _) ?_
  unfold Builtin.«sorted»
  refine wpAny_bind (m := checkCount "sorted" 1 1 _) (wpAny_pure ?_)
  refine wpAny_bind (collect_set (A := A.in1) hh ⟨ob, ho, hx.1, hd⟩ hf sb hr hled fun s1 vs k1 z1 g1 o1 pm => ?_)
  have lv : vs.length = es.size := by rw [pm.length_eq, List.length_map, Array.length_toList]
  have l64 : vs.length < 64 := by omega
  have hS : StrsAre vs (vs.map strOf) := strsAre_map vs fun v hv => by
    obtain ⟨e, he, q⟩ := List.mem_map.mp (pm.mem_iff.mp hv)
    obtain ⟨y, tk, q1, _⟩ := g e he
    exact ⟨y, tk, by rw [← q, q1]⟩
  have pk : (vs.map strOf).Perm (es.toList.map txt) := by
    have q := pm.map strOf
    rw [List.map_map] at q
    refine q.trans (List.Perm.of_eq (List.map_congr_left fun e he => ?_))
    obtain ⟨y, tk, q1, _⟩ := g e he
    show strOf e.2 = txt e
    unfold txt
    rw [q1] <;> rfl
  refine wpAny_bind (wpAny_newList ?_ (by rw [sizeLine_eq]; omega))
  have oL : (s1.heap.push (seqObj "list" vs.toArray 0)).get? s1.heap.objs.size = some (seqObj "list" vs.toArray 0) := Heap.get?_push_size _ rfl
  refine wpAny_bind (wpAny_holding (wpAny_call_entry slot_list_sort ⟨_, oL, rfl⟩ entry_list_sort (list_sort_treeK strKind_oneLt oL hS.keysOf (fun v1 v2 rest e => keyKind_strs (ss := vs.map strOf) (by rw [← e]; exact hS)) l64 fun st hp hs => ⟨_, rfl, ?_⟩) (args_list_sort _)))
  obtain ⟨ys, r1, r2, r3⟩ := sorted_out_str hS hp hs
  obtain ⟨c, hc⟩ := sortedHeap_at (vs := vs) (out := (arrOf st).map (·.2)) oL
  have pn : ys.Perm (es.toList.map txt) := r2.trans pk
  refine wpAny_pure ⟨_, rfl, hQ _ s1.heap.objs.size _ c ys (fun b u e => ?_) g1 o1 z1 hc r1 (pn.nodup_iff.mpr nd) (fun y => pn.mem_iff.trans (hm y).symm) r3 ?_⟩
  · have q := k1 b u e
    have lt := Heap.lt_size q
    show (sortedHeap (s1.heap.push (seqObj "list" vs.toArray 0)) s1.heap.objs.size vs _).get? b = some u
    rw [sortedHeap_old (Nat.ne_of_lt lt) (by rw [size_push']; exact Nat.lt_succ_of_lt lt)]
    exact Heap.get?_push_of_some _ q
  · rw [pn.length_eq, List.length_map, Array.length_toList]
    exact hl
end
/-- the set of texts at a -/
def SetSO (w : World) (a : Addr) (L : List Str) : HO := .ext fun h => SetS w h a L
section
variable {X : Cx}
def rSetL (K : PySem.W.Frag) (w : World) : List V → Hp → VK → Prop := fun vs H Q => ∃ (l : Addr) (xs : List Str), vs = [V.ref l] ∧ SqL K H l (xs.map V.str) ∧ xs.length < 64 ∧ ∀ p, H p = none → Q (.ref p) (upd H p (SetSO w p xs))
theorem cr_setL (hc : X.calm = true) : CallR X (.type "set") (rSetL X.K X.w) := by
  intro pins s σ H vs us Q I r h
  obtain ⟨l, xs, rfl, hs, h64, q⟩ := h
  obtain ⟨its, rv, hl, _⟩ := I.list hs
  rw [Vals.ref1 r]
  refine set_of_list (I.ok.hd hc) hl.isList rv.strs (Nat.lt_of_le_of_lt (Nat.succ_le_of_lt h64) (by decide)) fun h' tk hS hk => ?_
  have ⟨ob, _, _, _, ho, _⟩ := hS
  have ok : ObjOk X.prog X.w (upd H s.heap.objs.size (SetSO X.w s.heap.objs.size xs)) h' s.heap.objs.size (SetSO X.w s.heap.objs.size xs) := ⟨hS, ⟨ob, ho⟩, fun h1 h2 p k => SetS.to p k⟩
  exact ⟨.ref s.heap.objs.size, _, I.laid (t' := tk) (fun b o e => hk b o (Heap.lt_size e) e) (Nat.le_refl _) ok, rfl, q _ (I.hok.fresh (Nat.le_refl _))⟩
def rSortSet (w : World) : List V → Hp → VK → Prop := fun vs H Q => ∃ (a : Addr) (L : List Str), vs = [V.ref a] ∧ H a = some (SetSO w a L) ∧ L.length < 64 ∧
  ∀ (ys : List Str) (p : Addr), ys.Nodup → (∀ y, y ∈ ys ↔ y ∈ L) → sortedS ys = true → ys.length ≤ L.length → H p = none → Q (.ref p) (upd H p (.lst (ys.map V.str)))
theorem cr_sortSet (hc : X.calm = true) : CallR X (.builtin "sorted") (rSortSet X.w) := by
  intro pins s σ H vs us Q I r h
  obtain ⟨a, L, rfl, ha, h64, q⟩ := h
  have R : SetS X.w s.heap a L := (I.hok a _ ha).1
  rw [Vals.ref1 r]
  refine sort_set R (I.ok.hd hc) h64 fun s2 p out c ys k g o hp hg hi h1 h2 h3 h4 => ?_
  have zl : (ys.map V.str).length ≤ sizeLine := by rw [List.length_map, sizeLine_eq]; omega
  have hn : H p = none := I.hok.fresh hp
  have J : Inv X pins σ (upd H p (.lst (ys.map V.str))) { s with heap := s2.heap, gens := s2.gens, drawn := s2.drawn, toks := s2.toks } :=
    I.call (ch := []) (Un.laid k hp hn) (I.hok.laid k hp ⟨zl, out.toList, c, vals_of_strs hi, hg⟩) (by rw [g]; exact I.bare) (fun _ z => nomatch z)
  have e : s2 = { s with heap := s2.heap, gens := s2.gens, drawn := s2.drawn, toks := s2.toks } := by
    cases s2
    cases s
    cases o
    rfl
  rw [e]
  exact ⟨.ref p, _, J, rfl, q ys p h1 h2 h3 h4 hn⟩
end
end K21
set_option maxHeartbeats 4000000
/-! rules of my own: | by an own __or__; a method called by keyword -/
namespace K21
open PySem PySem.Spec PyProof.Rows L2 He
section
variable {prog : Program} {w : World} {A : Around} {E : Value → Shared → Prop} {s : Shared} {K : PySem.W.Frag} {x y C D L f f2 : Addr} {h₀ : Heap} {m : Str → Option Value} {ox oy : Obj} {od od2 : Option Obj}
/-- x op y, two own classes, each with its own method, the second no kind of the first -/
theorem bin_two {op : Operator} {Q : Value → Shared → Prop} (F : Fr h₀ L s.heap m) (X₀ : K.In h₀) (I : PySem.W.InstAt s.heap x ox C od) (J : PySem.W.InstAt s.heap y oy D od2) (hne : C ≠ D) (hc : PySem.W.selfFirst K C = true) (hd : PySem.W.selfFirst K D = true)
    (hs : PySem.W.findIn K (.ref C) (PySem.dunder op.info.2) = some (some (.ref f))) (hf : PySem.W.isFn K (.ref f) = true) (hr : PySem.W.findIn K (.ref C) (dunderR op.info.2) = some none)
    (hs2 : PySem.W.findIn K (.ref D) (PySem.dunder op.info.2) = some (some (.ref f2))) (hr2 : PySem.W.findIn K (.ref D) (dunderR op.info.2) = some none) (hsub : PySem.W.subIn K (.ref D) (.ref C) = some false)
    (h : wpAny (model prog w) A (call (.ref f) [.ref x, .ref y]) (PySem.W.CmpBack Q) E s) : wpAny (model prog w) A (binaryOp op (.ref x) (.ref y)) Q E s := by
  have X := X₀.keeps F.keep
  obtain ⟨cd, rest, hcd, hm⟩ := PySem.W.ksp_first hc
  obtain ⟨dd, rest2, hdd, hm2⟩ := PySem.W.ksp_first hd
  have hR : (Value.ref C == Value.ref D) = false := by
    rw [Bool.eq_false_iff]
    intro q
    have q2 := eq_of_beq q
    injection q2 with q3
    exact hne q3
  unfold binaryOp
  refine wpAny_holding (wpAny_bind ?_)
  unfold binaryOp1
  refine wpAny_bind (I.type.here (wpAny_bind (J.type.here (wpAny_bind ((PySem.W.fills_K X hcd hm hs).here ?_)))))
  rw [hR]
  simp only [Bool.false_eq_true, if_false]
  refine wpAny_bind ((PySem.W.fills_K X hdd hm2 hs2).here ?_)
  simp only [Bool.and_self, if_true]
  refine wpAny_bind ((PySem.W.looks_subIn X hsub).here ?_)
  simp only [Bool.false_eq_true, if_false, Bool.not_false, Bool.and_self, if_true]
  try refine wpAny_bind (wpAny_pure ?_)
  refine wpAny_bind ((PySem.W.ksp_inPy X hs hr (.inl rfl)).here ?_)
  simp only [if_true]
  refine wpAny_bind ((PySem.W.ksp_inPy X hs2 hr2 (.inl rfl)).here ?_)
  simp only [Bool.not_true, Bool.false_eq_true, if_false]
  try refine wpAny_bind (wpAny_pure ?_)
  refine wpAny_bind (wpAny_mono (PySem.W.ksp_try X I hs hf h) (fun r s2 hr => ?_) fun _ _ e => e)
  obtain ⟨v, rfl, q⟩ := hr
  exact wpAny_pure (wpAny_pure q)
end
section
variable {X : Cx} {k : Nat} {d : Df} {ps : List Str} {sp : Sp} {C D : Addr}
theorem back_of {pins : List (Addr × Obj)} {σ : L2.St} {Q : VK} {v : Value} {s : Shared} (h : EP X pins σ (fun r H => (∃ p, r = V.ref p) ∧ Q r H) v s) : PySem.W.CmpBack (EP X pins σ Q) v s := by
  obtain ⟨r, H, I, rv, ⟨p, rfl⟩, q⟩ := h
  cases rv
  exact ⟨.ref p, H, I, rfl, q⟩
/-- a | b, both of one own class -/
def rOr1 (C : Addr) (sp : Sp) : R2 := fun x y H Q => ∃ a dx fs b dy gs, x = .ref a ∧ y = .ref b ∧ H a = some (.ins C dx fs) ∧ H b = some (.ins C dy gs) ∧ sp [.ref a, .ref b] H (fun r H2 => (∃ p, r = V.ref p) ∧ Q r H2) E0
theorem op_or1 (c : Cd X.prog X.w X.K X.mg X.base k d ps sp) (hr : Room k X.A) (hc : PySem.W.selfFirst X.K C = true) (hs : PySem.W.findIn X.K (.ref C) "__or__" = some (some (.ref (d.pl X.K)))) (hf : PySem.W.isFn X.K (.ref (d.pl X.K)) = true) : OpR X (binaryOp .BitOr) (rOr1 C sp) := by
  intro pins s σ H x y v u Q I rx ry h
  obtain ⟨a, dx, fs, b, dy, gs, rfl, rfl, ha, hb, q⟩ := h
  cases rx
  cases ry
  obtain ⟨fd, F, bd⟩ := c.ex
  obtain ⟨_, Ja, _⟩ := ins_get I.hok ha
  obtain ⟨_, Jb, _⟩ := ins_get I.hok hb
  obtain ⟨oda, Ja, _⟩ := Ja.look
  obtain ⟨odb, Jb, _⟩ := Jb.look
  obtain ⟨m, hF⟩ := I.fr
  refine PySem.W.binop_K (op := .BitOr) hF I.ok.mod.kin Ja Jb.type hc hs hf ?_
  exact wpAny_mono (run_fn (vs := [.ref a, .ref b]) (us := [.ref a, .ref b]) F hr bd .nil pass0 I (.cons rfl (.cons rfl .nil)) q) (fun v s2 z => back_of z) fun _ _ e => e
/-- a | b, of two own classes -/
def rOr2 (C D : Addr) (sp : Sp) : R2 := fun x y H Q => ∃ a dx fs b dy gs, x = .ref a ∧ y = .ref b ∧ H a = some (.ins C dx fs) ∧ H b = some (.ins D dy gs) ∧ sp [.ref a, .ref b] H (fun r H2 => (∃ p, r = V.ref p) ∧ Q r H2) E0
theorem op_or2 {f2 : Addr} (c : Cd X.prog X.w X.K X.mg X.base k d ps sp) (hr : Room k X.A) (hne : C ≠ D) (hc : PySem.W.selfFirst X.K C = true) (hd : PySem.W.selfFirst X.K D = true) (hs : PySem.W.findIn X.K (.ref C) "__or__" = some (some (.ref (d.pl X.K)))) (hf : PySem.W.isFn X.K (.ref (d.pl X.K)) = true)
    (hn : PySem.W.findIn X.K (.ref C) "__ror__" = some none) (hs2 : PySem.W.findIn X.K (.ref D) "__or__" = some (some (.ref f2))) (hn2 : PySem.W.findIn X.K (.ref D) "__ror__" = some none) (hsub : PySem.W.subIn X.K (.ref D) (.ref C) = some false) : OpR X (binaryOp .BitOr) (rOr2 C D sp) := by
  intro pins s σ H x y v u Q I rx ry h
  obtain ⟨a, dx, fs, b, dy, gs, rfl, rfl, ha, hb, q⟩ := h
  cases rx
  cases ry
  obtain ⟨fd, F, bd⟩ := c.ex
  obtain ⟨_, Ja, _⟩ := ins_get I.hok ha
  obtain ⟨_, Jb, _⟩ := ins_get I.hok hb
  obtain ⟨oda, Ja, _⟩ := Ja.look
  obtain ⟨odb, Jb, _⟩ := Jb.look
  obtain ⟨m, hF⟩ := I.fr
  refine bin_two (op := .BitOr) hF I.ok.mod.kin Ja Jb hne hc hd hs hf hn hs2 hn2 hsub ?_
  exact wpAny_mono (run_fn (vs := [.ref a, .ref b]) (us := [.ref a, .ref b]) F hr bd .nil pass0 I (.cons rfl (.cons rfl .nil)) q) (fun v s2 z => back_of z) fun _ _ e => e
theorem OpR.or {f : Value → Value → Sem Value} {r r2 : R2} (h : OpR X f r) (h2 : OpR X f r2) : OpR X f (fun x y H Q => r x y H Q ∨ r2 x y H Q) := fun pins s σ H x y v u Q I rx ry q => q.elim (h pins s σ H x y v u Q I rx ry) (h2 pins s σ H x y v u Q I rx ry)
end
end K21
set_option maxHeartbeats 4000000
/-! rules of my own: o.m(..) in short, o.m(k = e), min(d) -/
namespace K21
open PySem PySem.Spec PyProof.Rows L2 He
/-- a def that keeps its promise, its last parameter also by name -/
structure Ck (P : Program) (w : World) (K : Fg) (mg : Str → Option Value) (base : Heap) (k : Nat) (d : Df) (ps : List Str) (kn : Str) (sp : Sp) : Prop where
  ex : ∃ fd, FnOk P w K mg base CX0 k (d.pl K) fd ps sp ∧ Binds K fd ps [] ∧ ∀ (s : Shared) (a u : Value), BindsTo s fd ⟨[a], [(kn, u)]⟩ (ps.zip [a, u])
  kp : PySem.W.keepIn K (.ref (d.pl K)) = true
theorem Ck.cd {P : Program} {w : World} {K : Fg} {mg : Str → Option Value} {base : Heap} {k : Nat} {d : Df} {ps : List Str} {kn : Str} {sp : Sp} (c : Ck P w K mg base k d ps kn sp) : Cd P w K mg base k d ps sp := let ⟨fd, a, b, _⟩ := c.ex; ⟨⟨fd, a, b⟩, c.kp⟩
theorem kw_of {K : Fg} {x ql : Str} {pa : Arguments} {bd : List Stmt} {sc : Scope} {fa : Addr} {fd : FuncData} {ps : List Str} {kn : Str} (F : FunD K x ql pa bd sc [] [] fa fd)
    (h : ∀ (kV doc pm : Value) (an : Option Addr) (cdv ct a u : Value), bindArgs (PySem.W.fnOf x ql pa bd sc .none kV doc pm an cdv ct) ⟨[a], [(kn, u)]⟩ = pure (ps.zip [a, u])) (s : Shared) (a u : Value) : BindsTo s fd ⟨[a], [(kn, u)]⟩ (ps.zip [a, u]) := by
  obtain ⟨oc, od, dV, kV, doc, pm, an, cdv, ct, osl, rfl, lk, hcd, hD, hK⟩ := F.ex
  rcases hD with ⟨_, rfl⟩ | ⟨e, _⟩
  · exact .of_eq (h kV doc pm an cdv ct a u)
  · exact absurd rfl e
theorem Ck.of {P : Program} {w : World} {K : Fg} {mg : Str → Option Value} {base : Heap} {k : Nat} {d : Df} {ps : List Str} {kn : Str} {sp : Sp} {fd : FuncData} (F : DfAt K d fd) (c : FnOk P w K mg base CX0 k (d.pl K) fd ps sp) (b : Binds K fd ps [])
    (h : ∀ (s : Shared) (a u : Value), BindsTo s fd ⟨[a], [(kn, u)]⟩ (ps.zip [a, u])) : Ck P w K mg base k d ps kn sp := ⟨⟨fd, c, b, h⟩, F.kp⟩
/-- o.m(k = e) -/
def tMethW (C : Addr) (m : Str) (sp : Sp) (to te : TE) : TE := fun σ H Q => to σ H fun x H1 => ∃ a dx fs, x = .ref a ∧ H1 a = some (.ins C dx fs) ∧ fs.lookup m = none ∧ te σ H1 fun y H2 => sp [.ref a, y] H2 Q E0
section
variable {X : Cx} {k j : Nat} {d : Df} {ps : List Str} {sp : Sp} {m kn : Str} {pos apos kpos : Pos} {e o : Expr} {es : List Expr} {t : TA} {ta te : TE} {C : Addr}
theorem pe_mc {pl : Sem Bool} (c : Cd X.prog X.w X.K X.mg X.base k d ps sp) (cl : Cls X.K C) (hm : Meth X.K C m (d.pl X.K)) (hr : Room j X.A) (ho : PE X o ta) (ha : PA X (e :: es) t) (hk : k ≤ j := by decide)
    (hst : starEach (e :: es) X.env = (false, eval e X.env) :: starEach es X.env := by rfl) (hpl : (backTo pos (starEach es X.env)).any (·.1) = false := by rfl)
    (ht : eval (.Call (.Attribute o m apos) (e :: es) [] pos) X.env = (do
      let v ← eval o X.env
      standAt apos.atName
      let (f, first) ← holding [v] (getMethod v m pl)
      callWith pos f first (backTo pos (starEach (e :: es) X.env)) (backToKw pos (keywordEach [] X.env))) := by rfl) : PE X (.Call (.Attribute o m apos) (e :: es) [] pos) (tMeth C m sp [] E0 ta t) := by
  obtain ⟨fd, F, b⟩ := c.ex
  exact pe_meth (pl := pl) ho cl hm F (hr.mono hk) b .nil pass0 ha hst hpl ht
theorem pe_mc0 {pl : Sem Bool} (c : Cd X.prog X.w X.K X.mg X.base k d ps sp) (cl : Cls X.K C) (hm : Meth X.K C m (d.pl X.K)) (hr : Room j X.A) (ho : PE X o ta) (hk : k ≤ j := by decide)
    (ht : eval (.Call (.Attribute o m apos) [] [] pos) X.env = (do
      let v ← eval o X.env
      standAt apos.atName
      let (f, first) ← holding [v] (getMethod v m pl)
      callWith pos f first (backTo pos (starEach [] X.env)) (backToKw pos (keywordEach [] X.env))) := by rfl) : PE X (.Call (.Attribute o m apos) [] [] pos) (tMeth C m sp [] E0 ta tNil) := by
  obtain ⟨fd, F, b⟩ := c.ex
  exact pe_meth0 (pl := pl) ho cl hm F (hr.mono hk) b .nil pass0 ht
theorem pe_mkw {pl : Sem Bool} (c : Ck X.prog X.w X.K X.mg X.base k d ps kn sp) (cl : Cls X.K C) (hm : Meth X.K C m (d.pl X.K)) (hr : Room j X.A) (ho : PE X o ta) (he : PE X e te) (hk : k ≤ j := by decide)
    (hall : (backToKw pos (keywordEach [⟨some kn, e, kpos⟩] X.env)).all (·.1.isSome) = true := by rfl) (hks : (backToKw pos (keywordEach [⟨some kn, e, kpos⟩] X.env)).filterMap (·.1) = [kn] := by rfl)
    (hpl : ((backTo pos (starEach [] X.env)).any (·.1) || (backToKw pos (keywordEach [⟨some kn, e, kpos⟩] X.env)).any (·.1.isNone)) = false := by rfl)
    (ht : eval (.Call (.Attribute o m apos) [] [⟨some kn, e, kpos⟩] pos) X.env = (do
      let v ← eval o X.env
      standAt apos.atName
      let (f, first) ← holding [v] (getMethod v m pl)
      callWith pos f first (backTo pos (starEach [] X.env)) (backToKw pos (keywordEach [⟨some kn, e, kpos⟩] X.env))) := by rfl) : PE X (.Call (.Attribute o m apos) [] [⟨some kn, e, kpos⟩] pos) (tMethW C m sp ta te) := by
  obtain ⟨fd, F, b, kb⟩ := c.ex
  refine ⟨fun pins s σ H Q I h => ?_⟩
  refine PySem.W.methodCall_KW (pl := pl) (thn (ho.run pins s σ H _ I h) fun u s1 ⟨x, H1, I1, rx, a, dx, fs, ex, ea, l, q⟩ => ?_) ht
  subst ex
  obtain rfl : u = Value.ref a := rx
  refine getmeth_ok I1 ea cl hm l ?_
  refine PySem.W.callWith_KW0 (first := [.ref a]) (h₀ := X.base) I1.ok.mod.kin hm.kp hall ?_ hpl
  have hk1 : PK X [⟨some kn, e, kpos⟩] (tCons te tNil) := pk_cons he pk_nil
  refine thn (hk1.run pos pins s1 σ H1 (fun zs H2 => match zs with | [y] => sp [.ref a, y] H2 Q E0 | _ => False) I1 q) fun ws s2 ⟨zs, H2, I2, rz, q2⟩ => ⟨I2.kIn, ?_⟩
  · rw [hks]
    obtain ⟨y, rfl⟩ : ∃ y, zs = [y] := by
      match zs, q2 with
      | [y], _ => exact ⟨y, rfl⟩
    obtain ⟨u2, rfl, r2⟩ := vals1 rz
    have r3 : Vals [V.ref a, y] [Value.ref a, u2] := .cons rfl (.cons r2 .nil)
    show wpAny (model X.prog X.w) X.A (call (.ref (d.pl X.K)) [.ref a] [(kn, u2)]) (EP X pins σ Q) X.xe s2
    refine wpAny_call (codeAny_mono (F.run X.A X.stack s2 H2 ⟨[.ref a], [(kn, u2)]⟩ [.ref a, u2] _ Q E0 (hr.mono hk) I2.env0 (kb s2 _ _) r3 q2) fun r s3 hq => ?_)
    cases r with
    | error e => exact pass0 pins σ H2 s2 e s3 I2 hq
    | ok fl =>
      cases fl with
      | ret u => exact I2.after hq
      | next => exact False.elim hq
      | brk => exact False.elim hq
      | cont => exact False.elim hq
end
/-! ### min(d) -/
theorem arg_le (bt : Nat → Nat → Bool) : ∀ k, argBest bt k ≤ k
  | 0 => Nat.le_refl _
  | k + 1 => by
    have z := arg_le bt k
    unfold argBest
    split
    · exact Nat.le_refl _
    · omega
def rMinK : List V → Hp → VK → Prop := fun xs H Q => ∃ (a : Addr) (kvs : List (Key × V)) (ns : List Str), xs = [.ref a] ∧ Rd H a (.dK kvs) ∧ kvs.map (·.1) = ns.map Sum.inr ∧ 0 < ns.length ∧ ∀ y, y ∈ ns → Q (.str y) H
theorem cr_minK {X : Cx} (hc : X.calm = true) : CallR X (.builtin "min") rMinK := by
  intro pins s σ H xs us Q I r q
  obtain ⟨a, kvs, ns, ex, hd, hks, hpos, q⟩ := q
  subst ex
  obtain ⟨u, eu, rx⟩ := vals1 r
  subst eu
  cases rx
  obtain ⟨z, lo, vs, rel, dd⟩ := dk_rd I.hok hd
  obtain ⟨ep, hat⟩ := dd.dictAt
  have hkeys : vs.map (·.1) = ns.map Sum.inr := rel.keys.symm.trans hks
  have hl : vs.length = ns.length := by
    have e := congrArg List.length hkeys
    rw [List.length_map, List.length_map] at e
    exact e
  have hv : ∀ (i : Nat) (v : Value), (∃ k x, vs[i]? = some (k, x) ∧ (mixKind X.prog X.w).is k v = true) → ∃ y t, ns[i]? = some y ∧ v = .str y t := fun i v ⟨k, x, e1, e2⟩ => by
    have e3 : (vs.map (·.1))[i]? = some k := by
      rw [List.getElem?_map, e1]
      rfl
    rw [hkeys, List.getElem?_map] at e3
    cases e4 : ns[i]? with
    | none => rw [e4] at e3; cases e3
    | some y =>
      rw [e4] at e3
      have e5 : Sum.inr y = k := Option.some.inj e3
      subst e5
      obtain ⟨t, ev⟩ := Value.isStrOf_shape (x := y) (v := v) e2
      exact ⟨y, t, rfl, ev⟩
  have hlt : a < s.heap.objs.size := hat.lt_size
  refine call_min_walk (wpAny_pyIter_dict (knd := mixKind X.prog X.w) lo hat ?_)
  refine ⟨_, _, _, _, _, _, fun i j => decide ((ns.getD i Str.empty).cps.toList < (ns.getD j Str.empty).cps.toList), rfl, Walks.dictKeys (A := X.A.in1) (I.ok.hd hc) _ a (Nat.ne_of_lt hlt) vs ep, ⟨⟨_, Heap.get?_push_size _ rfl, rfl, rfl⟩, hat.push _⟩, fun b hb => ?_, by omega, fun i j vi vj s2 Q2 E2 hi hj hq => ?_, fun v h' tk hp hk => ?_⟩
  · show b < (s.heap.push _).objs.size
    rw [Heap.size_push]
    rcases List.mem_cons.mp hb with e | e
    · rw [e]
      exact Nat.lt_succ_self _
    · rw [List.mem_singleton.mp e]
      exact Nat.lt_succ_of_lt hlt
  · obtain ⟨y, t, e1, rfl⟩ := hv i vi hi
    obtain ⟨y2, t2, e2, rfl⟩ := hv j vj hj
    have w1 : ns.getD i Str.empty = y := by rw [List.getD_eq_getElem?_getD, e1] <;> rfl
    have w2 : ns.getD j Str.empty = y2 := by rw [List.getD_eq_getElem?_getD, e2] <;> rfl
    dsimp only at hq
    rw [w1, w2] at hq
    exact lt_str hq
  · obtain ⟨y, t, e1, rfl⟩ := hv _ v hp
    refine ⟨.str y, H, I.kept fun b o e => hk b o ?_ (Heap.get?_push_of_some _ e), ⟨t, rfl⟩, q y (List.mem_of_getElem? e1)⟩
    intro hm
    exact absurd (List.mem_singleton.mp hm) (Nat.ne_of_lt (Heap.lt_size e))
end K21
set_option maxHeartbeats 4000000
/-! promises of defs that need to know that no repr is under way -/
namespace K21
open PySem PySem.Spec PyProof.Rows L2 He
/-- FnOk where no guard is set -/
structure FnG (P : Program) (w : World) (K : Fg) (mg : Str → Option Value) (base : Heap) (k : Nat) (f : Addr) (fd : FuncData) (ps : List Str) (sp : Sp) : Prop where
  len : ∀ vs H Q E, sp vs H Q E → vs.length = ps.length
  run : ∀ (A : Around) (outer : List Env) (s : Shared) (H : Hp) (args : Args) (us : List Value) (vs : List V) (Q : VK) (E : XK), Room k A → A.guards = some [] → Env0 P w K mg base A outer s H → BindsTo s fd args (ps.zip us) → Vals vs us → sp vs H Q E →
    codeAny (model P w) A (.call (.ref f) args) (CR CX0 outer P w H s Q E) s
structure Cg (P : Program) (w : World) (K : Fg) (mg : Str → Option Value) (base : Heap) (k : Nat) (d : Df) (ps : List Str) (sp : Sp) : Prop where
  ex : ∃ fd, FnG P w K mg base k (d.pl K) fd ps sp ∧ Binds K fd ps []
  kp : PySem.W.keepIn K (.ref (d.pl K)) = true
theorem fnG_of {P : Program} {w : World} {K : Fg} {mg : Str → Option Value} {base : Heap} {k : Nat} {d : Df} {N ps : List Str} {sp : Sp} {fd : FuncData} (F : DfAt K d fd) (S : FnScope N ps (defScope d.st)) (len : ∀ vs H Q E, sp vs H Q E → vs.length = ps.length)
    (hbody : ∀ (cdv : Value) (A : Around) (outer : List Env) (s : Shared) (H : Hp) (vs : List V) (Q : VK) (E : XK), Room k (A.deeper (envOfC d.ql (defScope d.st) s.heap.objs.size (d.pl K) cdv)) → (A.deeper (envOfC d.ql (defScope d.st) s.heap.objs.size (d.pl K) cdv)).guards = some [] → sp vs H Q E →
      ∃ t, PSs (cxOf CX0 P w K mg base N d.ql (defScope d.st) (d.pl K) cdv A outer s H E).nox (defBody d.st) t ∧ t { nx := fun _ H' => Q .non H', rt := Q } (L2.start N vs) H) : FnG P w K mg base (k + 1) (d.pl K) fd ps sp := by
  obtain ⟨oc, od, dV, kV, doc, pm, an, cdv, ct, osl, rfl, lk, hcd, _, _⟩ := F.ex
  constructor
  · exact len
  intro A outer s H args us vs Q E hr hg e0 hb r hsp
  have hl := len _ _ _ _ hsp
  have kin : K.In s.heap := e0.mod.kin.keeps fun b o e => (e0.bs b o e).1
  have nol : s.heap.NoLimit := e0.mod.nolimit.keeps fun b o e => (e0.bs b o e).1
  have kinds : ∀ y ∈ ps.zip us, (defScope d.st).names.lookup y.1 = some .local ∨ ((defScope d.st).names.lookup y.1 = some .cell ∧ ((cellsFrom (s.heap.objs.size + 1) (defScope d.st).names []).lookup y.1).isSome = true) := by
    rintro ⟨n, v⟩ hy
    exact (S.par n (List.of_mem_zip hy).1).imp id fun q => ⟨q, PySem.W.cellsFrom_some _ _ _ (.inl q)⟩
  refine codeAny_call_function hr.depth (kin _ _ lk) rfl S.co S.gen rfl (PySem.W.codeRec_of kin hcd) (hb _ _ _ _ ?_)
  refine wpAny_newFunctionEnv_cells S.kind kinds fun env he s1 x => ?_
  subst he
  refine ⟨nol.keeps x.toInCall.keep, codeAny_func ?_⟩
  have hgd : (A.deeper (envOfC d.ql (defScope d.st) s.heap.objs.size (d.pl K) cdv)).guards = some [] := hg
  obtain ⟨t, ht0, hq⟩ := hbody cdv A outer s H vs Q E (hr.deeper _) hgd hsp
  have ht := ht0.nox
  have I0 : Inv (cxOf CX0 P w K mg base N d.ql (defScope d.st) (d.pl K) cdv A outer s H E) [] (L2.start N vs) H s1 := inv_start S hr.hd e0 hl r x
  refine wpAny_mono (ht.run [] s1 (L2.start N vs) H _ I0 hq) (fun fl s2 hs => ?_) fun e s2 hs => hs
  cases fl with
  | ret u =>
    obtain ⟨v, σ2, H2, J, rv, q⟩ := hs
    exact ⟨v, H2, J.os, J.bare, J.base, J.hok, rv, q⟩
  | next =>
    obtain ⟨σ2, H2, J, q⟩ := hs
    exact ⟨.non, H2, J.os, J.bare, J.base, J.hok, rfl, q⟩
  | brk => exact False.elim hs.choose_spec.choose_spec.2
  | cont => exact False.elim hs.choose_spec.choose_spec.2
theorem Cg.of {P : Program} {w : World} {K : Fg} {mg : Str → Option Value} {base : Heap} {k : Nat} {d : Df} {N ps : List Str} {sp : Sp} {fd : FuncData} (F : DfAt K d fd) (S : FnScope N ps (defScope d.st)) (b : Binds K fd ps []) (len : ∀ vs H Q E, sp vs H Q E → vs.length = ps.length)
    (hbody : ∀ (cdv : Value) (A : Around) (outer : List Env) (s : Shared) (H : Hp) (vs : List V) (Q : VK) (E : XK), Room k (A.deeper (envOfC d.ql (defScope d.st) s.heap.objs.size (d.pl K) cdv)) → (A.deeper (envOfC d.ql (defScope d.st) s.heap.objs.size (d.pl K) cdv)).guards = some [] → sp vs H Q E →
      ∃ t, PSs (cxOf CX0 P w K mg base N d.ql (defScope d.st) (d.pl K) cdv A outer s H E).nox (defBody d.st) t ∧ t { nx := fun _ H' => Q .non H', rt := Q } (L2.start N vs) H) : Cg P w K mg base (k + 1) d ps sp := ⟨⟨fd, fnG_of F S len hbody, b⟩, F.kp⟩
theorem FnG.mono {P : Program} {w : World} {K : Fg} {mg : Str → Option Value} {base : Heap} {j k : Nat} {f : Addr} {fd : FuncData} {ps : List Str} {sp : Sp} (F : FnG P w K mg base j f fd ps sp) (h : j ≤ k) : FnG P w K mg base k f fd ps sp :=
  ⟨F.len, fun A outer s H args us vs Q E hr => F.run A outer s H args us vs Q E (hr.mono h)⟩
section
variable {X : Cx} {k j : Nat} {d : Df} {ps : List Str} {sp : Sp} {x : Str} {p pos : Pos} {e : Expr} {es : List Expr} {t : TA} {f C : Addr} {fd : FuncData}
/-- a call somewhere below the running body -/
theorem run_g {A : Around} {pins : List (Addr × Obj)} {σ : L2.St} {H : Hp} {s : Shared} {Q : VK} {us : List Value} {vs : List V} (F : FnG X.prog X.w X.K X.mg X.base k f fd ps sp) (hr : Room k A) (hf : A.frames = X.A.frames) (hg : A.guards = some []) (hb : Binds X.K fd ps [])
    (I : Inv X pins σ H s) (r : Vals vs us) (h : sp vs H Q E0) : wpAny (model X.prog X.w) A (call (.ref f) us) (EP X pins σ Q) X.xe s := by
  have hl : (us ++ []).length = ps.length := by rw [List.append_nil, ← r.length]; exact F.len _ _ _ _ h
  have e0 : Env0 X.prog X.w X.K X.mg X.base A X.stack s H := by
    have z := I.env0
    exact ⟨by rw [hf]; exact z.frames, z.mod, z.bs, z.bsz, z.funs, z.frf, z.hok, z.bare⟩
  have hbd := hb s us I.kIn hl
  rw [List.append_nil] at hbd
  refine wpAny_call (codeAny_mono (F.run A X.stack s H ⟨us, []⟩ us vs Q E0 hr hg e0 hbd r h) fun r s2 hq => ?_)
  cases r with
  | error e => exact (pass0 (X := X) pins σ H s e s2 I hq)
  | ok fl =>
    cases fl with
    | ret u => exact I.after hq
    | next => exact False.elim hq
    | brk => exact False.elim hq
    | cont => exact False.elim hq
/-- f(e, ..) -/
theorem pe_cg (c : Cg X.prog X.w X.K X.mg X.base k d ps sp) (hr : Room j X.A) (hgd : X.A.guards = some []) (hm : X.mg x = some (.ref (d.pl X.K))) (ha : PA X (e :: es) t) (hk : k ≤ j := by decide) (hg : Gl X x := by rfl) (hdb : (x == ("__debug__" : Str)) = false := by decide)
    (he : starEach (e :: es) X.env = (false, eval e X.env) :: starEach es X.env := by rfl) (hpl : (backTo pos (starEach es X.env)).any (·.1) = false := by rfl) : PE X (.Call (.Name x p) (e :: es) [] pos) (tCall sp [] E0 t) := by
  obtain ⟨fd, F, b⟩ := c.ex
  refine ⟨fun pins s σ H Q I h => ?_⟩
  refine wpAny_Call_Name_kw (ld_glob I hg hm ?_ hdb)
  refine PySem.W.callWith_K (h₀ := X.base) I.ok.mod.kin c.kp (thn (ha.run pos pins s σ H _ I h) fun us s1 ⟨vs, H1, I1, r, q⟩ => ⟨I1.kIn, ?_⟩) he hpl
  have q1 : sp (vs ++ []) H1 Q E0 := q
  rw [List.append_nil] at q1
  exact run_g F (hr.mono hk) rfl hgd b I1 r q1

/-! ### repr -/
/-- repr(x), x of an own class with its own __repr__ -/
def rReprO (C : Addr) (sp : Sp) : List V → Hp → VK → Prop := fun xs H Q => ∃ a dx fs, xs = [.ref a] ∧ H a = some (.ins C dx fs) ∧ sp [.ref a] H (fun r H2 => (∃ y, r = V.str y) ∧ Q r H2) E0
theorem back_str {pins : List (Addr × Obj)} {σ : L2.St} {Q : VK} {v : Value} {s : Shared} (h : EP X pins σ (fun r H => (∃ y, r = V.str y) ∧ Q r H) v s) : PySem.W.StrBack (EP X pins σ Q) v s := by
  obtain ⟨r, H, I, rv, ⟨y, rfl⟩, q⟩ := h
  obtain ⟨t, rfl⟩ := rv
  exact ⟨.str y, H, I, ⟨t, rfl⟩, q⟩
theorem cr_reprO (c : Cg X.prog X.w X.K X.mg X.base k d ps sp) (hr : Room (k + 1) X.A) (hgd : X.A.guards = some []) (hs : PySem.W.findIn X.K (.ref C) "__repr__" = some (some (.ref (d.pl X.K)))) (hf : PySem.W.isFn X.K (.ref (d.pl X.K)) = true) : CallR X (.builtin "repr") (rReprO C sp) := by
  intro pins s σ H xs us Q I r h
  obtain ⟨a, dx, fs, rfl, ha, q⟩ := h
  rw [Vals.ref1 r]
  obtain ⟨fd, F, b⟩ := c.ex
  obtain ⟨_, J, _⟩ := ins_get I.hok ha
  obtain ⟨oda, J, _⟩ := J.look
  obtain ⟨m, hF⟩ := I.fr
  have hu : X.A.in1.units < cLine := by
    have z := hr.un
    show X.A.units + 1 < cLine
    omega
  refine PySem.W.repr_K hu hF I.ok.mod.kin J hs hf ?_
  exact wpAny_mono (run_g (A := X.A.in1) (vs := [.ref a]) (us := [.ref a]) F hr.in1 rfl hgd b I (.cons rfl .nil) q) (fun v s2 z => back_str z) fun _ _ e => e
theorem repr_own {A : Around} {E : Value → Shared → Prop} {s : Shared} {K : Fg} {a f C : Addr} {ob : Obj} {od : Option Obj} {Q : Value → Shared → Prop} {P : Program} {w : World} (hu : A.units < cLine) (X0 : K.In s.heap) (I : PySem.W.InstAt s.heap a ob C od)
    (hs : PySem.W.findIn K (.ref C) "__repr__" = some (some (.ref f))) (hf : PySem.W.isFn K (.ref f) = true) (h : wpAny (model P w) A (call (.ref f) [.ref a]) (PySem.W.StrBack Q) E s) : wpAny (model P w) A (pyReprObj (.ref a)) Q E s := by
  unfold pyReprObj
  refine wpAny_bind (wpAny_cRoomFor hu ?_)
  refine wpAny_bind (wpAny_bind (I.type.here ((PySem.W.looks_findIn X0 hs).here ?_)))
  show wpAny _ _ (if (some (Value.ref f)).isNone = true then _ else _) _ _ _
  rw [if_neg (by simp)]
  refine wpAny_bind (m := callSpecialIfBound? (.ref a) (Str.ofString "__repr__") _) (PySem.W.ifBound_K X0 I hs hf (wpAny_mono h (fun r s2 hr => ?_) fun _ _ y => y))
  cases r <;> first | exact hr.elim | skip
  exact wpAny_bind (wpAny_isInstance (T := "str") (b := true) (typeIs_str _ _ _) isSubtype_str_str (wpAny_pure hr))
/-- {x!r} -/
def tFmtO (C : Addr) (sp : Sp) (te : TE) : TE := fun σ H Q => te σ H fun x H1 => ∃ a dx fs, x = .ref a ∧ H1 a = some (.ins C dx fs) ∧ sp [.ref a] H1 (fun r H2 => ∃ y, r = V.str y ∧ y.length ≤ sizeLine ∧ Q (.str y) H2) E0
theorem pe_fmtO {te : TE} (c : Cg X.prog X.w X.K X.mg X.base k d ps sp) (hr : Room k X.A) (hgd : X.A.guards = some []) (hs : PySem.W.findIn X.K (.ref C) "__repr__" = some (some (.ref (d.pl X.K)))) (hf : PySem.W.isFn X.K (.ref (d.pl X.K)) = true) (he : PE X e te) :
    PE X (.FormattedValue e 114 none pos) (tFmtO C sp te) := by
  refine ⟨fun pins s σ H Q I h => ?_⟩
  refine wpAny_FormattedValue_repr (thn (he.run pins s σ H _ I h) fun v s1 ⟨x, H1, I1, r1, a, dx, fs, ex, ha, q⟩ => ?_)
  subst ex
  cases r1
  obtain ⟨fd, F, b⟩ := c.ex
  obtain ⟨_, J, _⟩ := ins_get I1.hok ha
  obtain ⟨oda, J, _⟩ := J.look
  have hu : X.A.units < cLine := by
    have z := hr.un
    omega
  refine repr_own hu I1.kIn J hs hf ?_
  refine wpAny_mono (run_g (A := X.A) (vs := [.ref a]) (us := [.ref a]) F hr rfl hgd b I1 (.cons rfl .nil) q) (fun v s2 z => ?_) fun _ _ e => e
  obtain ⟨r, H2, I2, rv, y, rfl, hz, q2⟩ := z
  obtain ⟨t, rfl⟩ := rv
  exact wpAny_formatField_str ⟨.str y, H2, I2, ⟨t, rfl⟩, q2⟩ ⟨.str y, H2, I2.tok _, ⟨_, rfl⟩, q2⟩ hz
end
end K21
set_option maxHeartbeats 4000000
/-! repr of tables, of lists of numbers and truths -/
namespace K21
open PySem PySem.Spec PyProof.Rows L2 He
/-- n has fewer than k bits -/
def Sz (k : Nat) (n : Int) : Prop := n.natAbs < 2 ^ k
theorem Sz.mono {j k : Nat} {n : Int} (h : Sz j n) (l : j ≤ k) : Sz k n := Nat.lt_of_lt_of_le h (Nat.pow_le_pow_right (by decide) l)
theorem Sz.add {k : Nat} {a b : Int} (h : Sz k a) (g : Sz k b) : Sz (k + 1) (a + b) := by
  unfold Sz at *
  have e : 2 ^ (k + 1) = 2 ^ k * 2 := Nat.pow_succ ..
  omega
theorem Sz.sub {k : Nat} {a b : Int} (h : Sz k a) (g : Sz k b) : Sz (k + 1) (a - b) := by
  unfold Sz at *
  have e : 2 ^ (k + 1) = 2 ^ k * 2 := Nat.pow_succ ..
  omega
theorem Sz.log {k : Nat} {n : Int} (hk : 0 < k) (h : Sz k n) : n.natAbs.log2 < k := by
  by_cases e : n.natAbs = 0
  · rw [e]
    exact hk
  · exact (Nat.log2_lt e).mpr h
theorem Sz.txt {n : Int} (h : Sz 300 n) : (PyData.shown (.int n)).length ≤ 310 := by
  have e := int_text_length_le (k := 300) (by decide) (h.log (by decide))
  show (Str.ofString (toString n)).length ≤ 310
  rw [PySem.ofString_length]
  omega
theorem Sz.wt {n : Int} (h : Sz 300 n) : PyData.weight (.int n) ≤ 300 := by
  have e := h.log (by decide)
  show (if (n == 0) = true then 0 else n.natAbs.log2 + 1) ≤ 300
  split
  · omega
  · omega
theorem Sz.show {n : Int} (h : Sz 300 n) : PyData.showable (.int n) = true := decide_eq_true (Nat.lt_trans (h.log (by decide)) (by decide))
theorem shown_fit {d : PyData} (h : d.leavesShort 310 = true) (w : d.weight ≤ 10000) : d.shown.length ≤ 4000000 := by
  have e := PyData.shown_le 310 (by decide) d h
  have e2 : (310 + 2) * d.weight ≤ 312 * 10000 := Nat.mul_le_mul_left _ w
  omega
/-! ### tables -/
def dat (ts : Tb) : List (PyData × PyData) := ts.map fun p => (PyData.str p.1, PyData.int p.2)
def txD (ts : Tb) : Str := (PyData.dict (dat ts)).shown
structure TbOk (ts : Tb) : Prop where
  v : ∀ p ∈ ts, VN p.1
  z : ∀ p ∈ ts, Sz 300 p.2
  len : ts.length ≤ 20
theorem VN.cod {x : Str} (h : VN x) : PyData.leavesShort 310 (.str x) = true := by
  show (x.cps.toList.all fun c => decide (c < 16 ^ 8)) = true
  rw [List.all_eq_true]
  intro c hc
  have z := h.az c hc
  have e : (16 : Nat) ^ 8 = 4294967296 := by decide
  exact decide_eq_true (by omega)
theorem dat_short : ∀ {ts : Tb}, (∀ p ∈ ts, VN p.1) → (∀ p ∈ ts, Sz 300 p.2) → PyData.leavesShortKv 310 (dat ts) = true
  | [], _, _ => rfl
  | p :: r, h, g => by
    show (PyData.leavesShort 310 (.str p.1) && PyData.leavesShort 310 (.int p.2) && PyData.leavesShortKv 310 (dat r)) = true
    rw [(h p List.mem_cons_self).cod, dat_short (ts := r) (fun q hq => h q (List.mem_cons_of_mem _ hq)) fun q hq => g q (List.mem_cons_of_mem _ hq)]
    show (decide ((PyData.shown (.int p.2)).length ≤ 310) && true) = true
    rw [decide_eq_true (g p List.mem_cons_self).txt]
    rfl
theorem dat_wt : ∀ {ts : Tb}, (∀ p ∈ ts, VN p.1) → (∀ p ∈ ts, Sz 300 p.2) → PyData.weightKv (dat ts) ≤ 310 * ts.length
  | [], _, _ => Nat.le_refl _
  | p :: r, h, g => by
    have a := dat_wt (ts := r) (fun q hq => h q (List.mem_cons_of_mem _ hq)) fun q hq => g q (List.mem_cons_of_mem _ hq)
    have b := (g p List.mem_cons_self).wt
    have c : p.1.cps.size ≤ 8 := (h p List.mem_cons_self).hi
    show p.1.cps.size + PyData.weight (.int p.2) + 2 + PyData.weightKv (dat r) ≤ 310 * (r.length + 1)
    omega
theorem dat_show : ∀ {ts : Tb}, (∀ p ∈ ts, Sz 300 p.2) → PyData.showableKv (dat ts) = true
  | [], _ => rfl
  | p :: r, g => by
    show (true && PyData.showable (.int p.2) && PyData.showableKv (dat r)) = true
    rw [(g p List.mem_cons_self).show, dat_show (ts := r) fun q hq => g q (List.mem_cons_of_mem _ hq)]
    rfl
theorem dat_depth : ∀ ts : Tb, PyData.depthKv (dat ts) = 0
  | [] => rfl
  | p :: r => by
    show max (max 0 0) (PyData.depthKv (dat r)) = 0
    rw [dat_depth r]
    rfl
theorem TbOk.fit {ts : Tb} (h : TbOk ts) : (txD ts).length ≤ 4000000 := by
  have l := h.len
  refine shown_fit (d := .dict (dat ts)) (dat_short h.v h.z) ?_
  have z := dat_wt h.v h.z
  show PyData.weightKv (dat ts) ≤ 10000
  omega
theorem dat_reads {P : Program} {w : World} {h : Heap} : ∀ {ts : Tb} {vs : List (Key × Value)} {es : List DictEntry}, KV (dk ts) vs → PySem.Pairs (mixKind P w) es vs →
    ReadsAll h (es.map (·.key)) ((dat ts).map (·.1)) [] ∧ ReadsAll h (es.map (·.val)) ((dat ts).map (·.2)) []
  | [], _, _, .nil, .nil => ⟨.nil, .nil⟩
  | p :: r, _, _, .cons hv t, .cons h1 h2 t2 => by
    obtain ⟨q1, q2⟩ := dat_reads (ts := r) t t2
    obtain ⟨e1, e2⟩ := hv
    rename_i b bs e es
    obtain ⟨tv, ev⟩ : ∃ tv, e.val = .int p.2 tv := by
      obtain ⟨tv, z⟩ := e2
      exact ⟨tv, by rw [h2, z]⟩
    obtain ⟨tk, ek⟩ : ∃ tk, e.key = .str p.1 tk := by
      have z : b.1 = Sum.inr p.1 := e1.symm
      rw [z] at h1
      exact Value.isStrOf_shape (x := p.1) (v := e.key) h1
    constructor
    · show ReadsAll h (e.key :: es.map (·.key)) (PyData.str p.1 :: (dat r).map (·.1)) ([] ++ [])
      rw [ek]
      exact .cons (.str _ _) q1
    · show ReadsAll h (e.val :: es.map (·.val)) (PyData.int p.2 :: (dat r).map (·.2)) ([] ++ [])
      rw [ev]
      exact .cons (.int _ _) q2
section
variable {X : Cx} {pins : List (Addr × Obj)} {σ : L2.St} {H : Hp} {s : Shared} {Q : VK} {a : Addr} {ts : Tb}
theorem tb_reads (I : Inv X pins σ H s) (hd : Rd H a (.dK (dk ts))) : (a == sysModules) = false ∧ Reads s.heap (.ref a) (.dict (dat ts)) [a] := by
  obtain ⟨_, lo, vs, rel, o, es, ep, h1, h2, h3, h4, h5, h6⟩ := dk_rd I.hok hd
  obtain ⟨q1, q2⟩ := dat_reads (h := s.heap) rel h5
  exact ⟨lo, .dict h1 h2.1 h3 q1 q2⟩
theorem only_a {lo : (a == sysModules) = false} : sysModules ∉ [a] := fun z => by
  have e := List.mem_singleton.mp z
  rw [← e] at lo
  simp at lo
/-- repr(d) -/
def rReprT : List V → Hp → VK → Prop := fun xs H Q => ∃ a ts, xs = [.ref a] ∧ Rd H a (.dK (dk ts)) ∧ TbOk ts ∧ Q (.str (txD ts)) H
theorem cr_reprT (hgd : X.A.guards = some []) (hu : X.A.units + 64 < cLine) : CallR X (.builtin "repr") rReprT := by
  intro pins s σ H xs us Q I r h
  obtain ⟨a, ts, rfl, hd, ok, q⟩ := h
  rw [Vals.ref1 r]
  obtain ⟨lo, rd⟩ := tb_reads I hd
  refine repr_of_reads' rd (dat_show ok.z) (fun _ => only_a (lo := lo)) hgd ?_ (fun _ _ e => e) (fun h' u tk hk => ⟨.str (txD ts), H, I.kept hk, ⟨u, rfl⟩, q⟩) (Nat.le_trans ok.fit (by decide))
  show X.A.units + (PyData.depthKv (dat ts) + 1 + 1) < cLine
  rw [dat_depth]
  omega
/-- {d!r} -/
def tFmtT (te : TE) : TE := fun σ H Q => te σ H fun x H1 => ∃ a ts, x = .ref a ∧ Rd H1 a (.dK (dk ts)) ∧ TbOk ts ∧ Q (.str (txD ts)) H1
theorem pe_fmtT {e : Expr} {pos : Pos} {te : TE} (hgd : X.A.guards = some []) (hu : X.A.units + 64 < cLine) (he : PE X e te) : PE X (.FormattedValue e 114 none pos) (tFmtT te) := by
  refine ⟨fun pins s σ H Q I h => ?_⟩
  refine wpAny_FormattedValue_repr (thn (he.run pins s σ H _ I h) fun v s1 ⟨x, H1, I1, r1, a, ts, ex, hd, ok, q⟩ => ?_)
  subst ex
  cases r1
  obtain ⟨lo, rd⟩ := tb_reads I1 hd
  have hz : (txD ts).length ≤ sizeLine := Nat.le_trans ok.fit (by decide)
  refine pyReprObj_of_reads rd (dat_show ok.z) (fun _ => only_a (lo := lo)) hgd ?_ (fun _ _ e => e) (fun h' u tk hk => ?_) hz
  · show X.A.units + (PyData.depthKv (dat ts) + 1) < cLine
    rw [dat_depth]
    omega
  · have I2 : Inv X pins σ H1 { s1 with heap := h', toks := tk } := I1.kept hk
    exact wpAny_formatField_str ⟨.str (txD ts), H1, I2, ⟨u, rfl⟩, q⟩ ⟨.str (txD ts), H1, I2.tok _, ⟨_, rfl⟩, q⟩ hz
/-! ### lists of numbers and truths -/
/-- a number or a truth -/
def dn : Int ⊕ Bool → PyData
  | .inl n => .int n
  | .inr b => .bool b
def vn : Int ⊕ Bool → V
  | .inl n => .int n
  | .inr b => .bl b
def NbOk : Int ⊕ Bool → Prop
  | .inl n => Sz 300 n
  | .inr _ => True
def txL (zs : List (Int ⊕ Bool)) : Str := (PyData.list (zs.map dn)).shown
theorem nb_dp {K : Fg} : ∀ zs : List (Int ⊕ Bool), DpAll K H (zs.map vn) (zs.map dn)
  | [] => .nil
  | .inl n :: r => .cons (.int n) (nb_dp r)
  | .inr b :: r => .cons (.bl b) (nb_dp r)
theorem nb_short : ∀ {zs : List (Int ⊕ Bool)}, (∀ z ∈ zs, NbOk z) → PyData.leavesShortAll 310 (zs.map dn) = true
  | [], _ => rfl
  | .inl n :: r, h => by
    have z : Sz 300 n := h (.inl n) List.mem_cons_self
    show (decide ((PyData.shown (.int n)).length ≤ 310) && PyData.leavesShortAll 310 (r.map dn)) = true
    rw [decide_eq_true z.txt, nb_short (zs := r) fun q hq => h q (List.mem_cons_of_mem _ hq)]
    rfl
  | .inr b :: r, h => by
    show (true && PyData.leavesShortAll 310 (r.map dn)) = true
    rw [nb_short (zs := r) fun q hq => h q (List.mem_cons_of_mem _ hq)]
    rfl
theorem nb_show : ∀ {zs : List (Int ⊕ Bool)}, (∀ z ∈ zs, NbOk z) → PyData.showableAll (zs.map dn) = true
  | [], _ => rfl
  | .inl n :: r, h => by
    have z : Sz 300 n := h (.inl n) List.mem_cons_self
    show (PyData.showable (.int n) && PyData.showableAll (r.map dn)) = true
    rw [z.show, nb_show (zs := r) fun q hq => h q (List.mem_cons_of_mem _ hq)]
    rfl
  | .inr b :: r, h => by
    show (true && PyData.showableAll (r.map dn)) = true
    rw [nb_show (zs := r) fun q hq => h q (List.mem_cons_of_mem _ hq)]
    rfl
theorem nb_wt : ∀ {zs : List (Int ⊕ Bool)}, (∀ z ∈ zs, NbOk z) → PyData.weightAll (zs.map dn) ≤ 301 * zs.length
  | [], _ => Nat.le_refl _
  | .inl n :: r, h => by
    have z : Sz 300 n := h (.inl n) List.mem_cons_self
    have a := z.wt
    have b := nb_wt (zs := r) fun q hq => h q (List.mem_cons_of_mem _ hq)
    show PyData.weight (.int n) + 1 + PyData.weightAll (r.map dn) ≤ 301 * (r.length + 1)
    omega
  | .inr c :: r, h => by
    have b := nb_wt (zs := r) fun q hq => h q (List.mem_cons_of_mem _ hq)
    show 0 + 1 + PyData.weightAll (r.map dn) ≤ 301 * (r.length + 1)
    omega
theorem nb_depth : ∀ zs : List (Int ⊕ Bool), PyData.depthAll (zs.map dn) = 0
  | [] => rfl
  | .inl n :: r => by
    show max 0 (PyData.depthAll (r.map dn)) = 0
    rw [nb_depth r]
    rfl
  | .inr n :: r => by
    show max 0 (PyData.depthAll (r.map dn)) = 0
    rw [nb_depth r]
    rfl
theorem nb_dict : ∀ zs : List (Int ⊕ Bool), PyData.hasDictAll (zs.map dn) = false
  | [] => rfl
  | .inl n :: r => by
    show (false || PyData.hasDictAll (r.map dn)) = false
    rw [nb_dict r]
    rfl
  | .inr n :: r => by
    show (false || PyData.hasDictAll (r.map dn)) = false
    rw [nb_dict r]
    rfl
/-- repr(l) -/
def rReprL (K : Fg) : List V → Hp → VK → Prop := fun xs H Q => ∃ a zs, xs = [.ref a] ∧ SqL K H a (zs.map vn) ∧ (∀ z ∈ zs, NbOk z) ∧ zs.length ≤ 30 ∧ Q (.str (txL zs)) H
theorem cr_reprL (hgd : X.A.guards = some []) (hu : X.A.units + 64 < cLine) : CallR X (.builtin "repr") (rReprL X.K) := by
  intro pins s σ H xs us Q I r h
  obtain ⟨a, zs, rfl, hs, ok, len, q⟩ := h
  rw [Vals.ref1 r]
  obtain ⟨as, rd⟩ := Dp.reads I (.list (zs.map dn)) (.ref a) (.ref a) (.lst hs (nb_dp zs)) rfl
  have fit : (txL zs).length ≤ 4000000 := by
    refine shown_fit (d := .list (zs.map dn)) (nb_short ok) ?_
    have z := nb_wt ok
    show PyData.weightAll (zs.map dn) ≤ 10000
    omega
  refine repr_of_reads' rd (nb_show ok) (PyData.noDict_hsm (d := .list (zs.map dn)) (nb_dict zs)) hgd ?_ (fun _ _ e => e) (fun h' u tk hk => ⟨.str (txL zs), H, I.kept hk, ⟨u, rfl⟩, q⟩) (Nat.le_trans fit (by decide))
  show X.A.units + (PyData.depthAll (zs.map dn) + 1 + 1) < cLine
  rw [nb_depth]
  omega
end
end K21
set_option maxHeartbeats 4000000
/-! Term; as_earliest -/
namespace K21
open PySem PySem.Spec PyProof.Rows L2 He
theorem sh_one {m : Str} {n : Int} (h : VN m) : Sh [(m, n)] := ⟨(fun e => nomatch e), fun p hp => by rw [List.mem_singleton.mp hp]; exact h, by show 1 ≤ 8; decide, List.nodup_cons.mpr ⟨List.not_mem_nil, List.nodup_nil⟩⟩
theorem perm_one {m : Str} {n : Int} {tt : Tb} (h : Srt [(m, n)] tt) : tt = [(m, n)] := List.perm_singleton.mp h.1
/-- an Earliest, or a Term taken for one -/
def EarLike (K : Fg) (H : Hp) (v : Addr) (tt : Tb) : Prop := EarAt K H v tt ∨ ∃ m n, TermAt K H v m n ∧ VN m ∧ tt = [(m, n)]
section
variable {P : Program} {w : World} {K : Fg} {mg : Str → Option Value} {base : Heap}
/-! ### Term -/
def spTmom (K : Fg) : Sp := fun vs H Q _ => ∃ t m n, vs = [.ref t] ∧ TermAt K H t m n ∧ Q (.str m) H
def spTshi (K : Fg) : Sp := fun vs H Q _ => ∃ t m n, vs = [.ref t] ∧ TermAt K H t m n ∧ Q (.int n) H
theorem sc_tmom : FnScope ["self"] ["self"] (defScope dTermmoment.st) := ⟨rfl, rfl, rfl, by decide +kernel, rfl, by decide +kernel, by decide +kernel⟩
theorem sc_tshi : FnScope ["self"] ["self"] (defScope dTermshift.st) := ⟨rfl, rfl, rfl, by decide +kernel, rfl, by decide +kernel, by decide +kernel⟩
theorem ok_tmom (T : Tx K mg) : Cd P w K mg base 1 dTermmoment ["self"] (spTmom K) := by
  obtain ⟨fd, F⟩ := T.dTermmoment
  refine .of F sc_tmom (F.bindsN fun _ _ _ _ _ _ us hl => match us, hl with | [_], _ => rfl) (fun vs H Q E h => ?_) (fun cdv A outer s H vs Q E hr h => ?_)
  · obtain ⟨_, _, _, rfl, _⟩ := h
    rfl
  · obtain ⟨t, m, n, rfl, ⟨dx, e⟩, q⟩ := h
    exact ⟨_, pss_one (ps_ret (pe_fld (pv 0) rfl)), _, rfl, t, _, dx, _, _, rfl, e, T.c_Term, T.no_Term_own_moment, rfl, q⟩
theorem ok_tshi (T : Tx K mg) : Cd P w K mg base 1 dTermshift ["self"] (spTshi K) := by
  obtain ⟨fd, F⟩ := T.dTermshift
  refine .of F sc_tshi (F.bindsN fun _ _ _ _ _ _ us hl => match us, hl with | [_], _ => rfl) (fun vs H Q E h => ?_) (fun cdv A outer s H vs Q E hr h => ?_)
  · obtain ⟨_, _, _, rfl, _⟩ := h
    rfl
  · obtain ⟨t, m, n, rfl, ⟨dx, e⟩, q⟩ := h
    exact ⟨_, pss_one (ps_ret (pe_fld (pv 0) rfl)), _, rfl, t, _, dx, _, _, rfl, e, T.c_Term, T.no_Term_own_shift, rfl, q⟩
def spTermInit (K : Fg) : Sp := fun vs H Q _ => ∃ x dx m n, vs = [.ref x, .str m, .int n] ∧ H x = some (.ins (cT K) dx []) ∧ VN m ∧ ∀ H', (∀ b o, b ≠ x → H b = some o → H' b = some o) → TermAt K H' x m n → Q .non H'
theorem sc_term_init : FnScope ["self", "moment", "shift"] ["self", "moment", "shift"] (defScope dTermInit.st) := ⟨rfl, rfl, rfl, by decide +kernel, rfl, by decide +kernel, by decide +kernel⟩
theorem ok_term_init (T : Tx K mg) : Cd P w K mg base 3 dTermInit ["self", "moment", "shift"] (spTermInit K) := by
  obtain ⟨fd, F⟩ := T.dTermInit
  have cN : Cd P w K mg base 1 dIsName ["value"] spName := ok_is_name T
  have cW : Cd P w K mg base 2 dWantShift ["value"] spWantShift := ok_want_shift T
  have hb : Binds K fd ["self", "moment", "shift"] [] := by
    obtain ⟨ds, v, b⟩ := F.binds1 (ps := ["self", "moment", "shift"]) 3 1 (fun e => nomatch e) rfl fun _ _ _ _ _ _ _ us its h1 h2 => match us, its, h1, h2 with | [_, _, _], [_], _, _ => ⟨_, rfl, rfl⟩
    cases v
    exact b
  refine .of F sc_term_init hb (fun vs H Q E h => ?_) (fun cdv A outer s H vs Q E hr h => ?_)
  · obtain ⟨_, _, _, _, rfl, _⟩ := h
    rfl
  · obtain ⟨x, dx, m, n, rfl, hx, hm, q⟩ := h
    refine ⟨_, pss_cons (ps_if (pt_not (pt_val (pe_cd cN hr T.g_is_name (pa_cons (pv 1) pa_nil)))) pss_never pss_nil) (pss_cons (ps_expr (pe_cd cW hr T.g_want_shift (pa_cons (pv 2) pa_nil)))
      (pss_cons (ps_fld (pv 0) (pv 1) rfl) (pss_one (ps_fld (pv 0) (pv 2) rfl)))), ?_⟩
    refine ⟨_, rfl, m, rfl, hm, fun H1 s1 => ⟨true, rfl, iteF ?_⟩⟩
    refine ⟨_, rfl, n, rfl, ?_⟩
    refine ⟨_, rfl, _, rfl, x, cT K, dx, [], rfl, s1 _ _ hx, T.c_Term, T.no_Term_own_moment, by show 0 < 1000; decide, ?_⟩
    refine ⟨_, rfl, _, rfl, x, cT K, dx, _, rfl, upd_same, T.c_Term, T.no_Term_own_shift, by show 1 < 1000; decide, ?_⟩
    exact q _ (fun b o nb e => by rw [upd_ne nb, upd_ne nb]; exact s1 _ _ e) ⟨dx, by rw [upd_same]; rfl⟩
/-- what a caller of Term(.., ..) gets -/
theorem mkT {H : Hp} {x dx : Addr} {m : Str} {n : Int} {Q : VK} {E : XK} (hm : VN m) (nx : H x = none) (ndx : H dx = none) (k : ∀ H', Same H H' → TermAt K H' x m n → Q (.ref x) H') :
    spTermInit K (.ref x :: ([.str m, .int n] ++ [])) (upd (upd H dx (.own x)) x (.ins (cT K) dx [])) (fun v H2 => v = .non ∧ Q (.ref x) H2) E :=
  ⟨x, dx, m, n, rfl, upd_same, hm, fun H' h2 h3 => ⟨rfl, k H' (made_same nx ndx h2) h3⟩⟩
/-! ### as_earliest -/
def spAs (K : Fg) : Sp := fun vs H Q _ => ∃ v tt, vs = [.ref v] ∧ EarLike K H v tt ∧ ∀ H' e, Same H H' → EarAt K H' e tt → Q (.ref e) H'
theorem sc_as : FnScope ["value"] ["value"] (defScope dAsEarliest.st) := ⟨rfl, rfl, rfl, by decide +kernel, rfl, by decide +kernel, by decide +kernel⟩
theorem ok_as (T : Tx K mg) : Cd P w K mg base 5 dAsEarliest ["value"] (spAs K) := by
  obtain ⟨fd, F⟩ := T.dAsEarliest
  have cM : Cd P w K mg base 1 dTermmoment ["self"] (spTmom K) := ok_tmom T
  have cS : Cd P w K mg base 1 dTermshift ["self"] (spTshi K) := ok_tshi T
  have cI : Cd P w K mg base 3 dEarliestInit ["self", "shifts"] (spEarInit K) := ok_ear_init T
  refine .of F sc_as (F.bindsN fun _ _ _ _ _ _ us hl => match us, hl with | [_], _ => rfl) (fun vs H Q E h => ?_) (fun cdv A outer s H vs Q E hr h => ?_)
  · obtain ⟨_, _, rfl, _⟩ := h
    rfl
  · obtain ⟨v, tt, rfl, hv, q⟩ := h
    refine ⟨_, pss_one (ps_ret (pe_ifExp (pt_val (pe_callB call_isi (by rfl) T.n_isinstance bt_isinstance (pa_cons (pv 0) (pa_cons (pe_gk (v := .ref (cE K)) ⟨_, T.g_Earliest, rfl⟩) pa_nil)))) (pv 0)
      (pe_mkc cI T.mk_Earliest hr T.g_Earliest (pa_cons (pe_disp (pps_cons (pe_prc cM T.c_Term T.p_Term_moment hr (pv 0)) (pe_prc cS T.c_Term T.p_Term_shift hr (pv 0)) pps_nil) rfl rfl (fun e => nomatch e) (by decide)) pa_nil)))), ?_⟩
    rcases hv with he | ⟨m, n, ht, hm, rfl⟩
    · obtain ⟨d, dx, e1, e2⟩ := id he
      refine ⟨_, rfl, _, _, _, _, _, rfl, .own _, .base (.ins e1 T.c_Earliest T.is_Earliest.a T.is_Earliest.b T.is_Earliest.c T.is_Earliest.d), T.kitOne_Earliest_Earliest, true, rfl, iteT ⟨_, rfl, ?_⟩⟩
      exact q H v (fun _ _ e => e) he
    · obtain ⟨dx, e1⟩ := id ht
      refine ⟨_, rfl, _, _, _, _, _, rfl, .own _, .base (.ins e1 T.c_Term T.is_Term.a T.is_Term.b T.is_Term.c T.is_Term.d), T.kitOne_Term_Earliest, false, rfl, iteF ?_⟩
      intro p np
      have s1 : Same H (upd H p (.dK [])) := new_same np
      have e2 := s1 _ _ e1
      refine ⟨_, rfl, v, dx, _, rfl, e2, v, m, n, rfl, ⟨dx, e2⟩, ?_⟩
      refine ⟨_, rfl, v, dx, _, rfl, e2, v, m, n, rfl, ⟨dx, e2⟩, ?_⟩
      refine ⟨upd_same, [(Sum.inr m, .int n)], rfl, by show 1 ≤ 15; decide, fun x y nx ny ne => ?_⟩
      refine mkE (ss := [(m, n)]) (by rw [upd_same]; rfl) (sh_one hm) nx ny ne fun H' tt h1 h2 h3 => ?_
      have et := perm_one h1
      subst et
      exact q H' x ((s1.wr np).trans h2) h3
end
end K21
set_option maxHeartbeats 4000000
/-! Earliest: shifts, term_values, a call, | -/
namespace K21
open PySem PySem.Spec PyProof.Rows L2 He
theorem same_id {H : Hp} : Same H H := fun _ _ e => e
theorem off_lock {H : Hp} {a d : Addr} {u v f : HO} (h : H a = some u) (g : H d = some v) (n : u ≠ v) : upd H d f a = some u := by
  rw [upd_ne fun e => n (by rw [e, g] at h; exact (Option.some.inj h).symm)]
  exact h
theorem dk_vals (ts : Tb) : (dk ts).map (·.2) = (ts.map (·.2)).map V.int := by
  unfold dk
  rw [List.map_map, List.map_map]
  rfl
def IsMin (l : List Int) (m : Int) : Prop := m ∈ l ∧ ∀ y ∈ l, m ≤ y
/-- the moments' values -/
def tvs (tt ss : Tb) : Tb := tt.map fun p => (p.1, (lk ss p.1).getD 0 + p.2)
theorem ks_tvs (tt ss : Tb) : ks (tvs tt ss) = ks tt := by
  unfold ks tvs
  rw [List.map_map]
  rfl
theorem Sh.srt {ss tt : Tb} (S : Sh ss) (h : Srt ss tt) : Sh tt := ⟨h.ne S.ne, h.allV S.v, by rw [h.len]; exact S.len, h.nodup S.nd⟩
theorem Srt.trans {a b c : Tb} (h : Srt a b) (g : Srt b c) : Srt a c := ⟨g.1.trans h.1, g.2⟩
theorem prs_of {H : Hp} : ∀ {ts : List Addr} {ss : Tb}, Paired (fun (t : Addr) (q : Key × V) => H t = some (.tup [kV q.1, q.2])) ts (dk ss) → Prs2 H ts ss
  | [], [], _ => .nil
  | _ :: _, [], h => by cases h
  | [], _ :: _, h => by cases h
  | _ :: _, p :: r, h => by
    have h2 : Paired (fun (t : Addr) (q : Key × V) => H t = some (.tup [kV q.1, q.2])) _ ((Sum.inr p.1, V.int p.2) :: dk r) := h
    cases h2 with
    | cons a b => exact .cons a (prs_of b)
theorem prs_cat {H : Hp} {ts us : List Addr} {ss tt : Tb} (h : Prs2 H ts ss) (g : Prs2 H us tt) : Prs2 H (ts ++ us) (ss ++ tt) := by
  unfold Prs2 at h
  induction h with
  | nil => exact g
  | cons a b ih => exact .cons a ih
theorem prs_same {H H' : Hp} {ts : List Addr} {ss : Tb} (s : Same H H') (h : Prs2 H ts ss) : Prs2 H' ts ss := paired_imp (fun _ _ e => s _ _ e) h
section
variable {P : Program} {w : World} {K : Fg} {mg : Str → Option Value} {base : Heap}
/-! ### shifts() -/
def spShifts (K : Fg) : Sp := fun vs H Q _ => ∃ e tt, vs = [.ref e] ∧ EarAt K H e tt ∧ ∀ H' p, Same H H' → H p = none → H' p = some (.dK (dk tt)) → Q (.ref p) H'
theorem sc_shifts : FnScope ["self"] ["self"] (defScope dEarliestshifts.st) := ⟨rfl, rfl, rfl, by decide +kernel, rfl, by decide +kernel, by decide +kernel⟩
theorem ok_shifts (T : Tx K mg) : Cd P w K mg base 1 dEarliestshifts ["self"] (spShifts K) := by
  obtain ⟨fd, F⟩ := T.dEarliestshifts
  refine .of F sc_shifts (F.bindsN fun _ _ _ _ _ _ us hl => match us, hl with | [_], _ => rfl) (fun vs H Q E h => ?_) (fun cdv A outer s H vs Q E hr h => ?_)
  · obtain ⟨_, _, rfl, _⟩ := h
    rfl
  · obtain ⟨e, tt, rfl, ⟨d, dx, e1, e2⟩, q⟩ := h
    refine ⟨_, pss_one (ps_ret (pe_callTy call_dictD (by rfl) T.n_dict bt_dict (pa_cons (pe_fld (pv 0) rfl) pa_nil))), ?_⟩
    refine ⟨_, rfl, e, _, dx, _, _, rfl, e1, T.c_Earliest, T.no_Earliest_own_shifts, rfl, d, _, rfl, .inl e2, fun p np => ?_⟩
    exact q _ p (new_same np) np upd_same
/-! ### term_values -/
def spTv (K : Fg) : Sp := fun vs H Q _ => ∃ e d tt ss, vs = [.ref e, .ref d] ∧ EarAt K H e tt ∧ Sh tt ∧ H d = some (.dK (dk ss)) ∧ ss ≠ [] ∧ AllV ss ∧ ss.length ≤ 1000 ∧ (∀ x ∈ ks tt, x ∈ ks ss) ∧
  ∀ H' p, Same H H' → H p = none → H' p = some (.dK (dk (tvs tt ss))) → Q (.ref p) H'
theorem sc_tv : FnScope ["self", "times", "moment", "shift"] ["self", "times"] (defScope dEarliesttermValues.st) := ⟨rfl, rfl, rfl, by decide +kernel, rfl, by decide +kernel, by decide +kernel⟩
theorem ok_tv (T : Tx K mg) : Cd P w K mg base 4 dEarliesttermValues ["self", "times"] (spTv K) := by
  obtain ⟨fd, F⟩ := T.dEarliesttermValues
  have cW : Cd P w K mg base 3 dWantTimes ["value", "moments"] (spWantTimes K) := ok_want_times T
  refine .of F sc_tv (F.bindsN fun _ _ _ _ _ _ us hl => match us, hl with | [_, _], _ => rfl) (fun vs H Q E h => ?_) (fun cdv A outer s H vs Q E hr h => ?_)
  · obtain ⟨_, _, _, _, rfl, _⟩ := h
    rfl
  · obtain ⟨e, d, tt, ss, rfl, ⟨f, dx, e1, e2⟩, S, hd, h0, hv, hl, hx, q⟩ := h
    have hu := hu_of hr
    have S8 := S.len
    refine ⟨_, pss_cons (ps_expr (pe_cd cW hr T.g_want_times (pa_cons (pv 1) (pa_cons (pe_fld (pv 0) rfl) pa_nil))))
      (pss_one (ps_ret (pe_lock (pe_dc (own := [("moment", 2), ("shift", 3)]) (g := gTup K 2 (gCons (gName 2) (gCons (gName 3) gNil))) (tt := tYes) rfl sc_tv.nd (pi_items (pe_fld (pv 0) rfl))
        (blkOk_by (N := ["self", "times", "moment", "shift"]) (sc := defScope dEarliesttermValues.st) (by decide +kernel)) (fun _ _ _ _ _ => pg_tup rfl (pgs_cons (pg_name (i := 2) sc_tv.nd rfl (Or.inl rfl)) (pgs_cons (pg_name (i := 3) sc_tv.nd rfl (Or.inl rfl)) pgs_nil))) (fun _ _ _ _ _ => pts_nil)
        (fun _ _ _ _ _ => pv 2) (fun _ _ _ _ _ => pe_add (pe_dget hu (pv 1) (pv 2) (fun _ _ => rfl)) (pv 3)))))), ?_⟩
    refine ⟨_, rfl, _, rfl, e, _, dx, _, _, rfl, e1, T.c_Earliest, T.no_Earliest_own_shifts, rfl, ?_⟩
    refine ⟨d, ss, .ref f, ks tt, rfl, hd, h0, hv, hl, .inl ⟨f, tt, rfl, e2, rfl⟩, by rw [ks_len]; omega, hx, fun H1 s1 => ?_⟩
    refine ⟨f, _, s1 _ _ e2, trivial, fun od => ?_⟩
    refine ⟨_, rfl, e, _, dx, _, _, rfl, off_lock (s1 _ _ e1) (s1 _ _ e2) (fun z => nomatch z), T.c_Earliest, T.no_Earliest_own_shifts, rfl, f, od, _, rfl, upd_same, fun D nD => ?_⟩
    have rd1 : Rd (upd H1 f (.frz od (.dK (dk tt)))) d (.dK (dk ss)) := rd_lock (s1 _ _ hd) (s1 _ _ e2)
    refine dc_go (walk_items (d := f) (o := od) (kvs := dk tt)) (fun i H' => Same (upd H1 f (.frz od (.dK (dk tt)))) H' ∧ H' D = some (.dK (dk ((tvs tt ss).take i)))) ⟨new_same nD, upd_same⟩ (fun _ _ _ q => q.1 _ _ upd_same) (fun i v H2 H3 hi p y => ?_) (fun H2 p => ?_)
    · obtain ⟨t, x, y, rfl, nt, rfl, k1, k2⟩ := y
      obtain ⟨r, hr2, rfl, rfl⟩ := dk_pair k1 k2
      have ntD : D ≠ t := fun z => by rw [z] at p; rw [p.2] at nt; cases nt
      obtain ⟨n, hn⟩ := lk_some (hx r.1 (List.mem_map.mpr ⟨r, List.mem_of_getElem? hr2, rfl⟩))
      refine ⟨t, _, rfl, .of upd_same, rfl, _, _, rfl, _, _, rfl, rfl, rfl, ?_⟩
      refine ⟨_, rfl, _, rfl, _, rfl, d, _, rfl, dgetS ((p.1.trans (new_same nt)).rd rd1) hn, _, rfl, n, r.2, rfl, rfl, ?_⟩
      have rt : (tvs tt ss)[i]? = some (r.1, n + r.2) := by
        unfold tvs
        rw [List.getElem?_map, hr2]
        show some (r.1, (lk ss r.1).getD 0 + r.2) = _
        rw [hn]
        rfl
      refine ⟨dk ((tvs tt ss).take i), Sum.inr r.1, rfl, by rw [upd_ne ntD]; exact p.2, ?_, (p.1.trans (new_same nt)).wr nD, ?_⟩
      · rw [dk_len, List.length_take]
        rw [dk_len] at hi
        exact small_lt (by omega)
      · rw [upd_same, putK_dk]
        have z := pt_take (ss := tvs tt ss) (m := i) (q := (r.1, n + r.2)) (by rw [ks_tvs]; exact S.nd) rt
        rw [z]
    · have nDf : D ≠ f := fun z => by rw [z, upd_same] at nD; cases nD
      have s2 : Same H1 (upd H2 f (.dK (dk tt))) := unlock_same (s1 _ _ e2) p.1
      refine ⟨p.1 _ _ upd_same, q _ D (s1.trans s2) ?_ ?_⟩
      · rw [upd_ne nDf] at nD
        exact s1.free nD
      · rw [upd_ne nDf, p.2, List.take_of_length_le (by rw [dk_len]; unfold tvs; rw [List.length_map]; exact Nat.le_refl _)]
/-! ### e(times) -/
def spEarCall (K : Fg) : Sp := fun vs H Q _ => ∃ e d tt ss, vs = [.ref e, .ref d] ∧ EarAt K H e tt ∧ Sh tt ∧ H d = some (.dK (dk ss)) ∧ ss ≠ [] ∧ AllV ss ∧ ss.length ≤ 1000 ∧ (∀ x ∈ ks tt, x ∈ ks ss) ∧
  ∀ H' m, Same H H' → IsMin ((tvs tt ss).map (·.2)) m → Q (.int m) H'
theorem sc_ecall : FnScope ["self", "times"] ["self", "times"] (defScope dEarliestCall.st) := ⟨rfl, rfl, rfl, by decide +kernel, rfl, by decide +kernel, by decide +kernel⟩
theorem ok_ecall (T : Tx K mg) : Cd P w K mg base 5 dEarliestCall ["self", "times"] (spEarCall K) := by
  obtain ⟨fd, F⟩ := T.dEarliestCall
  have cV : Cd P w K mg base 4 dEarliesttermValues ["self", "times"] (spTv K) := ok_tv T
  refine .of F sc_ecall (F.bindsN fun _ _ _ _ _ _ us hl => match us, hl with | [_, _], _ => rfl) (fun vs H Q E h => ?_) (fun cdv A outer s H vs Q E hr h => ?_)
  · obtain ⟨_, _, _, _, rfl, _⟩ := h
    rfl
  · obtain ⟨e, d, tt, ss, rfl, he, S, hd, h0, hv, hl, hx, q⟩ := h
    obtain ⟨f, dx, e1, e2⟩ := id he
    refine ⟨_, pss_one (ps_ret (pe_callB (cr_min rfl) (by rfl) T.n_min bt_min (pa_cons (pe_listVals rfl (pe_mc cV T.c_Earliest T.me_Earliest_term_values hr (pv 0) (pa_cons (pv 1) pa_nil)) T.n_list) pa_nil))), ?_⟩
    refine ⟨_, rfl, e, dx, _, rfl, e1, rfl, _, rfl, e, d, tt, ss, rfl, he, S, hd, h0, hv, hl, hx, fun H1 p s1 np h1 => ?_⟩
    refine ⟨p, _, rfl, .inl h1, fun p2 np2 => ?_⟩
    refine ⟨p2, (tvs tt ss).map (·.2), rfl, .of (by rw [upd_same, dk_vals]), ?_, fun m hm hm2 => ?_⟩
    · rw [List.length_map]
      unfold tvs
      rw [List.length_map]
      exact List.length_pos_iff.mpr S.ne
    · exact q _ m (s1.trans (new_same np2)) ⟨hm, hm2⟩
/-! ### | -/
def spOr (K : Fg) (L : Hp → Addr → Tb → Prop) : Sp := fun vs H Q _ => ∃ a b tt uu, vs = [.ref a, .ref b] ∧ L H a tt ∧ EarLike K H b uu ∧ Sh (tt ++ uu) ∧ ∀ H' e yy, Same H H' → EarAt K H' e yy → Srt (tt ++ uu) yy → Q (.ref e) H'
theorem EarLike.mono {K : Fg} {H H' : Hp} {v : Addr} {tt : Tb} (s : Same H H') (h : EarLike K H v tt) : EarLike K H' v tt := h.imp (.mono s) fun ⟨m, n, a, b⟩ => ⟨m, n, a.mono s, b⟩
theorem sc_eor : FnScope ["self", "other"] ["self", "other"] (defScope dEarliestOr.st) := ⟨rfl, rfl, rfl, by decide +kernel, rfl, by decide +kernel, by decide +kernel⟩
theorem ok_eor (T : Tx K mg) : Cd P w K mg base 6 dEarliestOr ["self", "other"] (spOr K (EarAt K)) := by
  obtain ⟨fd, F⟩ := T.dEarliestOr
  have cL : Cd P w K mg base 1 dLeastOf ["pairs"] spLeast := ok_least_of T
  have cA : Cd P w K mg base 5 dAsEarliest ["value"] (spAs K) := ok_as T
  have cS : Cd P w K mg base 1 dEarliestshifts ["self"] (spShifts K) := ok_shifts T
  have cI : Cd P w K mg base 3 dEarliestInit ["self", "shifts"] (spEarInit K) := ok_ear_init T
  refine .of F sc_eor (F.bindsN fun _ _ _ _ _ _ us hl => match us, hl with | [_, _], _ => rfl) (fun vs H Q E h => ?_) (fun cdv A outer s H vs Q E hr h => ?_)
  · obtain ⟨_, _, _, _, rfl, _⟩ := h
    rfl
  · obtain ⟨a, b, tt, uu, rfl, ha, hb, S, q⟩ := h
    obtain ⟨f, dx, e1, e2⟩ := id ha
    refine ⟨_, pss_one (ps_ret (pe_mkc cI T.mk_Earliest hr T.g_Earliest (pa_cons (pe_cd cL hr T.g_least_of (pa_cons (pe_op op_cat
      (LiI.pe_listItems rfl (pe_fld (pv 0) rfl) (by rfl) T.n_list bt_list) (LiI.pe_listItems rfl (pe_mc0 cS T.c_Earliest T.me_Earliest_shifts hr (pe_cd cA hr T.g_as_earliest (pa_cons (pv 1) pa_nil))) (by rfl) T.n_list bt_list)) pa_nil)) pa_nil))), ?_⟩
    refine ⟨_, rfl, a, _, dx, _, _, rfl, e1, T.c_Earliest, T.no_Earliest_own_shifts, rfl, f, _, rfl, e2, fun H1 p ts s1 np nts pts h1 hp => ?_⟩
    have s1 : Same H H1 := s1
    refine ⟨_, rfl, b, uu, rfl, hb.mono s1, fun H2 e s2 he => ?_⟩
    obtain ⟨f2, dx2, g1, g2⟩ := id he
    refine ⟨e, dx2, _, rfl, g1, rfl, e, uu, rfl, he, fun H3 p3 s3 np3 h3 => ?_⟩
    refine ⟨p3, _, rfl, h3, fun H4 p4 ts4 s4 np4 nts4 pts4 h4 hp4 => ?_⟩
    have s4 : Same H3 H4 := s4
    have s14 : Same H1 H4 := (s2.trans s3).trans s4
    have z : (tt ++ uu).length ≤ 8 := S.len
    have pr1 : Prs2 H4 ts tt := prs_same s14 (prs_of hp)
    have pr2 : Prs2 H4 ts4 uu := prs_of hp4
    have l1 := paired_len pr1
    have l2 := paired_len pr2
    rw [List.length_append] at z
    refine ⟨p, p4, _, _, rfl, rfl, s14 _ _ h1, h4, by rw [List.length_map, List.length_map]; exact small_le (by omega), fun p5 np5 => ?_⟩
    have s5 : Same H4 (upd H4 p5 (.lst (ts.map V.ref ++ ts4.map V.ref))) := new_same np5
    refine ⟨p5, ts ++ ts4, tt ++ uu, rfl, by rw [upd_same, List.map_append], prs_same s5 (prs_cat pr1 pr2), S.nd, Nat.lt_of_le_of_lt S.len (by decide), fun H6 p6 tt6 s6 np6 h6 so6 => ?_⟩
    intro x dx6 nx ny ne
    refine mkE h6 (S.srt so6) nx ny ne fun H7 tt7 so7 s7 h7 => ?_
    exact q H7 x tt7 ((((s1.trans s14).trans s5).trans s6).trans s7) h7 (so6.trans so7)
theorem sc_tor : FnScope ["self", "other"] ["self", "other"] (defScope dTermOr.st) := ⟨rfl, rfl, rfl, by decide +kernel, rfl, by decide +kernel, by decide +kernel⟩
theorem ok_tor (T : Tx K mg) : Cd P w K mg base 6 dTermOr ["self", "other"] (spOr K fun H a tt => ∃ m n, TermAt K H a m n ∧ tt = [(m, n)]) := by
  obtain ⟨fd, F⟩ := T.dTermOr
  have cL : Cd P w K mg base 1 dLeastOf ["pairs"] spLeast := ok_least_of T
  have cA : Cd P w K mg base 5 dAsEarliest ["value"] (spAs K) := ok_as T
  have cS : Cd P w K mg base 1 dEarliestshifts ["self"] (spShifts K) := ok_shifts T
  have cI : Cd P w K mg base 3 dEarliestInit ["self", "shifts"] (spEarInit K) := ok_ear_init T
  refine .of F sc_tor (F.bindsN fun _ _ _ _ _ _ us hl => match us, hl with | [_, _], _ => rfl) (fun vs H Q E h => ?_) (fun cdv A outer s H vs Q E hr h => ?_)
  · obtain ⟨_, _, _, _, rfl, _⟩ := h
    rfl
  · obtain ⟨a, b, _, uu, rfl, ⟨m, n, ⟨dx, e1⟩, rfl⟩, hb, S, q⟩ := h
    refine ⟨_, pss_one (ps_ret (pe_mkc cI T.mk_Earliest hr T.g_Earliest (pa_cons (pe_cd cL hr T.g_least_of (pa_cons (pe_op op_cat
      (pe_lst (pa_cons (pe_tup (pa_cons (pe_fld (pv 0) rfl) (pa_cons (pe_fld (pv 0) rfl) pa_nil))) pa_nil)) (LiI.pe_listItems rfl (pe_mc0 cS T.c_Earliest T.me_Earliest_shifts hr (pe_cd cA hr T.g_as_earliest (pa_cons (pv 1) pa_nil))) (by rfl) T.n_list bt_list)) pa_nil)) pa_nil))), ?_⟩
    refine ⟨_, rfl, a, _, dx, _, _, rfl, e1, T.c_Term, T.no_Term_own_moment, rfl, _, rfl, a, _, dx, _, _, rfl, e1, T.c_Term, T.no_Term_own_shift, rfl, ?_⟩
    refine ⟨small_le (n := 2) (by decide), fun t0 nt0 => ?_⟩
    refine ⟨small_le (n := 1) (by decide), fun p np => ?_⟩
    have s1 : Same H (upd (upd H t0 (.tup [.str m, .int n])) p (.lst [.ref t0])) := (new_same nt0).trans (new_same np)
    have ntp : t0 ≠ p := fun z => by rw [z] at np; rw [upd_same] at np; cases np
    generalize hH1 : upd (upd H t0 (.tup [.str m, .int n])) p (.lst [.ref t0]) = H1 at s1
    have h1 : H1 p = some (.lst ([t0].map V.ref)) := by rw [← hH1, upd_same]; rfl
    have ht0 : H1 t0 = some (.tup [.str m, .int n]) := by rw [← hH1, upd_ne ntp, upd_same]
    refine ⟨_, rfl, b, uu, rfl, hb.mono s1, fun H2 e s2 he => ?_⟩
    obtain ⟨f2, dx2, g1, g2⟩ := id he
    refine ⟨e, dx2, _, rfl, g1, rfl, e, uu, rfl, he, fun H3 p3 s3 np3 h3 => ?_⟩
    refine ⟨p3, _, rfl, h3, fun H4 p4 ts4 s4 np4 nts4 pts4 h4 hp4 => ?_⟩
    have s4 : Same H3 H4 := s4
    have s14 : Same H1 H4 := (s2.trans s3).trans s4
    have z : ([(m, n)] ++ uu).length ≤ 8 := S.len
    have pr1 : Prs2 H4 [t0] [(m, n)] := prs_same s14 (.cons ht0 .nil)
    have pr2 : Prs2 H4 ts4 uu := prs_of hp4
    have l2 := paired_len pr2
    rw [List.length_append] at z
    refine ⟨p, p4, _, _, rfl, rfl, s14 _ _ h1, h4, by rw [List.length_map, List.length_map]; exact small_le (by show 1 + ts4.length ≤ _; omega), fun p5 np5 => ?_⟩
    have s5 : Same H4 (upd H4 p5 (.lst ([t0].map V.ref ++ ts4.map V.ref))) := new_same np5
    refine ⟨p5, [t0] ++ ts4, [(m, n)] ++ uu, rfl, by rw [upd_same, List.map_append], prs_same s5 (prs_cat pr1 pr2), S.nd, Nat.lt_of_le_of_lt S.len (by decide), fun H6 p6 tt6 s6 np6 h6 so6 => ?_⟩
    intro x dx6 nx ny ne
    refine mkE h6 (S.srt so6) nx ny ne fun H7 tt7 so7 s7 h7 => ?_
    exact q H7 x tt7 ((((s1.trans s14).trans s5).trans s6).trans s7) h7 (so6.trans so7)
end
end K21
set_option maxHeartbeats 4000000
/-! Rule: made, its moments, always, never, slack, kept_by -/
namespace K21
open PySem PySem.Spec PyProof.Rows L2 He
def RuleAt (K : Fg) (H : Hp) (r : Addr) (m : Str) (tt : Tb) : Prop := ∃ dx e, H r = some (.ins (cR K) dx [("own_moment", .str m), ("own_earliest", .ref e)]) ∧ EarAt K H e tt
theorem RuleAt.mono {K : Fg} {H H' : Hp} {r : Addr} {m : Str} {tt : Tb} (s : Same H H') (h : RuleAt K H r m tt) : RuleAt K H' r m tt := let ⟨dx, e, a, b⟩ := h; ⟨dx, e, s _ _ a, b.mono s⟩
/-- what was neither an instance nor a dict may be written -/
theorem EarAt.off {K : Fg} {H : Hp} {a e : Addr} {u o : HO} {tt : Tb} (h : H a = some u) (h1 : ∀ C dx fs, u ≠ .ins C dx fs) (h2 : ∀ kvs, u ≠ .dK kvs) (g : EarAt K H e tt) : EarAt K (upd H a o) e tt := by
  obtain ⟨d, dx, e1, e2⟩ := g
  exact ⟨d, dx, off_lock e1 h (fun z => h1 _ _ _ z.symm), off_lock e2 h (fun z => h2 _ z.symm)⟩
theorem RuleAt.off {K : Fg} {H : Hp} {a r : Addr} {u o : HO} {m : Str} {tt : Tb} (h : H a = some u) (h1 : ∀ C dx fs, u ≠ .ins C dx fs) (h2 : ∀ kvs, u ≠ .dK kvs) (g : RuleAt K H r m tt) : RuleAt K (upd H a o) r m tt := by
  obtain ⟨dx, e, e1, e2⟩ := g
  exact ⟨dx, e, off_lock e1 h (fun z => h1 _ _ _ z.symm), e2.off h h1 h2⟩
theorem EarLike.kept {K : Fg} {H H' : Hp} {x v C dx : Addr} {tt : Tb} (hx : H x = some (.ins C dx [])) (k : ∀ b o, b ≠ x → H b = some o → H' b = some o) (h : EarLike K H v tt) : EarLike K H' v tt := by
  rcases h with ⟨d, dy, e1, e2⟩ | ⟨m, n, ⟨dy, e1⟩, r⟩
  · refine .inl ⟨d, dy, k _ _ (fun z => ?_) e1, k _ _ (fun z => ?_) e2⟩
    · rw [z, hx] at e1
      cases e1
    · rw [z, hx] at e2
      cases e2
  · refine .inr ⟨m, n, ⟨dy, k _ _ (fun z => ?_) e1⟩, r⟩
    rw [z, hx] at e1
    cases e1
/-! ### the least -/
def mn : List Int → Int
  | [] => 0
  | x :: r => r.foldl min x
theorem fold_le : ∀ (l : List Int) (x : Int), l.foldl min x ≤ x ∧ (∀ y ∈ l, l.foldl min x ≤ y) ∧ (l.foldl min x = x ∨ l.foldl min x ∈ l)
  | [], x => ⟨Int.le_refl _, fun y h => (nomatch h), .inl rfl⟩
  | a :: l, x => by
    obtain ⟨h1, h2, h3⟩ := fold_le l (min x a)
    show l.foldl min (min x a) ≤ x ∧ (∀ y ∈ a :: l, l.foldl min (min x a) ≤ y) ∧ (l.foldl min (min x a) = x ∨ l.foldl min (min x a) ∈ a :: l)
    refine ⟨by omega, fun y hy => ?_, ?_⟩
    · rcases List.mem_cons.mp hy with e | e
      · rw [e]
        omega
      · exact h2 y e
    · rcases h3 with e | e
      · rw [e]
        by_cases c : x ≤ a
        · exact .inl (by omega)
        · exact .inr (by rw [show min x a = a by omega]; exact List.mem_cons_self)
      · exact .inr (List.mem_cons_of_mem _ e)
theorem isMin_mn {l : List Int} (h : l ≠ []) : IsMin l (mn l) := by
  cases l with
  | nil => exact absurd rfl h
  | cons x r =>
    obtain ⟨h1, h2, h3⟩ := fold_le r x
    refine ⟨?_, fun y hy => ?_⟩
    · rcases h3 with e | e
      · exact List.mem_cons.mpr (.inl e)
      · exact List.mem_cons_of_mem _ e
    · rcases List.mem_cons.mp hy with e | e
      · rw [e]
        exact h1
      · exact h2 y e
theorem IsMin.eq {l : List Int} {a b : Int} (h : IsMin l a) (g : IsMin l b) : a = b := Int.le_antisymm (h.2 b g.1) (g.2 a h.1)
theorem IsMin.mn {l : List Int} {a : Int} (h : IsMin l a) : a = K21.mn l := h.eq (isMin_mn fun e => by rw [e] at h; exact absurd h.1 List.not_mem_nil)
theorem IsMin.perm {l l2 : List Int} {a : Int} (h : IsMin l a) (p : l.Perm l2) : IsMin l2 a := ⟨p.mem_iff.mp h.1, fun y hy => h.2 y (p.mem_iff.mpr hy)⟩
/-- the moment of tt at ss; the slack of m -/
def ear (tt ss : Tb) : Int := mn ((tvs tt ss).map (·.2))
def due (m : Str) (tt ss : Tb) : Int := (lk ss m).getD 0 - ear tt ss
/-! ### keys put -/
theorem mergeK_dk : ∀ (b a : Tb), mergeK (dk a) (dk b) = dk (b.foldl (fun acc p => pt acc p.1 p.2) a)
  | [], _ => rfl
  | p :: r, a => by
    show mergeK (putK (dk a) (Sum.inr p.1) (.int p.2)) (dk r) = _
    rw [putK_dk, mergeK_dk r]
    rfl
theorem ks_fold : ∀ (b a : Tb) (x : Str), x ∈ ks (b.foldl (fun acc p => pt acc p.1 p.2) a) ↔ x ∈ ks a ∨ x ∈ ks b
  | [], a, x => ⟨.inl, fun h => h.elim id fun z => (nomatch z)⟩
  | p :: r, a, x => by
    show x ∈ ks (r.foldl (fun acc p => pt acc p.1 p.2) (pt a p.1 p.2)) ↔ x ∈ ks a ∨ x ∈ p.1 :: ks r
    rw [ks_fold r, ks_pt, List.mem_cons]
    by_cases h : p.1 ∈ ks a
    · rw [if_pos h]
      constructor
      · exact fun z => z.imp id .inr
      · rintro (z | z | z)
        · exact .inl z
        · exact .inl (z ▸ h)
        · exact .inr z
    · rw [if_neg h, List.mem_append, List.mem_singleton, or_assoc]
theorem len_fold : ∀ (b a : Tb), (b.foldl (fun acc p => pt acc p.1 p.2) a).length ≤ a.length + b.length
  | [], a => Nat.le_refl _
  | p :: r, a => by
    have h := len_fold r (pt a p.1 p.2)
    have g := len_pt a p.1 p.2
    show (r.foldl (fun acc p => pt acc p.1 p.2) (pt a p.1 p.2)).length ≤ a.length + (r.length + 1)
    omega
/-! ### o.f(e, ..), f a field that holds an instance -/
def tCallF (X : Cx) (m : Str) (C : Addr) (sp : Sp) (to : TE) (t : TA) : TE := fun σ H Q => to σ H fun x H1 => ∃ a D dx fs v, x = .ref a ∧ H1 a = some (.ins D dx fs) ∧ Cls X.K D ∧ NoAttr X.K D m ∧ fs.lookup m = some (.ref v) ∧ t σ H1 fun vs H2 => StX.InsC X H2 v C ∧ sp (V.ref v :: vs) H2 Q E0
section
variable {X : Cx} {k j : Nat} {d : Df} {ps : List Str} {sp : Sp} {m : Str} {pos apos : Pos} {e o : Expr} {es : List Expr} {t : TA} {ta : TE} {C : Addr}
theorem pe_fcall {pl : Sem Bool} (c : Cd X.prog X.w X.K X.mg X.base k d ps sp) (cl : StX.CallO X.K C (d.pl X.K)) (hr : Room j X.A) (ho : PE X o ta) (ha : PA X (e :: es) t) (hk : k ≤ j := by decide)
    (hst : starEach (e :: es) X.env = (false, eval e X.env) :: starEach es X.env := by rfl) (hpl : (backTo pos (starEach es X.env)).any (·.1) = false := by rfl)
    (ht : eval (.Call (.Attribute o m apos) (e :: es) [] pos) X.env = (do
      let v ← eval o X.env
      standAt apos.atName
      let (f, first) ← holding [v] (getMethod v m pl)
      callWith pos f first (backTo pos (starEach (e :: es) X.env)) (backToKw pos (keywordEach [] X.env))) := by rfl) : PE X (.Call (.Attribute o m apos) (e :: es) [] pos) (tCallF X m C sp ta t) := by
  obtain ⟨fd, F, b⟩ := c.ex
  have R := F.raw b .nil
  refine ⟨fun pins s σ H Q I h => ?_⟩
  refine PySem.W.methodCall_KW (pl := pl) (thn (ho.run pins s σ H _ I h) fun u s1 ⟨x, H1, I1, rx, a, D, dx, fs, v, ex, ea, cD, nD, l, q⟩ => ?_) ht
  subst ex
  obtain rfl : u = Value.ref a := rx
  obtain ⟨_, J, _⟩ := ins_get I1.hok ea
  obtain ⟨oda, J, _⟩ := J.look
  refine PySem.W.method_usual (r := none) I1.kIn J (PySem.W.plainGet_of (cD.get m)).1 (PySem.W.plainGet_of (cD.get m)).2 nD rfl (getattr_ok I1 ea cD nD l fun u2 s2 I2 ru => ?_)
  obtain rfl : u2 = Value.ref v := ru
  refine StX.callO_with (thn (ha.run pos pins s2 σ H1 _ I2 q) fun us s3 ⟨vs, H3, I3, r, hi, q3⟩ => ?_) hst hpl
  obtain ⟨ox, od, J3, hd⟩ := StX.insC_at I3 hi
  refine ⟨⟨C, ox, od, J3, hd⟩, StX.run_callO cl R (hr.mono hk) pass0 I3 hi r ?_⟩
  show sp ((V.ref v :: vs) ++ []) H3 Q E0
  rw [List.append_nil]
  exact q3
end
section
variable {P : Program} {w : World} {K : Fg} {mg : Str → Option Value} {base : Heap}
/-! ### Rule.__init__ -/
def spRuleInit (K : Fg) : Sp := fun vs H Q _ => ∃ x dx m v tt, vs = [.ref x, .str m, .ref v] ∧ H x = some (.ins (cR K) dx []) ∧ VN m ∧ EarLike K H v tt ∧ ∀ H', (∀ b o, b ≠ x → H b = some o → H' b = some o) → RuleAt K H' x m tt → Q .non H'
theorem sc_rinit : FnScope ["self", "moment", "earliest"] ["self", "moment", "earliest"] (defScope dRuleInit.st) := ⟨rfl, rfl, rfl, by decide +kernel, rfl, by decide +kernel, by decide +kernel⟩
theorem ok_rinit (T : Tx K mg) : Cd P w K mg base 6 dRuleInit ["self", "moment", "earliest"] (spRuleInit K) := by
  obtain ⟨fd, F⟩ := T.dRuleInit
  have cN : Cd P w K mg base 1 dIsName ["value"] spName := ok_is_name T
  have cA : Cd P w K mg base 5 dAsEarliest ["value"] (spAs K) := ok_as T
  refine .of F sc_rinit (F.bindsN fun _ _ _ _ _ _ us hl => match us, hl with | [_, _, _], _ => rfl) (fun vs H Q E h => ?_) (fun cdv A outer s H vs Q E hr h => ?_)
  · obtain ⟨_, _, _, _, _, rfl, _⟩ := h
    rfl
  · obtain ⟨x, dx, m, v, tt, rfl, hx, hm, hv, q⟩ := h
    refine ⟨_, pss_cons (ps_if (pt_not (pt_val (pe_cd cN hr T.g_is_name (pa_cons (pv 1) pa_nil)))) pss_never pss_nil)
      (pss_cons (ps_fld (pv 0) (pv 1) rfl) (pss_one (ps_fld (pv 0) (pe_cd cA hr T.g_as_earliest (pa_cons (pv 2) pa_nil)) rfl))), ?_⟩
    refine ⟨_, rfl, m, rfl, hm, fun H1 s1 => ⟨true, rfl, iteF ?_⟩⟩
    refine ⟨_, rfl, _, rfl, x, cR K, dx, [], rfl, s1 _ _ hx, T.c_Rule, T.no_Rule_own_moment, by show 0 < 1000; decide, ?_⟩
    have k1 : ∀ b o, b ≠ x → H b = some o → (upd H1 x (.ins (cR K) dx (putF "own_moment" (.str m) []))) b = some o := fun b o nb e => by rw [upd_ne nb]; exact s1 _ _ e
    refine ⟨_, rfl, v, tt, rfl, hv.kept hx k1, fun H2 e s2 he => ?_⟩
    refine ⟨_, rfl, x, cR K, dx, _, rfl, s2 _ _ upd_same, T.c_Rule, T.no_Rule_own_earliest, by show 1 < 1000; decide, ?_⟩
    refine q _ (fun b o nb e => by rw [upd_ne nb]; exact s2 _ _ (k1 b o nb e)) ⟨dx, e, by rw [upd_same]; rfl, ?_⟩
    obtain ⟨d, dy, e1, e2⟩ := he
    have hx2 := s2 x _ upd_same
    refine ⟨d, dy, ?_, ?_⟩
    · refine off_lock e1 hx2 (fun z => ?_)
      injection z with z1 z2 z3
      have z4 : [("own_shifts" : Str)] = [("own_moment" : Str)] := congrArg (List.map Prod.fst) z3
      exact absurd z4 (by decide)
    · exact off_lock e2 hx2 (fun z => nomatch z)
/-- what a caller of Rule(.., ..) gets -/
theorem mkR {H : Hp} {x dx v : Addr} {m : Str} {tt : Tb} {Q : VK} {E : XK} (hm : VN m) (hv : EarLike K H v tt) (nx : H x = none) (ndx : H dx = none) (k : ∀ H', Same H H' → RuleAt K H' x m tt → Q (.ref x) H') :
    spRuleInit K (.ref x :: ([.str m, .ref v] ++ [])) (upd (upd H dx (.own x)) x (.ins (cR K) dx [])) (fun v H2 => v = .non ∧ Q (.ref x) H2) E :=
  ⟨x, dx, m, v, tt, rfl, upd_same, hm, hv.mono ((new_same ndx).wr nx), fun H' h2 h3 => ⟨rfl, k H' (made_same nx ndx h2) h3⟩⟩
/-! ### moments -/
def spMoments (K : Fg) : Sp := fun vs H Q _ => ∃ r m tt, vs = [.ref r] ∧ RuleAt K H r m tt ∧ Sh tt ∧ ∀ H' p (xs : List Str), Same H H' → H' p = some (.tup (xs.map V.str)) → (∀ x ∈ xs, x = m ∨ x ∈ ks tt) → xs.length ≤ 9 → Q (.ref p) H'
theorem sc_moments : FnScope ["self"] ["self"] (defScope dRulemoments.st) := ⟨rfl, rfl, rfl, by decide +kernel, rfl, by decide +kernel, by decide +kernel⟩
theorem ok_moments (T : Tx K mg) : Cd P w K mg base 1 dRulemoments ["self"] (spMoments K) := by
  obtain ⟨fd, F⟩ := T.dRulemoments
  refine .of F sc_moments (F.bindsN fun _ _ _ _ _ _ us hl => match us, hl with | [_], _ => rfl) (fun vs H Q E h => ?_) (fun cdv A outer s H vs Q E hr h => ?_)
  · obtain ⟨_, _, _, rfl, _⟩ := h
    rfl
  · obtain ⟨r, m, tt, rfl, ⟨dx, e, e1, d, dy, e2, e3⟩, S, q⟩ := h
    have S8 := S.len
    refine ⟨_, pss_one (ps_ret (pe_callTy call_tuple_of (by rfl) T.n_tuple bt_tuple (pa_cons (pe_callB (cr_sortD rfl) (by rfl) T.n_sorted bt_sorted (pa_cons (pe_star1 (pe_fld (pv 0) rfl) pe_int (pe_fld (pe_fld (pv 0) rfl) rfl)) pa_nil)) pa_nil))), ?_⟩
    intro p np
    have s1 : Same H (upd H p (.dK [])) := new_same np
    refine ⟨_, rfl, r, _, dx, _, _, rfl, s1 _ _ e1, T.c_Rule, T.no_Rule_own_moment, rfl, Sum.inr m, rfl, upd_same, ?_⟩
    generalize hH2 : upd (upd H p (.dK [])) p (.dK [(Sum.inr m, V.int 0)]) = H2
    have s2 : Same H H2 := by rw [← hH2]; exact s1.wr np
    have hp2 : H2 p = some (.dK (dk [(m, 0)])) := by rw [← hH2, upd_same]; rfl
    refine ⟨_, rfl, r, _, dx, _, _, rfl, s2 _ _ e1, T.c_Rule, T.no_Rule_own_earliest, rfl, ?_⟩
    refine ⟨e, _, dy, _, _, rfl, s2 _ _ e2, T.c_Earliest, T.no_Earliest_own_shifts, rfl, ?_⟩
    have ndp : d ≠ p := fun z => by rw [z, np] at e3; cases e3
    refine ⟨d, dk tt, rfl, hp2, ndp, .inl (s2 _ _ e3), by rw [dk_len]; omega, ?_⟩
    have em := mergeK_dk tt [(m, 0)]
    have z1 := len_fold tt [(m, 0)]
    have z2 := ks_fold tt [(m, 0)]
    generalize tt.foldl (fun acc p => pt acc p.1 p.2) [(m, 0)] = uu at em z1 z2
    have z3 : uu.length ≤ 9 := by
      have z4 : [(m, (0 : Int))].length = 1 := rfl
      omega
    refine ⟨p, dk uu, ks uu, rfl, .inl (by rw [upd_same]; exact congrArg some (congrArg HO.dK em)), dk_keys uu, by rw [ks_len]; omega, fun ys l hy1 hy2 nl => ?_⟩
    refine ⟨l, ys.map V.str, rfl, .inl ⟨.of upd_same, fun l2 nl2 => ?_⟩⟩
    refine q _ l2 ys (((s2.wr np).trans (new_same nl)).trans (new_same nl2)) upd_same (fun x hx => ?_) (by rw [hy1.length_eq, ks_len]; exact z3)
    rcases (z2 x).mp (hy1.mem_iff.mp hx) with z | z
    · exact .inl (List.mem_singleton.mp z)
    · exact .inr z
/-! ### is_always, is_never -/
def alw (m : Str) (tt : Tb) : Bool := decide ((lk tt m).getD 1 ≤ 0)
def nev (m : Str) (tt : Tb) : Bool := decide (tt.length = 1) && decide (0 < (lk tt m).getD 0)
def spAlways (K : Fg) : Sp := fun vs H Q _ => ∃ r m tt, vs = [.ref r] ∧ RuleAt K H r m tt ∧ Q (.bl (alw m tt)) H
def spNever (K : Fg) : Sp := fun vs H Q _ => ∃ r m tt, vs = [.ref r] ∧ RuleAt K H r m tt ∧ Q (.bl (nev m tt)) H
theorem sc_always : FnScope ["self"] ["self"] (defScope dRuleisAlways.st) := ⟨rfl, rfl, rfl, by decide +kernel, rfl, by decide +kernel, by decide +kernel⟩
theorem sc_never : FnScope ["self"] ["self"] (defScope dRuleisNever.st) := ⟨rfl, rfl, rfl, by decide +kernel, rfl, by decide +kernel, by decide +kernel⟩
theorem getD_int (o : Option Int) (n : Int) : ((o.map V.int).getD (.int n)) = V.int (o.getD n) := by cases o <;> rfl
theorem ok_always (T : Tx K mg) : Cd P w K mg base 1 dRuleisAlways ["self"] (spAlways K) := by
  obtain ⟨fd, F⟩ := T.dRuleisAlways
  refine .of F sc_always (F.bindsN fun _ _ _ _ _ _ us hl => match us, hl with | [_], _ => rfl) (fun vs H Q E h => ?_) (fun cdv A outer s H vs Q E hr h => ?_)
  · obtain ⟨_, _, _, rfl, _⟩ := h
    rfl
  · obtain ⟨r, m, tt, rfl, ⟨dx, e, e1, d, dy, e2, e3⟩, q⟩ := h
    have hu := hu_of hr
    refine ⟨_, pss_one (ps_ret (pe_cmpR op_le (pe_dget2 hu (pe_fld (pe_fld (pv 0) rfl) rfl) (pe_fld (pv 0) rfl) pe_int ⟨rfl, rfl, rfl, rfl⟩) pe_int (nomark _))), ?_⟩
    refine ⟨_, rfl, r, _, dx, _, _, rfl, e1, T.c_Rule, T.no_Rule_own_earliest, rfl, e, _, dy, _, _, rfl, e2, T.c_Earliest, T.no_Earliest_own_shifts, rfl, d, rfl, isd (.inl e3), ?_⟩
    refine ⟨_, rfl, r, _, dx, _, _, rfl, e1, T.c_Rule, T.no_Rule_own_moment, rfl, _, dget (x := m) (.inl e3), ?_⟩
    exact ⟨_, _, getD_int _ _, rfl, q⟩
theorem ok_never (T : Tx K mg) : Cd P w K mg base 1 dRuleisNever ["self"] (spNever K) := by
  obtain ⟨fd, F⟩ := T.dRuleisNever
  refine .of F sc_never (F.bindsN fun _ _ _ _ _ _ us hl => match us, hl with | [_], _ => rfl) (fun vs H Q E h => ?_) (fun cdv A outer s H vs Q E hr h => ?_)
  · obtain ⟨_, _, _, rfl, _⟩ := h
    rfl
  · obtain ⟨r, m, tt, rfl, ⟨dx, e, e1, d, dy, e2, e3⟩, q⟩ := h
    have hu := hu_of hr
    refine ⟨_, pss_one (ps_ret (pe_and (pe_cmpR op_eq (pe_callB call_lenD (by rfl) T.n_len bt_len (pa_cons (pe_fld (pe_fld (pv 0) rfl) rfl) pa_nil)) pe_int (nomark _))
      (pe_one (pe_cmpR op_gt (pe_dget2 hu (pe_fld (pe_fld (pv 0) rfl) rfl) (pe_fld (pv 0) rfl) pe_int ⟨rfl, rfl, rfl, rfl⟩) pe_int (nomark _))))), ?_⟩
    refine ⟨_, rfl, r, _, dx, _, _, rfl, e1, T.c_Rule, T.no_Rule_own_earliest, rfl, e, _, dy, _, _, rfl, e2, T.c_Earliest, T.no_Earliest_own_shifts, rfl, d, _, rfl, e3, rfl, ?_⟩
    have q2 : Q (.bl (nev m tt)) H := q
    unfold nev at q2
    by_cases h1 : tt.length = 1
    · rw [decide_eq_true h1, Bool.true_and] at q2
      refine ⟨true, congrArg V.bl (decide_eq_true (by rw [dk_len, h1]; rfl)), iteT ?_⟩
      refine ⟨_, rfl, r, _, dx, _, _, rfl, e1, T.c_Rule, T.no_Rule_own_earliest, rfl, e, _, dy, _, _, rfl, e2, T.c_Earliest, T.no_Earliest_own_shifts, rfl, d, rfl, isd (.inl e3), ?_⟩
      refine ⟨_, rfl, r, _, dx, _, _, rfl, e1, T.c_Rule, T.no_Rule_own_moment, rfl, _, dget (x := m) (.inl e3), ?_⟩
      exact ⟨_, _, getD_int _ _, rfl, q2⟩
    · rw [decide_eq_false h1, Bool.false_and] at q2
      refine ⟨false, congrArg V.bl (decide_eq_false fun z => h1 ?_), iteF q2⟩
      have z2 : ((dk tt).length : Int) = 1 := V.int.inj z
      rw [dk_len] at z2
      omega
/-! ### slack, kept_by -/
structure Tms (ss : Tb) : Prop where
  ne : ss ≠ []
  v : AllV ss
  len : ss.length ≤ 1000
def spSlack (K : Fg) : Sp := fun vs H Q _ => ∃ r d m tt ss, vs = [.ref r, .ref d] ∧ RuleAt K H r m tt ∧ Sh tt ∧ H d = some (.dK (dk ss)) ∧ Tms ss ∧ m ∈ ks ss ∧ (∀ x ∈ ks tt, x ∈ ks ss) ∧ ∀ H', Same H H' → Q (.int (due m tt ss)) H'
theorem sc_slack : FnScope ["self", "times"] ["self", "times"] (defScope dRuleslack.st) := ⟨rfl, rfl, rfl, by decide +kernel, rfl, by decide +kernel, by decide +kernel⟩
theorem ok_slack (T : Tx K mg) : Ck P w K mg base 6 dRuleslack ["self", "times"] "times" (spSlack K) := by
  obtain ⟨fd, F⟩ := T.dRuleslack
  have cW : Cd P w K mg base 3 dWantTimes ["value", "moments"] (spWantTimes K) := ok_want_times T
  have cM : Cd P w K mg base 1 dRulemoments ["self"] (spMoments K) := ok_moments T
  have cE : Cd P w K mg base 5 dEarliestCall ["self", "times"] (spEarCall K) := ok_ecall T
  refine .of F (F.ok sc_slack (fun vs H Q E h => ?_) (fun cdv A outer s H vs Q E hr h => ?_)) (F.bindsN fun _ _ _ _ _ _ us hl => match us, hl with | [_, _], _ => rfl) (kw_of F fun _ _ _ _ _ _ _ _ => rfl)
  · obtain ⟨_, _, _, _, _, rfl, _⟩ := h
    rfl
  · obtain ⟨r, d, m, tt, ss, rfl, hR, S, hd, hT, hm, hx, q⟩ := h
    obtain ⟨dx, e, e1, he⟩ := id hR
    have hu := hu_of hr
    refine ⟨_, pss_cons (ps_expr (pe_cd cW hr T.g_want_times (pa_cons (pv 1) (pa_cons (pe_prc cM T.c_Rule T.p_Rule_moments hr (pv 0)) pa_nil))))
      (pss_one (ps_ret (pe_sub (pe_dget hu (pv 1) (pe_fld (pv 0) rfl) (fun _ _ => rfl)) (pe_fcall cE ⟨T.sp_Earliest_call.at_, T.sp_Earliest_call.fn, T.sp_Earliest_call.fi⟩ hr (pv 0) (pa_cons (pv 1) pa_nil))))), ?_⟩
    refine ⟨_, rfl, _, rfl, r, dx, _, rfl, e1, r, m, tt, rfl, hR, S, fun H1 p xs s1 hp hxs hlx => ?_⟩
    refine ⟨d, ss, .ref p, xs, rfl, s1 _ _ hd, hT.ne, hT.v, hT.len, .inr ⟨p, rfl, .inl (.inl hp)⟩, by omega, fun x hxx => ?_, fun H2 s2 => ?_⟩
    · rcases hxs x hxx with z | z
      · rw [z]
        exact hm
      · exact hx x z
    · have s12 : Same H H2 := s1.trans s2
      obtain ⟨n, hn⟩ := lk_some hm
      refine ⟨_, rfl, _, rfl, r, _, dx, _, _, rfl, s12 _ _ e1, T.c_Rule, T.no_Rule_own_moment, rfl, d, _, rfl, dgetS (.inl (s12 _ _ hd)) hn, ?_⟩
      obtain ⟨f, dy, g1, g2⟩ := id (he.mono s12)
      refine ⟨_, rfl, r, _, dx, _, e, rfl, s12 _ _ e1, T.c_Rule, T.no_Rule_own_earliest, rfl, _, rfl, .inr ⟨dy, _, g1⟩, ?_⟩
      refine ⟨e, d, tt, ss, rfl, he.mono s12, S, s12 _ _ hd, hT.ne, hT.v, hT.len, hx, fun H3 k s3 hk => ?_⟩
      refine ⟨n, k, rfl, rfl, ?_⟩
      have z := q H3 (s12.trans s3)
      unfold due ear at z
      rw [hn, ← hk.mn] at z
      exact z
def spKept (K : Fg) : Sp := fun vs H Q _ => ∃ r d m tt ss, vs = [.ref r, .ref d] ∧ RuleAt K H r m tt ∧ Sh tt ∧ H d = some (.dK (dk ss)) ∧ Tms ss ∧ m ∈ ks ss ∧ (∀ x ∈ ks tt, x ∈ ks ss) ∧ ∀ H', Same H H' → Q (.bl (decide (0 ≤ due m tt ss))) H'
theorem sc_kept : FnScope ["self", "times"] ["self", "times"] (defScope dRulekeptBy.st) := ⟨rfl, rfl, rfl, by decide +kernel, rfl, by decide +kernel, by decide +kernel⟩
theorem ok_kept (T : Tx K mg) : Ck P w K mg base 7 dRulekeptBy ["self", "times"] "times" (spKept K) := by
  obtain ⟨fd, F⟩ := T.dRulekeptBy
  have cS : Cd P w K mg base 6 dRuleslack ["self", "times"] (spSlack K) := (ok_slack T).cd
  refine .of F (F.ok sc_kept (fun vs H Q E h => ?_) (fun cdv A outer s H vs Q E hr h => ?_)) (F.bindsN fun _ _ _ _ _ _ us hl => match us, hl with | [_, _], _ => rfl) (kw_of F fun _ _ _ _ _ _ _ _ => rfl)
  · obtain ⟨_, _, _, _, _, rfl, _⟩ := h
    rfl
  · obtain ⟨r, d, m, tt, ss, rfl, hR, S, hd, hT, hm, hx, q⟩ := h
    obtain ⟨dx, e, e1, he⟩ := id hR
    refine ⟨_, pss_one (ps_ret (pe_cmpR op_ge (pe_mc cS T.c_Rule T.me_Rule_slack hr (pv 0) (pa_cons (pv 1) pa_nil)) pe_int (nomark _))), ?_⟩
    refine ⟨_, rfl, r, dx, _, rfl, e1, rfl, _, rfl, r, d, m, tt, ss, rfl, hR, S, hd, hT, hm, hx, fun H1 s1 => ?_⟩
    exact ⟨_, _, rfl, rfl, q H1 s1⟩
end
end K21
set_option maxHeartbeats 4000000
/-! Rule: contrary, ==, repr -/
namespace K21
open PySem PySem.Spec PyProof.Rows L2 He
/-- the rules of a contrary -/
def Con1 (K : Fg) (H : Hp) (m : Str) (rs : List Addr) (tt : Tb) : Prop := Paired (fun r (q : Str × Int) => RuleAt K H r q.1 [(m, 1 - q.2)]) rs tt
theorem Con1.mono {K : Fg} {H H' : Hp} {m : Str} {rs : List Addr} {tt : Tb} (s : Same H H') (h : Con1 K H m rs tt) : Con1 K H' m rs tt := paired_imp (fun _ _ e => e.mono s) h
theorem Con1.off {K : Fg} {H : Hp} {a : Addr} {u o : HO} {m : Str} {rs : List Addr} {tt : Tb} (h : H a = some u) (h1 : ∀ C dx fs, u ≠ .ins C dx fs) (h2 : ∀ kvs, u ≠ .dK kvs) (g : Con1 K H m rs tt) : Con1 K (upd H a o) m rs tt :=
  paired_imp (fun _ _ e => e.off h h1 h2) g
theorem paired_snoc {α β : Type} {F : α → β → Prop} : ∀ {xs : List α} {ys : List β} {x : α} {y : β}, Paired F xs ys → F x y → Paired F (xs ++ [x]) (ys ++ [y])
  | _, _, _, _, .nil, h => .cons h .nil
  | _, _, _, _, .cons a t, h => .cons a (paired_snoc t h)
/-- what callers get, by the whole promise -/
theorem rd_made {H : Hp} {d x dx : Addr} {u a b : HO} (h : Rd H d u) (nx : H x = none) (ndx : H dx = none) : Rd (upd (upd H dx a) x b) d u := by
  have k : ∀ o, H d = some o → (upd (upd H dx a) x b) d = some o := fun o e => by rw [upd_ne (ne_of_none e nx), upd_ne (ne_of_none e ndx)]; exact e
  exact h.imp (k _) fun ⟨o, e⟩ => ⟨o, k _ e⟩
theorem mkE2 {K : Fg} {H : Hp} {d x dx : Addr} {ss : Tb} {Q : VK} {E : XK} (hd : Rd H d (.dK (dk ss))) (S : Sh ss) (nx : H x = none) (ndx : H dx = none) (k : ∀ H' tt, Srt ss tt → Same H H' → EarAt K H' x tt → Q .non H') :
    spEarInit K (.ref x :: ([.ref d] ++ [])) (upd (upd H dx (.own x)) x (.ins (cE K) dx [])) Q E := by
  exact ⟨x, dx, d, ss, rfl, upd_same, rd_made hd nx ndx, S, fun H' tt h1 h2 h3 => k H' tt h1 (made_same nx ndx h2) h3⟩
theorem mkT2 {K : Fg} {H : Hp} {x dx : Addr} {m : Str} {n : Int} {Q : VK} {E : XK} (hm : VN m) (nx : H x = none) (ndx : H dx = none) (k : ∀ H', Same H H' → TermAt K H' x m n → Q .non H') :
    spTermInit K (.ref x :: ([.str m, .int n] ++ [])) (upd (upd H dx (.own x)) x (.ins (cT K) dx [])) Q E :=
  ⟨x, dx, m, n, rfl, upd_same, hm, fun H' h2 h3 => k H' (made_same nx ndx h2) h3⟩
theorem mkR2 {K : Fg} {H : Hp} {x dx v : Addr} {m : Str} {tt : Tb} {Q : VK} {E : XK} (hm : VN m) (hv : EarLike K H v tt) (nx : H x = none) (ndx : H dx = none) (k : ∀ H', Same H H' → RuleAt K H' x m tt → Q .non H') :
    spRuleInit K (.ref x :: ([.str m, .ref v] ++ [])) (upd (upd H dx (.own x)) x (.ins (cR K) dx [])) Q E :=
  ⟨x, dx, m, v, tt, rfl, upd_same, hm, hv.mono ((new_same ndx).wr nx), fun H' h2 h3 => k H' (made_same nx ndx h2) h3⟩
/-- {k: v} -/
theorem pe_d1 {X : Cx} {k v : Expr} {tk tv : TE} {pos : Pos} (hk : PE X k tk) (hv : PE X v tv) : PE X (.Dict [some k] [v] pos) (tDisp [(tk, tv)]) := pe_disp (pps_cons hk hv pps_nil) rfl rfl (List.cons_ne_nil _ _) (by show 1 ≤ 15; decide)
/-- o.f, within a block -/
theorem pe_fl {X : Cx} {e : Expr} {f : Str} {ta : TE} {pos : Pos} (K : Fg) (he : PE X e ta) (hK : X.K = K := by rfl) (hb : attributeBase e f X.env (eval e X.env) = eval e X.env := by rfl) : PE X (.Attribute e f pos) (tFld K ta f) := by
  subst hK
  exact pe_fld he hb
section
variable {P : Program} {w : World} {K : Fg} {mg : Str → Option Value} {base : Heap}
def spContrary (K : Fg) : Sp := fun vs H Q _ => ∃ r m tt, vs = [.ref r] ∧ RuleAt K H r m tt ∧ VN m ∧ Sh tt ∧ ∀ H' p rs, Same H H' → H p = none → H' p = some (.lst (rs.map V.ref)) → Con1 K H' m rs tt → Q (.ref p) H'
theorem sc_contrary : FnScope ["self", "shifts", "moment", "shift"] ["self"] (defScope dRulecontrary.st) := ⟨rfl, rfl, rfl, by decide +kernel, rfl, by decide +kernel, by decide +kernel⟩
theorem ok_contrary (T : Tx K mg) : Cd P w K mg base 8 dRulecontrary ["self"] (spContrary K) := by
  obtain ⟨fd, F⟩ := T.dRulecontrary
  have cI : Cd P w K mg base 3 dEarliestInit ["self", "shifts"] (spEarInit K) := ok_ear_init T
  have cR : Cd P w K mg base 6 dRuleInit ["self", "moment", "earliest"] (spRuleInit K) := ok_rinit T
  refine .of F sc_contrary (F.bindsN fun _ _ _ _ _ _ us hl => match us, hl with | [_], _ => rfl) (fun vs H Q E h => ?_) (fun cdv A outer s H vs Q E hr h => ?_)
  · obtain ⟨_, _, _, rfl, _⟩ := h
    rfl
  · obtain ⟨r, m, tt, rfl, ⟨dx, e, e1, f, dy, e2, e3⟩, hm, S, q⟩ := h
    have S8 := S.len
    refine ⟨_, pss_cons (ps_set (i := 1) sc_contrary.nd rfl (Or.inl rfl) (pe_fld (pe_fld (pv 0) rfl) rfl))
      (pss_one (ps_ret (pe_lock (pe_lc (own := [("moment", 2), ("shift", 3)]) (g := gTup K 2 (gCons (gName 2) (gCons (gName 3) gNil))) (tt := tYes) rfl sc_contrary.nd (pi_items (pv 1))
        (blkOk_by (N := ["self", "shifts", "moment", "shift"]) (sc := defScope dRulecontrary.st) (by decide +kernel)) (fun _ _ _ _ _ => pg_tup rfl (pgs_cons (pg_name (i := 2) sc_contrary.nd rfl (Or.inl rfl)) (pgs_cons (pg_name (i := 3) sc_contrary.nd rfl (Or.inl rfl)) pgs_nil))) (fun _ _ _ _ _ => pts_nil)
        (fun _ _ _ _ _ => pe_mkc cR T.mk_Rule hr T.g_Rule (pa_cons (pv 2) (pa_cons (pe_mkc cI T.mk_Earliest hr T.g_Earliest (pa_cons (pe_d1 (pe_fl K (pv 0)) (pe_sub pe_int (pv 3))) pa_nil)) pa_nil))))))), ?_⟩
    refine ⟨_, rfl, r, _, dx, _, _, rfl, e1, T.c_Rule, T.no_Rule_own_earliest, rfl, e, _, dy, _, _, rfl, e2, T.c_Earliest, T.no_Earliest_own_shifts, rfl, ?_⟩
    refine ⟨f, _, e3, trivial, fun od => ?_⟩
    refine ⟨_, rfl, f, od, _, rfl, upd_same, fun D nD => ?_⟩
    have e1L : (upd H f (.frz od (.dK (dk tt)))) r = some (.ins (K21.cR K) dx [("own_moment", .str m), ("own_earliest", .ref e)]) := off_lock e1 e3 (fun z => nomatch z)
    refine lc_it (walk_items (d := f) (o := od) (kvs := dk tt)) (fun i H' => Same (upd H f (.frz od (.dK (dk tt)))) H' ∧ ∃ rs, H' D = some (.lst (rs.map V.ref)) ∧ Con1 K H' m rs (tt.take i)) ⟨new_same nD, [], upd_same, .nil⟩ (fun _ _ _ q => q.1 _ _ upd_same) (fun i v H1 H2 hi p y => ?_) (fun H1 p => ?_)
    · obtain ⟨t, x, y, rfl, nt, rfl, k1, k2⟩ := y
      obtain ⟨a, ha, rfl, rfl⟩ := dk_pair k1 k2
      obtain ⟨sL, rs, eD, cs⟩ := p
      have ntD : D ≠ t := fun z => by rw [z] at eD; rw [eD] at nt; cases nt
      have s2 : Same H1 (upd H1 t (.tup [.str a.1, .int a.2])) := new_same nt
      refine ⟨t, _, rfl, .of upd_same, rfl, _, _, rfl, _, _, rfl, rfl, rfl, ?_⟩
      refine ⟨_, rfl, ?_⟩
      intro p np
      have s3 : Same (upd H1 t (.tup [.str a.1, .int a.2])) (upd (upd H1 t (.tup [.str a.1, .int a.2])) p (.dK [])) := new_same np
      have sA := (sL.trans s2).trans s3
      refine ⟨_, rfl, r, _, dx, _, _, rfl, sA _ _ e1L, T.c_Rule, T.no_Rule_own_moment, rfl, _, rfl, 1, a.2, rfl, rfl, ?_⟩
      refine ⟨upd_same, [(Sum.inr m, .int (1 - a.2))], rfl, by show 1 ≤ 15; decide, fun x2 dx2 nx2 ndx2 ne2 => ?_⟩
      generalize hH3 : upd (upd (upd H1 t (.tup [.str a.1, .int a.2])) p (.dK [])) p (.dK (mergeK [] [(Sum.inr m, .int (1 - a.2))])) = H3 at nx2 ndx2
      have s13 : Same H1 H3 := by rw [← hH3]; exact s2.trans (s3.wr np)
      have hp3 : H3 p = some (.dK (dk [(m, 1 - a.2)])) := by rw [← hH3, upd_same]; rfl
      refine mkE2 (ss := [(m, 1 - a.2)]) (.inl hp3) (sh_one hm) nx2 ndx2 fun H4 t4 z4 s4 he4 => ⟨rfl, ?_⟩
      have et := perm_one z4
      subst et
      intro x3 dx3 nx3 ndx3 ne3
      have va : VN a.1 := S.v a (List.mem_of_getElem? ha)
      refine mkR2 va (.inl he4) nx3 ndx3 fun H5 s5 hr5 => ⟨rfl, ?_⟩
      have s15 : Same H1 H5 := (s13.trans s4).trans s5
      have eD5 := s15 _ _ eD
      refine ⟨rs.map V.ref, eD5, ?_, (sL.trans s15).wr nD, rs ++ [x3], ?_, ?_⟩
      · have z := paired_len cs
        rw [List.length_take] at z
        rw [List.length_map]
        rw [dk_len] at hi
        exact small_lt (by omega)
      · rw [upd_same, List.map_append]
        rfl
      · rw [List.take_add_one, ha]
        exact (Con1.off eD5 (fun _ _ _ z => nomatch z) (fun _ z => nomatch z) (paired_snoc (cs.mono s15) hr5 : Con1 K H5 m (rs ++ [x3]) (tt.take i ++ [a])))
    · obtain ⟨sL, rs, eD, cs⟩ := p
      have nDf : D ≠ f := fun z => by rw [z, upd_same] at nD; cases nD
      rw [dk_len, List.take_length] at cs
      have ef := sL _ _ upd_same
      refine ⟨ef, q _ D rs (unlock_same e3 sL) ?_ ?_ (cs.off ef (fun _ _ _ z => nomatch z) (fun _ z => nomatch z))⟩
      · rw [upd_ne nDf] at nD
        exact nD
      · rw [upd_ne nDf]
        exact eD
/-! ### == -/
def EqE (K : Fg) : Addr → Addr → Hp → Prop := fun a b H => ∃ tt, EarAt K H a tt ∧ EarAt K H b tt ∧ (ks tt).Nodup
theorem sc_eeq : FnScope ["self", "other"] ["self", "other"] (defScope dEarliestEq.st) := ⟨rfl, rfl, rfl, by decide +kernel, rfl, by decide +kernel, by decide +kernel⟩
theorem ok_eeq (T : Tx K mg) : Cd P w K mg base 1 dEarliestEq ["self", "other"] (spEq (EqE K)) := by
  obtain ⟨fd, F⟩ := T.dEarliestEq
  refine .of F sc_eeq (F.bindsN fun _ _ _ _ _ _ us hl => match us, hl with | [_, _], _ => rfl) (fun vs H Q E h => ?_) (fun cdv A outer s H vs Q E hr h => ?_)
  · obtain ⟨_, _, rfl, _⟩ := h
    rfl
  · obtain ⟨a, b, rfl, ⟨tt, ⟨d, dx, e1, e2⟩, ⟨d2, dx2, g1, g2⟩, hn⟩, q⟩ := h
    have hu := hu_of hr
    refine ⟨_, pss_one (ps_ret (pe_and (pe_callB call_isi (by rfl) T.n_isinstance bt_isinstance (pa_cons (pv 1) (pa_cons (pe_gk (v := .ref (cE K)) ⟨_, T.g_Earliest, rfl⟩) pa_nil)))
      (pe_one (pe_cmpR (op_eq_dictA (Nat.lt_of_succ_lt hu)) (pe_fld (pv 0) rfl) (pe_fld (pv 1) rfl) (nomark _))))), ?_⟩
    refine ⟨_, rfl, _, _, _, _, _, rfl, .own _, .base (.ins g1 T.c_Earliest T.is_Earliest.a T.is_Earliest.b T.is_Earliest.c T.is_Earliest.d), T.kitOne_Earliest_Earliest, true, rfl, iteT ?_⟩
    refine ⟨_, rfl, a, _, dx, _, _, rfl, e1, T.c_Earliest, T.no_Earliest_own_shifts, rfl, _, rfl, b, _, dx2, _, _, rfl, g1, T.c_Earliest, T.no_Earliest_own_shifts, rfl, ?_⟩
    refine ⟨d, d2, dk tt, dk tt, rfl, rfl, e2, g2, rfl, fun p hp => ?_, q H Ext.rfl'⟩
    obtain ⟨z, hz, rfl⟩ := List.mem_map.mp hp
    refine ⟨?_, rfl⟩
    show valV (dk tt) (Sum.inr z.1) = some (.int z.2)
    rw [valV_dk, mem_lk hn (show (z.1, z.2) ∈ tt from hz)]
    rfl
def EqR (K : Fg) : Addr → Addr → Hp → Prop := fun a b H => ∃ m tt, RuleAt K H a m tt ∧ RuleAt K H b m tt ∧ (ks tt).Nodup
theorem sc_req : FnScope ["self", "other"] ["self", "other"] (defScope dRuleEq.st) := ⟨rfl, rfl, rfl, by decide +kernel, rfl, by decide +kernel, by decide +kernel⟩
theorem ok_req (T : Tx K mg) : Cd P w K mg base 2 dRuleEq ["self", "other"] (spEq (EqR K)) := by
  obtain ⟨fd, F⟩ := T.dRuleEq
  have cE : Cd P w K mg base 1 dEarliestEq ["self", "other"] (spEq (EqE K)) := ok_eeq T
  obtain ⟨fe, Fe, be⟩ := cE.ex
  refine .of F sc_req (F.bindsN fun _ _ _ _ _ _ us hl => match us, hl with | [_, _], _ => rfl) (fun vs H Q E h => ?_) (fun cdv A outer s H vs Q E hr h => ?_)
  · obtain ⟨_, _, rfl, _⟩ := h
    rfl
  · obtain ⟨a, b, rfl, ⟨m, tt, ⟨dx, e, e1, he⟩, ⟨dx2, e2, g1, he2⟩, hn⟩, q⟩ := h
    refine ⟨_, pss_cons (ps_if (pt_not (pt_val (pe_callB call_isi (by rfl) T.n_isinstance bt_isinstance (pa_cons (pv 1) (pa_cons (pe_gk (v := .ref (cR K)) ⟨_, T.g_Rule, rfl⟩) pa_nil))))) pss_never pss_nil)
      (pss_one (ps_ret (pe_and (pe_cmpR op_eq (pe_fld (pv 0) rfl) (pe_fld (pv 1) rfl) (nomark _))
        (pe_one (pe_cmpR (op_eqG (D := DIns (K21.cE K) (EqE K)) (rcG_ins (E := E0) Fe T.sp_Earliest_eq.at_ T.sp_Earliest_eq.fn be pass0) hr) (pe_fld (pv 0) rfl) (pe_fld (pv 1) rfl) (nomark _)))))), ?_⟩
    refine ⟨_, rfl, _, _, _, _, _, rfl, .own _, .base (.ins g1 T.c_Rule T.is_Rule.a T.is_Rule.b T.is_Rule.c T.is_Rule.d), T.kitOne_Rule_Rule, true, rfl, iteF ?_⟩
    refine ⟨_, rfl, a, _, dx, _, _, rfl, e1, T.c_Rule, T.no_Rule_own_moment, rfl, _, rfl, b, _, dx2, _, _, rfl, g1, T.c_Rule, T.no_Rule_own_moment, rfl, ?_⟩
    refine ⟨rfl, true, congrArg V.bl (decide_eq_true rfl), iteT ?_⟩
    refine ⟨_, rfl, a, _, dx, _, _, rfl, e1, T.c_Rule, T.no_Rule_own_earliest, rfl, _, rfl, b, _, dx2, _, _, rfl, g1, T.c_Rule, T.no_Rule_own_earliest, rfl, ?_⟩
    obtain ⟨d, dy, k1, k2⟩ := id he
    obtain ⟨d2, dy2, l1, l2⟩ := id he2
    exact ⟨⟨e, e2, dy, dy2, _, _, rfl, rfl, k1, l1, tt, he, he2, hn⟩, q⟩
/-! ### repr -/
def txE (tt : Tb) : Str := ((Str.empty ++ "Earliest(") ++ txD tt) ++ ")"
def txR (m : Str) (tt : Tb) : Str := ((((Str.empty ++ "Rule(") ++ reprText m) ++ ", ") ++ txE tt) ++ ")"
theorem txE_len {tt : Tb} (h : TbOk tt) : (txE tt).length ≤ 4000020 := by
  have z := h.fit
  unfold txE
  rw [strLen_append, strLen_append, strLen_append]
  have e1 : (Str.empty).length = 0 := rfl
  have e2 : ("Earliest(" : Str).length = 9 := by decide
  have e3 : (")" : Str).length = 1 := by decide
  omega
theorem VN.txt {x : Str} (h : VN x) : (reprText x).length ≤ 82 := by
  have z := StrLaws.reprText_len x fun c hc => by
    have z := h.az c hc
    have e : (16 : Nat) ^ 8 = 4294967296 := by decide
    omega
  have y := h.hi
  omega
theorem sz_line : 4000200 ≤ sizeLine := by decide
def spEarRepr (K : Fg) : Sp := fun vs H Q _ => ∃ e tt, vs = [.ref e] ∧ EarAt K H e tt ∧ TbOk tt ∧ Q (.str (txE tt)) H
theorem sc_erepr : FnScope ["self"] ["self"] (defScope dEarliestRepr.st) := ⟨rfl, rfl, rfl, by decide +kernel, rfl, by decide +kernel, by decide +kernel⟩
theorem ok_erepr (T : Tx K mg) : Cg P w K mg base 1 dEarliestRepr ["self"] (spEarRepr K) := by
  obtain ⟨fd, F⟩ := T.dEarliestRepr
  refine .of F sc_erepr (F.bindsN fun _ _ _ _ _ _ us hl => match us, hl with | [_], _ => rfl) (fun vs H Q E h => ?_) (fun cdv A outer s H vs Q E hr hg h => ?_)
  · obtain ⟨_, _, rfl, _⟩ := h
    rfl
  · obtain ⟨e, tt, rfl, ⟨d, dx, e1, e2⟩, ok, q⟩ := h
    have hu : (A.deeper (envOfC dEarliestRepr.ql (defScope dEarliestRepr.st) s.heap.objs.size (dEarliestRepr.pl K) cdv)).units + 64 < cLine := by
      have z := hr.un
      omega
    refine ⟨_, pss_one (ps_ret (pe_joined (.cons pe_str (.cons (pe_fmtT hg hu (pe_fld (pv 0) rfl)) (.cons pe_str .nil))))), ?_⟩
    have l := txE_len ok
    have l0 := ok.fit
    have z := sz_line
    unfold txE at l
    refine ⟨_, rfl, ?_, ?_⟩
    · exact Nat.le_trans (by decide) z
    · refine ⟨_, rfl, e, _, dx, _, _, rfl, e1, T.c_Earliest, T.no_Earliest_own_shifts, rfl, d, tt, rfl, .inl e2, ok, _, rfl, ?_, _, rfl, ?_, q⟩
      · rw [strLen_append] at l
        omega
      · omega
def spRuleRepr (K : Fg) : Sp := fun vs H Q _ => ∃ r m tt, vs = [.ref r] ∧ RuleAt K H r m tt ∧ VN m ∧ TbOk tt ∧ Q (.str (txR m tt)) H
theorem sc_rrepr : FnScope ["self"] ["self"] (defScope dRuleRepr.st) := ⟨rfl, rfl, rfl, by decide +kernel, rfl, by decide +kernel, by decide +kernel⟩
theorem ok_rrepr (T : Tx K mg) : Cg P w K mg base 2 dRuleRepr ["self"] (spRuleRepr K) := by
  obtain ⟨fd, F⟩ := T.dRuleRepr
  have cE : Cg P w K mg base 1 dEarliestRepr ["self"] (spEarRepr K) := ok_erepr T
  refine .of F sc_rrepr (F.bindsN fun _ _ _ _ _ _ us hl => match us, hl with | [_], _ => rfl) (fun vs H Q E h => ?_) (fun cdv A outer s H vs Q E hr hg h => ?_)
  · obtain ⟨_, _, _, rfl, _⟩ := h
    rfl
  · obtain ⟨r, m, tt, rfl, ⟨dx, e, e1, he⟩, hm, ok, q⟩ := h
    obtain ⟨d, dy, g1, g2⟩ := id he
    refine ⟨_, pss_one (ps_ret (pe_joined (.cons pe_str (.cons (pe_fmtR (pe_fld (pv 0) rfl)) (.cons pe_str (.cons (pe_fmtO cE hr hg T.sp_Earliest_repr.at_ T.sp_Earliest_repr.fn (pe_fld (pv 0) rfl)) (.cons pe_str .nil))))))), ?_⟩
    have l := txE_len ok
    have l2 := hm.txt
    have z := sz_line
    have a1 : (Str.empty).length = 0 := rfl
    have a2 : ("Rule(" : Str).length = 5 := by decide
    have a3 : (", " : Str).length = 2 := by decide
    have a4 : (")" : Str).length = 1 := by decide
    refine ⟨_, rfl, ?_, ?_⟩
    · rw [strLen_append]
      omega
    refine ⟨_, rfl, r, _, dx, _, _, rfl, e1, T.c_Rule, T.no_Rule_own_moment, rfl, .inl ⟨m, rfl, by omega, _, rfl, ?_, ?_⟩⟩
    · rw [strLen_append, strLen_append]
      omega
    refine ⟨_, rfl, ?_, ?_⟩
    · rw [strLen_append, strLen_append, strLen_append]
      omega
    refine ⟨_, rfl, r, _, dx, _, _, rfl, e1, T.c_Rule, T.no_Rule_own_earliest, rfl, e, dy, _, rfl, g1, e, tt, rfl, he, ok, _, rfl, by omega, _, rfl, ?_, ?_⟩
    · rw [strLen_append, strLen_append, strLen_append, strLen_append]
      omega
    refine ⟨_, rfl, ?_, q⟩
    rw [strLen_append, strLen_append, strLen_append, strLen_append, strLen_append]
    omega
end
end K21
set_option maxHeartbeats 4000000
/-! the law's pot: pot, draw, pick, number -/
namespace K21
open PySem PySem.Spec PyProof.Rows L2 He
def PotAt (H : Hp) (p : Addr) : Prop := ∃ a b : Int, H p = some (.lst [.int a, .int b]) ∧ 0 ≤ a ∧ 0 ≤ b ∧ b < 2147483630
/-- all but p stays -/
def Off (p : Addr) (H H' : Hp) : Prop := ∀ b o, b ≠ p → H b = some o → H' b = some o
theorem Off.refl {p : Addr} {H : Hp} : Off p H H := fun _ _ _ e => e
theorem Off.trans {p : Addr} {H H1 H2 : Hp} (a : Off p H H1) (b : Off p H1 H2) : Off p H H2 := fun c o n e => b c o n (a c o n e)
theorem Off.of {p : Addr} {H H' : Hp} (s : Same H H') : Off p H H' := fun b o _ e => s b o e
theorem Off.set {p : Addr} {H : Hp} {o : HO} : Off p H (upd H p o) := fun b u n e => by
  rw [upd_ne n]
  exact e
/-- what H knows not may be written -/
theorem Off.wr {p a : Addr} {H H' : Hp} {o : HO} (s : Off p H H') (h : H a = none) : Off p H (upd H' a o) := fun b u n e => by
  rw [upd_ne (ne_of_none e h)]
  exact s b u n e
theorem PotAt.mono {H H' : Hp} {p : Addr} (s : Same H H') (h : PotAt H p) : PotAt H' p := let ⟨a, b, e, r⟩ := h; ⟨a, b, s _ _ e, r⟩
/-- a pot, drawn from: the rest stays, a pot it is again -/
structure Dr (p : Addr) (H H' : Hp) : Prop where
  off : Off p H H'
  pot : PotAt H' p
theorem Dr.trans {p : Addr} {H H1 H2 : Hp} (a : Dr p H H1) (b : Dr p H1 H2) : Dr p H H2 := ⟨a.off.trans b.off, b.pot⟩
theorem Dr.same {p : Addr} {H H1 H2 : Hp} (a : Dr p H H1) (s : Same H1 H2) : Dr p H H2 := ⟨a.off.trans (.of s), a.pot.mono s⟩
theorem Dr.start {p : Addr} {H : Hp} (h : PotAt H p) : Dr p H H := ⟨.refl, h⟩
theorem Dr.sq {K : Fg} {p a : Addr} {H H' : Hp} {xs : List V} (d : Dr p H H') (n : a ≠ p) (h : SqL K H a xs) : SqL K H' a xs := by
  rcases h with (h | ⟨o, h⟩) | h
  · exact .inl (.inl (d.off _ _ n h))
  · exact .inl (.inr ⟨o, d.off _ _ n h⟩)
  · exact .inr h
section
variable {P : Program} {w : World} {K : Fg} {mg : Str → Option Value} {base : Heap}
/-! ### pot -/
def spPot (K : Fg) : Sp := fun vs H Q _ => ∃ (s : Addr) (k : Int) (ns : List Int), vs = [.ref s, .int k] ∧ SqL K H s (ns.map V.int) ∧ 0 ≤ k ∧ k < 1000 ∧ ∀ H' p, Same H H' → H p = none → PotAt H' p → Q (.ref p) H'
theorem sc_pot : FnScope ["_law_script", "_law_k", "_law_cell"] ["_law_script", "_law_k"] (defScope dLawPot.st) := ⟨rfl, rfl, rfl, by decide +kernel, rfl, by decide +kernel, by decide +kernel⟩
theorem ok_pot (T : Tx K mg) : Cd P w K mg base 1 dLawPot ["_law_script", "_law_k"] (spPot K) := by
  obtain ⟨fd, F⟩ := T.dLawPot
  refine .of F sc_pot (F.bindsN fun _ _ _ _ _ _ us hl => match us, hl with | [_, _], _ => rfl) (fun vs H Q E h => ?_) (fun cdv A outer s0 H vs Q E hr h => ?_)
  · obtain ⟨_, _, _, rfl, _⟩ := h
    rfl
  · obtain ⟨s, k, ns, rfl, hs, k0, k1, q⟩ := h
    refine ⟨_, pss_cons (ps_set (i := 2) sc_pot.nd rfl (Or.inl rfl) (pe_op op_add (pe_op op_mul pe_int (pv 1)) pe_int))
      (pss_cons (ps_if (pt_cmpR op_lt (pv 1) (pe_callB call_len_seq (by rfl) T.n_len bt_len (pa_cons (pv 0) pa_nil)) (nomark _))
        (pss_one (ps_set (i := 2) sc_pot.nd rfl (Or.inl rfl) (pe_callB call_abs (by rfl) T.n_abs bt_abs (pa_cons (pe_ix ix_list (pv 0) (pv 1) (fun _ _ => rfl)) pa_nil)))) pss_nil)
      (pss_one (ps_ret (pe_lst (pa_cons (pe_callB (call_max2 rfl) (by rfl) T.n_max bt_max (pa_cons pe_int (pa_cons (pe_op op_sub (pv 2) (pe_op op_pow pe_int pe_int)) pa_nil)))
        (pa_cons (pe_op op_add (pe_op op_mod (pe_callTy call_int1 (by rfl) T.n_int bt_int (pa_cons (pe_op op_add (pe_op op_add (pe_op op_mul (pe_op op_mod (pe_callTy call_int1 (by rfl) T.n_int bt_int (pa_cons (pv 2) pa_nil)) pe_int) pe_int) (pe_op op_mul pe_int (pv 1))) pe_int) pa_nil)) pe_int) pe_int) pa_nil)))))), ?_⟩
    have fin : ∀ c : Int, (tLst (tCons (tCB (fun xs H Q => ∃ i j, xs = [.int i, .int j] ∧ Q (.int (if j > i then j else i)) H) (tCons (tC (.int 0)) (tCons (tOp (rI0 fun i j => .int (i - j)) (tVar 2) (tOp (rI CPow fun i j => .int (i ^ j.toNat)) (tC (.int 10)) (tC (.int 18)))) tNil)))
        (tCons (tOp (rI0 fun i j => .int (i + j)) (tOp (rI (fun _ j => 0 < j) fun i j => .int (i % j)) (tCB (fun xs H Q => (∃ i, xs = [V.int i] ∧ Q (.int i) H) ∨ ∃ k, xs = [V.bl k] ∧ Q (.int (if k then 1 else 0)) H)
          (tCons (tOp (rI0 fun i j => .int (i + j)) (tOp (rI0 fun i j => .int (i + j)) (tOp (rI CMul fun i j => .int (i * j)) (tOp (rI (fun _ j => 0 < j) fun i j => .int (i % j)) (tCB (fun xs H Q => (∃ i, xs = [V.int i] ∧ Q (.int i) H) ∨ ∃ k, xs = [V.bl k] ∧ Q (.int (if k then 1 else 0)) H) (tCons (tVar 2) tNil)) (tC (.int 2147483587))) (tC (.int 48271))) (tOp (rI CMul fun i j => .int (i * j)) (tC (.int 9973)) (tVar 1))) (tC (.int 41))) tNil)) (tC (.int 2147483629))) (tC (.int 1))) tNil))) [some (.ref s), some (.int k), some (.int c)] H Q := by
      intro c
      refine ⟨_, rfl, 10, 18, rfl, rfl, ⟨by decide, by decide, by decide⟩, c, _, rfl, rfl, 0, _, rfl, ?_⟩
      refine ⟨_, rfl, .inl ⟨c, rfl, c, 2147483587, rfl, rfl, (show (0 : Int) < 2147483587 by decide), _, _, rfl, rfl, .inr ⟨by decide, by decide⟩, ?_⟩⟩
      refine ⟨_, rfl, 9973, k, rfl, rfl, .inl ⟨by decide, by decide⟩, _, _, rfl, rfl, _, _, rfl, rfl, .inl ⟨_, rfl, _, _, rfl, rfl, (show (0 : Int) < 2147483629 by decide), _, _, rfl, rfl, ?_⟩⟩
      refine ⟨small_le (n := 2) (by decide), fun p np => q _ p (new_same np) np ⟨_, _, upd_same, ?_, ?_, ?_⟩⟩
      · split <;> omega
      · have z := Int.emod_nonneg (c % 2147483587 * 48271 + 9973 * k + 41) (show (2147483629 : Int) ≠ 0 by decide)
        omega
      · have z := Int.emod_lt_of_pos (c % 2147483587 * 48271 + 9973 * k + 41) (show (0 : Int) < 2147483629 by decide)
        omega
    refine ⟨_, rfl, 29, k, rfl, rfl, .inl ⟨by decide, by decide⟩, _, _, rfl, rfl, ?_⟩
    by_cases hk : k < ns.length
    · refine ⟨_, rfl, _, rfl, s, _, rfl, .inl hs, k, _, rfl, rfl, true, congrArg V.bl (decide_eq_true (by rw [List.length_map]; exact hk)), iteT ?_⟩
      have kn : k.toNat < ns.length := by omega
      refine ⟨_, rfl, _, rfl, s, _, k, .int ns[k.toNat], rfl, rfl, hs, ?_, _, rfl, ?_⟩
      · unfold atI
        rw [show ixN (ns.map V.int).length k = some k.toNat by
          unfold ixN
          rw [if_pos k0, List.length_map]
          rw [if_pos (by omega)]]
        show (ns.map V.int)[k.toNat]? = _
        rw [List.getElem?_map, List.getElem?_eq_getElem kn]
        rfl
      · exact fin _
    · refine ⟨_, rfl, _, rfl, s, _, rfl, .inl hs, k, _, rfl, rfl, false, congrArg V.bl (decide_eq_false (by rw [List.length_map]; exact hk)), iteF ?_⟩
      exact fin _
/-! ### draw -/
def spDraw : Sp := fun vs H Q _ => ∃ p m, vs = [.ref p, .int m] ∧ PotAt H p ∧ 0 < m ∧ m < 1073741824 ∧ ∀ H' d, Dr p H H' → 0 ≤ d → d < m → Q (.int d) H'
theorem sc_draw : FnScope ["_law_pot_here", "_law_many", "_law_digit"] ["_law_pot_here", "_law_many"] (defScope dLawDraw.st) := ⟨rfl, rfl, rfl, by decide +kernel, rfl, by decide +kernel, by decide +kernel⟩
theorem ok_draw (T : Tx K mg) : Cd P w K mg base 1 dLawDraw ["_law_pot_here", "_law_many"] spDraw := by
  obtain ⟨fd, F⟩ := T.dLawDraw
  refine .of F sc_draw (F.bindsN fun _ _ _ _ _ _ us hl => match us, hl with | [_, _], _ => rfl) (fun vs H Q E h => ?_) (fun cdv A outer s0 H vs Q E hr h => ?_)
  · obtain ⟨_, _, rfl, _⟩ := h
    rfl
  · obtain ⟨p, m, rfl, ⟨a, b, e, a0, b0, b1⟩, m0, m1, q⟩ := h
    refine ⟨_, pss_cons (ps_if (pt_cmpR op_gt (pe_ix ix_list (pv 0) pe_int (fun _ _ => rfl)) pe_int (nomark _))
        (pss_cons (ps_asg (pe_callB call_divmod (by rfl) T.n_divmod bt_divmod (pa_cons (pe_ix ix_list (pv 0) pe_int (fun _ _ => rfl)) (pa_cons (pv 1) pa_nil))) (pg_tup rfl (pgs_cons (pg_sub (pv 0) pe_int set_list) (pgs_cons (pg_name (i := 2) sc_draw.nd rfl (Or.inl rfl)) pgs_nil))))
          (pss_one (ps_ret (pv 2)))) pss_nil)
      (pss_cons (ps_asg (pe_op op_mod (pe_callTy call_int1 (by rfl) T.n_int bt_int (pa_cons (pe_op op_add (pe_op op_mul (pe_ix ix_list (pv 0) pe_int (fun _ _ => rfl)) pe_int) pe_int) pa_nil)) pe_int) (pg_sub (pv 0) pe_int set_list))
      (pss_one (ps_ret (pe_op op_mod (pe_callTy call_int1 (by rfl) T.n_int bt_int (pa_cons (pe_op op_fdiv (pe_op op_mod (pe_callTy call_int1 (by rfl) T.n_int bt_int (pa_cons (pe_op op_mul (pe_ix ix_list (pv 0) pe_int (fun _ _ => rfl)) (pe_ix ix_list (pv 0) pe_int (fun _ _ => rfl))) pa_nil)) pe_int) pe_int) pa_nil)) (pv 1))))), ?_⟩
    by_cases ha : 0 < a
    · refine ⟨_, rfl, p, _, 0, _, rfl, rfl, .of e, rfl, _, _, rfl, rfl, true, congrArg V.bl (decide_eq_true ha), iteT ?_⟩
      refine ⟨_, rfl, p, _, 0, _, rfl, rfl, .of e, rfl, _, rfl, a, m, rfl, ⟨m0, m1⟩, fun t nt => ?_⟩
      have ntp : p ≠ t := fun z => by rw [z, nt] at e; cases e
      refine ⟨t, _, rfl, .of upd_same, rfl, _, _, rfl, _, rfl, p, _, 0, 0, rfl, rfl, by rw [upd_ne ntp]; exact e, rfl, _, _, rfl, rfl, _, rfl, ?_⟩
      refine q _ _ ⟨fun c o nc ec => ?_, a / m, b, upd_same, Int.ediv_nonneg (by omega) (by omega), b0, b1⟩ (Int.emod_nonneg _ (by omega)) (Int.emod_lt_of_pos _ m0)
      rw [upd_ne nc, upd_ne (ne_of_none ec nt)]
      exact ec
    · refine ⟨_, rfl, p, _, 0, _, rfl, rfl, .of e, rfl, _, _, rfl, rfl, false, congrArg V.bl (decide_eq_false ha), iteF ?_⟩
      refine ⟨_, rfl, p, _, 1, _, rfl, rfl, .of e, rfl, b, 40693, rfl, rfl, .inr ⟨by decide, by decide⟩, _, _, rfl, rfl, .inl ⟨_, rfl, _, _, rfl, rfl, (show (0 : Int) < 2147483629 by decide), ?_⟩⟩
      refine ⟨_, rfl, p, _, 1, 1, rfl, rfl, e, rfl, ?_⟩
      have z1 := Int.emod_nonneg (b * 40693 + 30011) (show (2147483629 : Int) ≠ 0 by decide)
      have z2 := Int.emod_lt_of_pos (b * 40693 + 30011) (show (0 : Int) < 2147483629 by decide)
      refine ⟨_, rfl, p, _, 1, _, rfl, rfl, .of upd_same, rfl, _, rfl, p, _, 1, _, rfl, rfl, .of upd_same, rfl, (b * 40693 + 30011) % 2147483629, (b * 40693 + 30011) % 2147483629, rfl, rfl, .inl ⟨by omega, by omega⟩, .inl ⟨_, rfl, _, _, rfl, rfl, (show (0 : Int) < 2147483563 by decide), _, _, rfl, rfl, ⟨by decide, by decide⟩, .inl ⟨_, rfl, _, rfl, _, _, rfl, rfl, m0, ?_⟩⟩⟩
      exact q _ _ ⟨.set, a, _, upd_same, a0, z1, by omega⟩ (Int.emod_nonneg _ (by omega)) (Int.emod_lt_of_pos _ m0)
end
end K21
set_option maxHeartbeats 4000000
/-! pick, number, mixed -/
namespace K21
open PySem PySem.Spec PyProof.Rows L2 He
theorem at_ok {α : Type} {xs : List α} {d : Int} (h0 : 0 ≤ d) (h1 : d < xs.length) : ∃ v, atI xs d = some v ∧ v ∈ xs ∧ xs[d.toNat]? = some v := by
  have l : d.toNat < xs.length := by omega
  have e : atI xs d = xs[d.toNat]? := by
    unfold atI ixN
    rw [if_pos h0, if_pos (by omega)]
    rfl
  exact ⟨xs[d.toNat], by rw [e, List.getElem?_eq_getElem l], List.getElem_mem l, List.getElem?_eq_getElem l⟩
theorem PotAt.ne {H : Hp} {p a : Addr} (h : PotAt H p) (n : H a = none) : a ≠ p := fun z => by
  obtain ⟨_, _, e, _⟩ := h
  rw [← z, n] at e
  cases e
section
variable {P : Program} {w : World} {K : Fg} {mg : Str → Option Value} {base : Heap}
/-! ### pick -/
def spPick (K : Fg) : Sp := fun vs H Q _ => ∃ (p l : Addr) (xs : List V), vs = [.ref p, .ref l] ∧ PotAt H p ∧ l ≠ p ∧ SqL K H l xs ∧ 0 < xs.length ∧ xs.length < 1000 ∧ ∀ H' v, Dr p H H' → v ∈ xs → Q v H'
theorem sc_pick : FnScope ["_law_pot_here", "_law_some"] ["_law_pot_here", "_law_some"] (defScope dLawPick.st) := ⟨rfl, rfl, rfl, by decide +kernel, rfl, by decide +kernel, by decide +kernel⟩
theorem ok_pick (T : Tx K mg) : Cd P w K mg base 2 dLawPick ["_law_pot_here", "_law_some"] (spPick K) := by
  obtain ⟨fd, F⟩ := T.dLawPick
  have cD : Cd P w K mg base 1 dLawDraw ["_law_pot_here", "_law_many"] spDraw := ok_draw T
  refine .of F sc_pick (F.bindsN fun _ _ _ _ _ _ us hl => match us, hl with | [_, _], _ => rfl) (fun vs H Q E h => ?_) (fun cdv A outer s0 H vs Q E hr h => ?_)
  · obtain ⟨_, _, _, rfl, _⟩ := h
    rfl
  · obtain ⟨p, l, xs, rfl, hp, ne, hl, l0, l1, q⟩ := h
    refine ⟨_, pss_one (ps_ret (pe_ix ix_list (pv 1) (pe_cd cD hr T.g_law_draw (pa_cons (pv 0) (pa_cons (pe_callB call_len_seq (by rfl) T.n_len bt_len (pa_cons (pv 1) pa_nil)) pa_nil))) (fun _ _ => rfl))), ?_⟩
    refine ⟨_, rfl, _, rfl, _, rfl, l, xs, rfl, .inl hl, p, _, rfl, hp, by omega, by omega, fun H1 d dr d0 d1 => ?_⟩
    obtain ⟨v, e1, e2, _⟩ := at_ok d0 d1
    exact ⟨l, xs, d, v, rfl, rfl, dr.sq ne hl, e1, q H1 v dr e2⟩
/-! ### number -/
def spNumber : Sp := fun vs H Q _ => ∃ p, vs = [.ref p] ∧ PotAt H p ∧ ∀ H' n, Dr p H H' → Sz 200 n → Q (.int n) H'
theorem sc_number : FnScope ["_law_pot_here", "_law_found", "_law_turn"] ["_law_pot_here"] (defScope dLawNumber.st) := ⟨rfl, rfl, rfl, by decide +kernel, rfl, by decide +kernel, by decide +kernel⟩
theorem ok_number (T : Tx K mg) : Cd P w K mg base 3 dLawNumber ["_law_pot_here"] spNumber := by
  obtain ⟨fd, F⟩ := T.dLawNumber
  have cD : Cd P w K mg base 1 dLawDraw ["_law_pot_here", "_law_many"] spDraw := ok_draw T
  have cP : Cd P w K mg base 2 dLawPick ["_law_pot_here", "_law_some"] (spPick K) := ok_pick T
  refine .of F sc_number (F.bindsN fun _ _ _ _ _ _ us hl => match us, hl with | [_], _ => rfl) (fun vs H Q E h => ?_) (fun cdv A outer s0 H vs Q E hr h => ?_)
  · obtain ⟨_, rfl, _⟩ := h
    rfl
  · obtain ⟨p, rfl, hp, q⟩ := h
    refine ⟨_, pss_cons (ps_if (pt_cmpR op_gt (pe_cd cD hr T.g_law_draw (pa_cons (pv 0) (pa_cons pe_int pa_nil))) pe_int (nomark _))
        (pss_one (ps_ret (pe_op op_sub (pe_cd cD hr T.g_law_draw (pa_cons (pv 0) (pa_cons pe_int pa_nil))) pe_int))) pss_nil)
      (pss_cons (ps_set (i := 1) sc_number.nd rfl (Or.inl rfl) (pe_cd cD hr T.g_law_draw (pa_cons (pv 0) (pa_cons pe_int pa_nil))))
      (pss_cons (ps_for PassesOwn.never rfl (pi_range1 (by rfl) T.n_range (pa_cons (pe_cd cP hr T.g_law_pick (pa_cons (pv 0) (pa_cons (pe_lst (pa_cons pe_int (pa_cons pe_int (pa_cons pe_int pa_nil)))) pa_nil))) pa_nil)) (pg_name (i := 2) sc_number.nd rfl (Or.inl rfl))
        (pss_one (ps_set (i := 1) sc_number.nd rfl (Or.inl rfl) (pe_op op_add (pe_op op_mul (pv 1) (pe_op op_pow pe_int pe_int)) (pe_cd cD hr T.g_law_draw (pa_cons (pv 0) (pa_cons (pe_op op_pow pe_int pe_int) pa_nil)))))))
      (pss_one (ps_ret (pe_op op_mul (pv 1) (pe_cd cP hr T.g_law_pick (pa_cons (pv 0) (pa_cons (pe_lst (pa_cons pe_int (pa_cons (pe_un un_neg pe_int) pa_nil))) pa_nil)))))))), ?_⟩
    refine ⟨_, rfl, p, 4, rfl, hp, by decide, by decide, fun H1 d1 r1 a1 b1 => ?_⟩
    refine ⟨d1, 0, rfl, rfl, ?_⟩
    by_cases hd : 0 < d1
    · refine ⟨true, congrArg V.bl (decide_eq_true hd), iteT ?_⟩
      refine ⟨_, rfl, p, 19, rfl, r1.pot, by decide, by decide, fun H2 d2 r2 a2 b2 => ?_⟩
      refine ⟨d2, 9, rfl, rfl, q H2 _ (r1.trans r2) ?_⟩
      have z : (d2 - 9).natAbs < 2 ^ 5 := by omega
      exact Sz.mono (j := 5) z (by decide)
    · refine ⟨false, congrArg V.bl (decide_eq_false hd), iteF ?_⟩
      refine ⟨_, rfl, p, 100, rfl, r1.pot, by decide, by decide, fun H2 d2 r2 a2 b2 => ?_⟩
      have r12 := r1.trans r2
      refine ⟨_, rfl, small_le (n := 3) (by decide), fun l nl => ?_⟩
      have r12l := r12.same (new_same (o := .lst [.int 1, .int 3, .int 8]) nl)
      refine ⟨p, l, [.int 1, .int 3, .int 8], rfl, r12l.pot, r12.pot.ne nl, .of upd_same, by decide, by decide, fun H3 v r3 hv => ?_⟩
      obtain ⟨j, rfl, j0, j8⟩ : ∃ j : Int, v = .int j ∧ 0 ≤ j ∧ j ≤ 8 := by
        rcases List.mem_cons.mp hv with rfl | hv
        · exact ⟨1, rfl, by decide, by decide⟩
        rcases List.mem_cons.mp hv with rfl | hv
        · exact ⟨3, rfl, by decide, by decide⟩
        rcases List.mem_cons.mp hv with rfl | hv
        · exact ⟨8, rfl, by decide, by decide⟩
        · cases hv
      refine ⟨j, rfl, by omega, by omega, ?_⟩
      refine for_range (fun i σ H' => ∃ (f : Int) (v2 : Option V), σ = [some (.ref p), some (.int f), v2] ∧ Dr p H H' ∧ 0 ≤ f ∧ f < 100 * 10000000 ^ i) ⟨d2, none, rfl, r12l.trans r3, a2, by omega⟩ (fun i σ H4 hi hP => ?_) (fun σ H4 hP => ?_)
      · obtain ⟨f, v2, rfl, r4, f0, f1⟩ := hP
        refine ⟨_, rfl, 10, 7, rfl, rfl, ⟨by decide, by decide, by decide⟩, f, _, rfl, rfl, .inr ⟨by decide, by decide⟩, ?_⟩
        refine ⟨_, rfl, 10, 7, rfl, rfl, ⟨by decide, by decide, by decide⟩, p, 10000000, rfl, r4.pot, by decide, by decide, fun H5 d5 r5 a5 b5 => ?_⟩
        refine ⟨_, _, rfl, rfl, _, _, rfl, r4.trans r5, ?_, ?_⟩
        · show 0 ≤ f * 10 ^ 7 + d5
          omega
        · show f * 10 ^ 7 + d5 < 100 * 10000000 ^ (i + 1)
          have e : (10000000 : Int) ^ (i + 1) = (10000000 : Int) ^ i * 10000000 := Int.pow_succ _ _
          rw [e]
          generalize (10000000 : Int) ^ i = t at f1 ⊢
          omega
      · obtain ⟨f, v2, rfl, r4, f0, f1⟩ := hP
        have fb : Sz 199 f := by
          have z : (100 : Int) * 10000000 ^ j.toNat ≤ 100 * 10000000 ^ 8 := by
            have z2 : (10000000 : Nat) ^ j.toNat ≤ 10000000 ^ 8 := Nat.pow_le_pow_right (by decide) (by omega)
            have z3 : ((10000000 : Nat) ^ j.toNat : Int) ≤ ((10000000 : Nat) ^ 8 : Int) := by exact_mod_cast z2
            have z4 : ((10000000 : Nat) : Int) = 10000000 := rfl
            rw [z4] at z3
            omega
          have z5 : (100 : Int) * 10000000 ^ 8 < 2 ^ 199 := by decide
          unfold Sz
          have z6 : f < 2 ^ 199 := by omega
          have z7 : (f.natAbs : Int) = f := Int.natAbs_of_nonneg f0
          have z8 : (f.natAbs : Int) < ((2 ^ 199 : Nat) : Int) := by rw [z7]; exact z6
          exact Int.ofNat_lt.mp z8
        refine ⟨_, rfl, _, rfl, _, rfl, small_le (n := 2) (by decide), fun l2 nl2 => ?_⟩
        have r4l := r4.same (new_same (o := .lst [.int 1, .int (-1)]) nl2)
        refine ⟨p, l2, [.int 1, .int (-1)], rfl, r4l.pot, r4.pot.ne nl2, .of upd_same, by decide, by decide, fun H5 v r5 hv => ?_⟩
        rcases List.mem_cons.mp hv with rfl | hv
        · refine ⟨f, 1, rfl, rfl, .inr ⟨by decide, by decide⟩, q H5 _ (r4l.trans r5) ?_⟩
          rw [Int.mul_one]
          exact fb.mono (by decide)
        · rcases List.mem_cons.mp hv with rfl | hv
          · refine ⟨f, -1, rfl, rfl, .inr ⟨by decide, by decide⟩, q H5 _ (r4l.trans r5) ?_⟩
            have z : f * -1 = -f := by omega
            show Sz 200 (f * -1)
            rw [z]
            unfold Sz
            rw [Int.natAbs_neg]
            exact fb.mono (by decide)
          · cases hv
end
end K21
set_option maxHeartbeats 4000000
/-! mixed, shifts -/
namespace K21
open PySem PySem.Spec PyProof.Rows L2 He
/-! ### lists of texts as data -/
theorem VN.ok {x : Str} (h : VN x) : PyData.strOk x = true := by
  show x.cps.all (· < 0x110000) = true
  rw [← Array.all_toList, List.all_eq_true]
  intro c hc
  have z := h.az c hc
  exact decide_eq_true (by omega)
theorem strs_shaped {xs : List Str} (h : ∀ x ∈ xs, PyData.strOk x = true) : SeqAt.shaped (.list (xs.map .str)) = true := by
  have e : PyData.canLayAll0 (xs.map .str) = true := by
    rw [canLayAll_strs', List.all_eq_true]
    exact h
  have dp : ∀ ys : List Str, PyData.depthAll (ys.map .str) = 0 := fun ys => by
    induction ys with
    | nil => rfl
    | cons y r ih =>
      show max 0 (PyData.depthAll (r.map .str)) = 0
      rw [ih]
      rfl
  show (PyData.canLayAll0 (xs.map .str) && decide (PyData.depthAll (xs.map .str) + 1 ≤ 64)) = true
  rw [e, dp]
  rfl
theorem strs_dp {K : Fg} {H : Hp} : ∀ xs : List Str, DpAll K H (xs.map V.str) (xs.map .str)
  | [] => .nil
  | x :: r => .cons (.str x) (strs_dp r)
theorem eqv_self : ∀ xs : List Str, PyData.eqvAll (xs.map .str) (xs.map .str) = true
  | [] => rfl
  | x :: r => by
    show ((x == x) && PyData.eqvAll (r.map .str) (r.map .str)) = true
    rw [eqv_self r, beq_self_eq_true]
    rfl
theorem erase_cons {α : Type} : ∀ (l : List α) (i : Nat) (y : α), l[i]? = some y → (y :: l.eraseIdx i).Perm l
  | [], i, y, e => by simp at e
  | a :: l, 0, y, e => by
    have q : a = y := Option.some.inj e
    subst q
    exact List.Perm.refl _
  | a :: l, i + 1, y, e => (List.Perm.swap a y _).trans ((erase_cons l i y e).cons a)
theorem erase_map {α β : Type} (f : α → β) : ∀ (l : List α) (i : Nat), (l.map f).eraseIdx i = (l.eraseIdx i).map f
  | [], _ => rfl
  | _ :: _, 0 => rfl
  | a :: l, i + 1 => congrArg (f a :: ·) (erase_map f l i)
/-- a list of names at l -/
def NmAt (H : Hp) (l : Addr) (xs : List Str) : Prop := H l = some (.lst (xs.map V.str))
section
variable {P : Program} {w : World} {K : Fg} {mg : Str → Option Value} {base : Heap}
/-! ### mixed -/
def spMixed (K : Fg) : Sp := fun vs H Q _ => ∃ (p l : Addr) (xs : List Str), vs = [.ref p, .ref l] ∧ PotAt H p ∧ l ≠ p ∧ SqL K H l (xs.map V.str) ∧ (∀ x ∈ xs, VN x) ∧ xs.length < 1000 ∧ ∀ H' q ys, Dr p H H' → H q = none → NmAt H' q ys → ys.Perm xs → q ≠ p → Q (.ref q) H'
theorem sc_mixed : FnScope ["_law_pot_here", "_law_some", "_law_rest", "_law_found"] ["_law_pot_here", "_law_some"] (defScope dLawMixed.st) := ⟨rfl, rfl, rfl, by decide +kernel, rfl, by decide +kernel, by decide +kernel⟩
theorem ok_mixed (T : Tx K mg) : Cd P w K mg base 2 dLawMixed ["_law_pot_here", "_law_some"] (spMixed K) := by
  obtain ⟨fd, F⟩ := T.dLawMixed
  have cD : Cd P w K mg base 1 dLawDraw ["_law_pot_here", "_law_many"] spDraw := ok_draw T
  refine .of F sc_mixed (F.bindsN fun _ _ _ _ _ _ us hl => match us, hl with | [_, _], _ => rfl) (fun vs H Q E h => ?_) (fun cdv A outer s0 H vs Q E hr h => ?_)
  · obtain ⟨_, _, _, rfl, _⟩ := h
    rfl
  · obtain ⟨p, l, xs, rfl, hp, ne, hl, hv, l1, q⟩ := h
    refine ⟨_, pss_cons (ps_par (i := 2) (j := 3) rfl sc_mixed.nd rfl rfl (by decide) rfl rfl (pa_cons (pe_callTy call_list_of (by rfl) T.n_list bt_list (pa_cons (pv 1) pa_nil)) (pa_cons (pe_lst pa_nil) pa_nil)) (by rfl))
      (pss_cons (ps_while PassesOwn.never (pt_cmpR (op_neD hr.units) (pv 2) (pe_lst pa_nil) (nomark _))
        (pss_one (ps_expr (pe_bm PySem.F.plainAttrs_list PySem.F.slot_list_append PySem.F.type_list_append mt_append (pv 3) (pa_cons (pe_bm PySem.F.plainAttrs_list PySem.F.slot_list_pop PySem.F.type_list_pop mt_popAt (pv 2)
          (pa_cons (pe_cd cD hr T.g_law_draw (pa_cons (pv 0) (pa_cons (pe_callB call_len_seq (by rfl) T.n_len bt_len (pa_cons (pv 2) pa_nil)) pa_nil))) pa_nil)) pa_nil)))))
      (pss_one (ps_ret (pv 3)))), ?_⟩
    refine ⟨_, rfl, l, _, rfl, .inl hl, fun r nr => ?_⟩
    refine ⟨small_le (n := 0) (by decide), fun f nf => ?_⟩
    have nfr : f ≠ r := fun z => by rw [z, upd_same] at nf; cases nf
    have nfH : H f = none := by rw [upd_ne nfr] at nf; exact nf
    have nrp := hp.ne nr
    have nfp := hp.ne nfH
    have s2 : Same H (upd (upd H r (.lst (xs.map V.str))) f (.lst [])) := ((new_same nr).wr nfH)
    refine ⟨_, _, rfl, ?_⟩
    refine ⟨fun m σ' H' => ∃ R F : List Str, R.length = m ∧ σ' = [some (.ref p), some (.ref l), some (.ref r), some (.ref f)] ∧ Dr p H H' ∧ NmAt H' r R ∧ NmAt H' f F ∧ (F ++ R).Perm xs,
      ⟨xs.length, xs, [], rfl, rfl, (Dr.start hp).same s2, by show (upd (upd H r _) f _) r = _; rw [upd_ne nfr.symm, upd_same], upd_same, List.Perm.refl _⟩, ?_⟩
    rintro m σ' H' ⟨R, F, rfl, rfl, dr, eR, eF, pm⟩
    have lt : F.length + R.length < 1000 := by
      have z := pm.length_eq
      rw [List.length_append] at z
      omega
    have vR : ∀ x ∈ R, VN x := fun x hx => hv x (pm.mem_iff.mp (List.mem_append_right _ hx))
    have eR1 : H' r = some (.lst (R.map V.str)) := eR
    have eF1 : H' f = some (.lst (F.map V.str)) := eF
    refine ⟨_, rfl, small_le (n := 0) (by decide), fun z nz => ?_⟩
    have s3 : Same H' (upd H' z (.lst [])) := new_same nz
    refine ⟨.list (R.map .str), .list [], .lst (.of (s3 _ _ eR1)) (strs_dp R), .lst (.of upd_same) .nil, strs_shaped fun x hx => (vR x hx).ok, rfl, ?_⟩
    have dr3 := dr.same s3
    generalize upd H' z (.lst []) = H3 at s3 dr3
    cases R with
    | nil =>
      refine ⟨false, rfl, iteF ⟨_, rfl, ?_⟩⟩
      rw [List.append_nil] at pm
      exact q H3 f F dr3 nfH (s3 _ _ eF1) pm nfp
    | cons x R =>
      refine ⟨true, rfl, iteT ?_⟩
      refine ⟨fun σ' H' => ∃ R2 F2 : List Str, R2.length = R.length ∧ σ' = [some (.ref p), some (.ref l), some (.ref r), some (.ref f)] ∧ Dr p H H' ∧ NmAt H' r R2 ∧ NmAt H' f F2 ∧ (F2 ++ R2).Perm xs, fun σ' H' h => ⟨R.length, Nat.lt_succ_self _, h⟩, ?_⟩
      have eR3 := s3 _ _ eR1
      have eF3 := s3 _ _ eF1
      refine ⟨_, rfl, .inl ⟨rfl, _, .of eF3⟩, _, rfl, .inl ⟨rfl, _, .of eR3⟩, _, rfl, _, rfl, r, _, rfl, .inl (.of eR3), p, _, rfl, dr3.pot, ?_, ?_, fun H4 d dr4 d0 d1 => ?_⟩
      · rw [List.length_map, List.length_cons]
        omega
      · rw [List.length_map]
        omega
      · rw [List.length_map] at d1
        obtain ⟨y, y1, y2, y3⟩ := at_ok (xs := x :: R) d0 d1
        have ix : ixN (x :: R).length d = some d.toNat := by
          unfold ixN
          rw [if_pos d0, if_pos (by omega)]
        have eR4 := dr4.off _ _ nrp eR3
        have eF4 := dr4.off _ _ nfp eF3
        refine ⟨r, _, d, d.toNat, .str y, rfl, rfl, eR4, by omega, by omega, ?_, by rw [List.getElem?_map, y3]; rfl, ?_⟩
        · rw [List.length_map]
          exact (ixN_seq ix).1
        refine ⟨f, F.map V.str, .str y, rfl, rfl, by rw [upd_ne nfr]; exact eF4, ?_, ?_⟩
        · rw [List.length_map]
          exact small_lt (by omega)
        · refine ⟨(x :: R).eraseIdx d.toNat, F ++ [y], ?_, rfl, ⟨fun b o nb e => ?_, ?_⟩, ?_, ?_, ?_⟩
          · rw [List.length_eraseIdx, if_pos (by omega)]
            rfl
          · have nbr : b ≠ r := fun z => by rw [z, nr] at e; cases e
            have nbf : b ≠ f := fun z => by rw [z, nfH] at e; cases e
            rw [upd_ne nbf, upd_ne nbr]
            exact (dr3.trans dr4).off b o nb e
          · obtain ⟨a, b, e, z⟩ := dr4.pot
            exact ⟨a, b, by rw [upd_ne nfp.symm, upd_ne nrp.symm]; exact e, z⟩
          · show (upd (upd H4 r _) f _) r = _
            rw [upd_ne nfr.symm, upd_same]
            rw [erase_map]
          · show (upd (upd H4 r _) f _) f = _
            rw [upd_same, List.map_append]
            rfl
          · rw [List.append_assoc]
            have z : (y :: (x :: R).eraseIdx d.toNat).Perm (x :: R) := erase_cons _ _ _ y3
            exact (List.Perm.append_left F z).trans pm
end
/-! ### slices -/
theorem ix_pos (n d : Nat) {j : Int} (h : 0 ≤ j) : HT.sIx n d (some j) = min j.toNat n := by
  show (if j < 0 then (j + (n : Int)).toNat else min j.toNat n) = _
  rw [if_neg (by omega)]
theorem cut_to (xs : List V) {j : Int} (h : 0 ≤ j) : cutV xs none (some j) = xs.take j.toNat := by
  unfold cutV
  rw [ix_pos _ _ h, HT.sIx_none, List.drop_zero, Nat.sub_zero, ← List.take_take, List.take_length]
theorem cut_from (xs : List V) {j : Int} (h : 0 ≤ j) : cutV xs (some j) none = xs.drop j.toNat := by
  unfold cutV
  rw [ix_pos _ _ h, HT.sIx_none]
  by_cases c : j.toNat ≤ xs.length
  · rw [Nat.min_eq_left c, List.take_of_length_le (by rw [List.length_drop]; omega)]
  · rw [Nat.min_eq_right (by omega), List.drop_of_length_le (Nat.le_refl _), List.drop_of_length_le (by omega)]
    exact List.take_nil
section
variable {P : Program} {w : World} {K : Fg} {mg : Str → Option Value} {base : Heap}
/-! ### shifts -/
/-- shifts drawn from xs -/
structure ShL (xs : List Str) (ss : Tb) : Prop where
  sh : Sh ss
  sub : ∀ x ∈ ks ss, x ∈ xs
  sz : ∀ q ∈ ss, Sz 200 q.2
def spShiftsL (K : Fg) : Sp := fun vs H Q _ => ∃ (p l : Addr) (xs : List Str), vs = [.ref p, .ref l] ∧ PotAt H p ∧ l ≠ p ∧ SqL K H l (xs.map V.str) ∧ (∀ x ∈ xs, VN x) ∧ xs.Nodup ∧ 0 < xs.length ∧ xs.length ≤ 8 ∧
  ∀ H' d ss, Dr p H H' → H d = none → d ≠ p → H' d = some (.dK (dk ss)) → ShL xs ss → Q (.ref d) H'
theorem sc_lshifts : FnScope ["_law_pot_here", "_law_names_here", "_law_found", "_law_name"] ["_law_pot_here", "_law_names_here"] (defScope dLawShifts.st) := ⟨rfl, rfl, rfl, by decide +kernel, rfl, by decide +kernel, by decide +kernel⟩
theorem ok_lshifts (T : Tx K mg) : Cd P w K mg base 4 dLawShifts ["_law_pot_here", "_law_names_here"] (spShiftsL K) := by
  obtain ⟨fd, F⟩ := T.dLawShifts
  have cD : Cd P w K mg base 1 dLawDraw ["_law_pot_here", "_law_many"] spDraw := ok_draw T
  have cN : Cd P w K mg base 3 dLawNumber ["_law_pot_here"] spNumber := ok_number T
  have cM : Cd P w K mg base 2 dLawMixed ["_law_pot_here", "_law_some"] (spMixed K) := ok_mixed T
  refine .of F sc_lshifts (F.bindsN fun _ _ _ _ _ _ us hl => match us, hl with | [_, _], _ => rfl) (fun vs H Q E h => ?_) (fun cdv A outer s0 H vs Q E hr h => ?_)
  · obtain ⟨_, _, _, rfl, _⟩ := h
    rfl
  · obtain ⟨p, l, xs, rfl, hp, ne, hl, hv, hn, l0, l8, q⟩ := h
    have hu := hu_of hr
    refine ⟨_, pss_cons (ps_set (i := 2) sc_lshifts.nd rfl (Or.inl rfl) pe_dnewK)
      (pss_cons (ps_for PassesOwn.never rfl (pi_list (pe_slice sl_list (pe_cd cM hr T.g_law_mixed (pa_cons (pv 0) (pa_cons (pv 1) pa_nil))) po_none (po_some (pe_op op_add pe_int (pe_cd cD hr T.g_law_draw (pa_cons (pv 0) (pa_cons (pe_callB call_len_seq (by rfl) T.n_len bt_len (pa_cons (pv 1) pa_nil)) pa_nil)))))))
        (pg_name (i := 3) sc_lshifts.nd rfl (Or.inl rfl)) (pss_one (ps_dput hu (pv 2) (pv 3) (pe_cd cN hr T.g_law_number (pa_cons (pv 0) pa_nil)) rfl)))
      (pss_one (ps_ret (pv 2)))), ?_⟩
    intro d nd
    have nd1 := hp.ne nd
    have dr0 : Dr p H (upd H d (.dK [])) := (Dr.start hp).same (new_same nd)
    refine ⟨_, rfl, _, rfl, p, l, xs, rfl, dr0.pot, ne, dr0.sq ne hl, hv, by omega, fun H1 c ys dr1 nc ec pm ncp => ?_⟩
    have dr01 := dr0.trans dr1
    refine ⟨_, rfl, _, rfl, l, _, rfl, .inl (dr01.sq ne hl), p, _, rfl, dr01.pot, by rw [List.length_map]; omega, by rw [List.length_map]; omega, fun H2 j dr2 j0 j1 => ?_⟩
    rw [List.length_map] at j1
    have dr02 := dr01.trans dr2
    refine ⟨1, j, rfl, rfl, _, rfl, c, _, rfl, .of (dr2.off _ _ ncp ec), fun a na => ?_⟩
    rw [cut_to _ (show 0 ≤ 1 + j by omega), ← List.map_take]
    generalize hz : ys.take (1 + j).toNat = zs
    have zl : 0 < zs.length ∧ zs.length ≤ 8 := by
      rw [← hz, List.length_take, pm.length_eq]
      omega
    have zn : zs.Nodup := by
      rw [← hz]
      exact (pm.nodup_iff.mpr hn).sublist (List.take_sublist _ _)
    have zx : ∀ x ∈ zs, x ∈ xs := fun x hx => pm.mem_iff.mp (List.mem_of_mem_take (by rw [hz]; exact hx))
    have dr03 := dr02.same (new_same (o := .lst (zs.map V.str)) na)
    have nap := dr02.pot.ne na
    have ed2 : H2 d = some (.dK []) := dr2.off _ _ nd1 (dr1.off _ _ nd1 upd_same)
    have nda : a ≠ d := fun z => by rw [z, ed2] at na; cases na
    refine ⟨a, rfl, ⟨_, .of upd_same⟩, for_list (K := K) (a := a) (xs := zs.map V.str) (fun i σ H' => ∃ (v3 : Option V) (ss : Tb), σ = [some (.ref p), some (.ref l), some (.ref d), v3] ∧ Dr p H H' ∧ H' a = some (.lst (zs.map V.str)) ∧ H' d = some (.dK (dk ss)) ∧ ks ss = zs.take i ∧ (∀ q ∈ ss, Sz 200 q.2))
      ⟨none, [], rfl, dr03, upd_same, by rw [upd_ne nda.symm]; exact ed2, rfl, fun q hq => (nomatch hq)⟩ (fun i σ H' _ hP => ?_) (fun i x σ H3 hx hP => ?_) (fun σ H3 hP => ?_)⟩
    · obtain ⟨_, _, _, _, e, _⟩ := hP
      exact .of e
    · obtain ⟨v3, ss, rfl, dr, ea, ed, ek, sz⟩ := hP
      rw [List.getElem?_map] at hx
      cases ez : zs[i]? with
      | none => rw [ez] at hx; cases hx
      | some z =>
        rw [ez] at hx
        have e2 : V.str z = x := Option.some.inj hx
        subst e2
        refine ⟨_, rfl, p, rfl, dr.pot, fun H4 n dr4 hz4 => ?_⟩
        have ed4 := dr4.off _ _ nd1 ed
        have en : z ∉ ks ss := by
          rw [ek]
          intro hm
          obtain ⟨m, hm2⟩ := List.mem_iff_getElem?.mp hm
          rw [List.getElem?_take] at hm2
          by_cases c1 : m < i
          · rw [if_pos c1] at hm2
            exact absurd (nd_ix zn hm2 ez) (by omega)
          · rw [if_neg c1] at hm2
            cases hm2
        have sl : ss.length ≤ 8 := by
          rw [← ks_len, ek, List.length_take]
          omega
        refine ⟨_, rfl, _, rfl, d, _, rfl, dput (x := z) ed4 (small_lt (by omega)), _, pt ss z n, rfl, ⟨(dr.trans dr4).off.wr nd, ?_⟩, by rw [upd_ne nda]; exact dr4.off _ _ nap ea, upd_same, ?_, fun q hq => ?_⟩
        · obtain ⟨a1, b1, e1, r1⟩ := dr4.pot
          exact ⟨a1, b1, by rw [upd_ne nd1.symm]; exact e1, r1⟩
        · rw [ks_pt_new en, ek, List.take_add_one, ez]
          rfl
        · rcases mem_pt hq with z1 | z1
          · rw [z1]
            exact hz4
          · exact sz q z1
    · obtain ⟨v3, ss, rfl, dr, ea, ed, ek, sz⟩ := hP
      rw [List.length_map, List.take_length] at ek
      have sl : ss.length = zs.length := by rw [← ks_len, ek]
      refine ⟨_, rfl, q H3 d ss dr nd nd1 ed ⟨⟨fun e => ?_, fun y hy => ?_, by omega, by rw [ek]; exact zn⟩, fun x hx => zx x (by rw [← ek]; exact hx), sz⟩⟩
      · rw [e] at sl
        have e0 : ([] : Tb).length = 0 := rfl
        omega
      · exact hv _ (zx _ (by rw [← ek]; exact List.mem_map.mpr ⟨y, hy, rfl⟩))
end
end K21
set_option maxHeartbeats 4000000
/-! side, least, moved -/
namespace K21
open PySem PySem.Spec PyProof.Rows L2 He
theorem Sh.perm {a b : Tb} (S : Sh a) (p : b.Perm a) : Sh b := ⟨fun e => S.ne (List.eq_nil_of_length_eq_zero (by rw [← p.length_eq, e]; rfl)), fun q hq => S.v q (p.mem_iff.mp hq), by rw [p.length_eq]; exact S.len, (p.map _).nodup_iff.mpr S.nd⟩
theorem Sh.take {a : Tb} (S : Sh a) {m : Nat} (h : 0 < m) : Sh (a.take m) := by
  refine ⟨fun e => S.ne ?_, fun q hq => S.v q (List.mem_of_mem_take hq), by rw [List.length_take]; exact Nat.le_trans (Nat.min_le_right _ _) S.len, ?_⟩
  · cases a with
    | nil => rfl
    | cons x r =>
      obtain ⟨k, rfl⟩ : ∃ k, m = k + 1 := ⟨m - 1, by omega⟩
      cases e
  · unfold ks
    rw [List.map_take]
    exact S.nd.sublist (List.take_sublist _ _)
theorem ear_ne {K : Fg} {mg : Str → Option Value} (T : Tx K mg) : cE K ≠ cT K := fun e => by
  have a := T.kitOne_Earliest_Earliest
  have b := T.kitOne_Term_Earliest
  rw [show ga K "Term" = ga K "Earliest" from e.symm, a] at b
  cases b
theorem tvs_perm {ss tt : Tb} (ws : Tb) (h : tt.Perm ss) : (tvs tt ws).Perm (tvs ss ws) := h.map _
theorem ear_srt {ss tt ws : Tb} (h : Srt ss tt) (ne : ss ≠ []) : ear ss ws = ear tt ws := by
  have h1 : IsMin ((tvs ss ws).map (·.2)) (ear ss ws) := isMin_mn fun e => ne (by
    unfold tvs at e
    rw [List.map_map] at e
    exact List.map_eq_nil_iff.mp e)
  exact (h1.perm ((tvs_perm ws h.1).symm.map _)).mn
section
variable {P : Program} {w : World} {K : Fg} {mg : Str → Option Value} {base : Heap}
theorem prs_off {H : Hp} {a : Addr} {o : HO} : ∀ {ts : List Addr} {ss : Tb}, a ∉ ts → Prs2 H ts ss → Prs2 (upd H a o) ts ss
  | _, _, _, .nil => .nil
  | t :: _, _, n, .cons h r => .cons (by rw [upd_ne (fun z => n (by rw [z]; exact List.mem_cons_self))]; exact h) (prs_off (fun z => n (List.mem_cons_of_mem _ z)) r)
theorem dk_prs {K : Fg} {H : Hp} : ∀ {ts : List Addr} {ss : Tb}, Prs2 H ts ss → Paired (fun (t : Addr) (q : Key × V) => SqT K H t [kV q.1, q.2]) ts (dk ss)
  | _, _, .nil => .nil
  | _, _, .cons h r => .cons (.inl (.inl h)) (dk_prs r)
theorem Dr.rd {p d : Addr} {H H' : Hp} {u : HO} (dr : Dr p H H') (n : d ≠ p) (h : Rd H d u) : Rd H' d u := h.imp (dr.off _ _ n) fun ⟨o, e⟩ => ⟨o, dr.off _ _ n e⟩
/-! ### side -/
def spSide (K : Fg) : Sp := fun vs H Q _ => ∃ p d ss, vs = [.ref p, .ref d] ∧ PotAt H p ∧ Rd H d (.dK (dk ss)) ∧ Sh ss ∧ ∀ H' v tt, Dr p H H' → EarLike K H' v tt → Srt ss tt → Q (.ref v) H'
theorem sc_side : FnScope ["_law_pot_here", "_law_shifts_here", "_law_names_here", "_law_found", "_law_name"] ["_law_pot_here", "_law_shifts_here"] (defScope dLawSide.st) := ⟨rfl, rfl, rfl, by decide +kernel, rfl, by decide +kernel, by decide +kernel⟩
theorem ok_side (T : Tx K mg) : Cd P w K mg base 7 dLawSide ["_law_pot_here", "_law_shifts_here"] (spSide K) := by
  obtain ⟨fd, F⟩ := T.dLawSide
  have cD : Cd P w K mg base 1 dLawDraw ["_law_pot_here", "_law_many"] spDraw := ok_draw T
  have cI : Cd P w K mg base 3 dEarliestInit ["self", "shifts"] (spEarInit K) := ok_ear_init T
  have cJ : Cd P w K mg base 3 dTermInit ["self", "moment", "shift"] (spTermInit K) := ok_term_init T
  have cO : Cd P w K mg base 6 dTermOr ["self", "other"] (spOr K fun H a tt => ∃ m n, TermAt K H a m n ∧ tt = [(m, n)]) := ok_tor T
  have cQ : Cd P w K mg base 6 dEarliestOr ["self", "other"] (spOr K (EarAt K)) := ok_eor T
  refine .of F sc_side (F.bindsN fun _ _ _ _ _ _ us hl => match us, hl with | [_, _], _ => rfl) (fun vs H Q E h => ?_) (fun cdv A outer s0 H vs Q E hr h => ?_)
  · obtain ⟨_, _, _, rfl, _⟩ := h
    rfl
  · obtain ⟨p, d, ss, rfl, hp, hd, S, q⟩ := h
    have hu := hu_of hr
    refine ⟨_, pss_cons (ps_set (i := 2) sc_side.nd rfl (Or.inl rfl) (pe_callTy (call_listD rfl) (by rfl) T.n_list bt_list (pa_cons (pv 1) pa_nil)))
      (pss_cons (ps_if (pt_cmpR op_eq (pe_cd cD hr T.g_law_draw (pa_cons (pv 0) (pa_cons pe_int pa_nil))) pe_int (nomark _)) (pss_one (ps_ret (pe_mkc cI T.mk_Earliest hr T.g_Earliest (pa_cons (pv 1) pa_nil)))) pss_nil)
      (pss_cons (ps_set (i := 3) sc_side.nd rfl (Or.inl rfl) (pe_mkc cJ T.mk_Term hr T.g_Term (pa_cons (pe_ix ix_list (pv 2) pe_int (fun _ _ => rfl)) (pa_cons (pe_dget hu (pv 1) (pe_ix ix_list (pv 2) pe_int (fun _ _ => rfl)) (fun _ _ => rfl)) pa_nil))))
      (pss_cons (ps_for PassesOwn.never rfl (pi_list (pe_slice sl_list (pv 2) (po_some pe_int) po_none)) (pg_name (i := 4) sc_side.nd rfl (Or.inl rfl))
        (pss_one (ps_set (i := 3) sc_side.nd rfl (Or.inl rfl) (pe_op (OpR.or (op_or1 cO (hr.mono (by decide)) T.selfFirst_Term T.sp_Term_or.at_ T.sp_Term_or.fn) (op_or2 cQ (hr.mono (by decide)) (ear_ne T) T.selfFirst_Earliest T.selfFirst_Term T.sp_Earliest_or.at_ T.sp_Earliest_or.fn T.noror_Earliest T.sp_Term_or.at_ T.noror_Term T.subIn_Term_Earliest))
          (pv 3) (pe_mkc cJ T.mk_Term hr T.g_Term (pa_cons (pv 4) (pa_cons (pe_dget hu (pv 1) (pv 4) (fun _ _ => rfl)) pa_nil)))))))
      (pss_one (ps_ret (pv 3)))))), ?_⟩
    refine ⟨_, rfl, d, _, rfl, hd, fun l nl => ?_⟩
    have el : (dk ss).map (fun kv => kV kv.1) = (ks ss).map V.str := by
      unfold dk ks
      rw [List.map_map, List.map_map]
      rfl
    rw [el]
    have s1 : Same H (upd H l (.lst ((ks ss).map V.str))) := new_same nl
    have nlp := hp.ne nl
    have ndp : d ≠ p := fun z => by
      obtain ⟨a, b, e, _⟩ := hp
      rw [← z] at e
      rcases hd with hd | ⟨o, hd⟩
      · rw [hd] at e
        cases e
      · rw [hd] at e
        cases e
    refine ⟨_, rfl, p, 2, rfl, hp.mono s1, by decide, by decide, fun H1 j dr1 j0 j1 => ?_⟩
    have dr0 : Dr p H H1 := ⟨(Off.of s1).trans dr1.off, dr1.pot⟩
    have hl1 : NmAt H1 l (ks ss) := dr1.off _ _ nlp upd_same
    have hd1 : Rd H1 d (.dK (dk ss)) := dr0.rd ndp hd
    refine ⟨rfl, ?_⟩
    by_cases hj : j = 0
    · refine ⟨true, congrArg V.bl (decide_eq_true (by rw [hj])), iteT ⟨_, rfl, fun x dx nx ndx ne => ?_⟩⟩
      exact mkE2 hd1 S nx ndx fun H2 tt h1 h2 h3 => ⟨rfl, q H2 x tt (dr0.same h2) (.inl h3) h1⟩
    · refine ⟨false, congrArg V.bl (decide_eq_false fun z => hj (V.int.inj z)), iteF ?_⟩
      obtain ⟨a0, r0, e0⟩ : ∃ a0 r0, ss = a0 :: r0 := by
        cases ss with
        | nil => exact absurd rfl S.ne
        | cons a0 r0 => exact ⟨a0, r0, rfl⟩
      have at0 : atI ((ks ss).map V.str) 0 = some (.str a0.1) := by
        rw [e0]
        simp [atI, ixN, ks]
      have lk0 : lk ss a0.1 = some a0.2 := mem_lk S.nd (by rw [e0]; exact List.mem_cons_self)
      have hl1' : H1 l = some (.lst ((ks ss).map V.str)) := hl1
      refine ⟨_, rfl, l, _, 0, _, rfl, rfl, .of hl1', at0, ?_⟩
      refine ⟨_, rfl, _, rfl, l, _, 0, _, rfl, rfl, .of hl1', at0, d, .int a0.2, rfl, dgetS hd1 lk0, fun x dx nx ndx ne => ?_⟩
      refine mkT2 (S.v a0 (by rw [e0]; exact List.mem_cons_self)) nx ndx fun H2 s2 ht => ⟨rfl, ?_⟩
      refine ⟨_, rfl, 1, rfl, l, _, rfl, .of (s2 _ _ hl1'), fun c nc => ?_⟩
      rw [cut_from _ (by decide)]
      have ec : ((ks ss).map V.str).drop (1 : Int).toNat = (ks r0).map V.str := by
        rw [e0]
        rfl
      rw [ec]
      have s3 : Same H1 (upd H2 c (.lst ((ks r0).map V.str))) := s2.trans (new_same nc)
      refine ⟨c, rfl, ⟨_, .of upd_same⟩, for_list (K := K) (a := c) (xs := (ks r0).map V.str) (fun i σ H' => ∃ (v : Addr) (v4 : Option V) (tt : Tb), σ = [some (.ref p), some (.ref d), some (.ref l), some (.ref v), v4] ∧ Same (upd H2 c (.lst ((ks r0).map V.str))) H' ∧ EarLike K H' v tt ∧ Srt (ss.take (i + 1)) tt)
        ⟨x, none, [(a0.1, a0.2)], rfl, same_id, .inr ⟨_, _, ht.mono (new_same nc), S.v a0 (by rw [e0]; exact List.mem_cons_self), rfl⟩, by rw [e0]; exact ⟨List.Perm.refl _, rfl⟩⟩ (fun i σ H' _ hP => ?_) (fun i y σ H3 hy hP => ?_) (fun σ H3 hP => ?_)⟩
      · obtain ⟨_, _, _, _, s, _⟩ := hP
        exact .of (s _ _ upd_same)
      · obtain ⟨v, v4, tt, rfl, s4, he, so⟩ := hP
        rw [List.getElem?_map] at hy
        unfold ks at hy
        rw [List.getElem?_map] at hy
        cases er : r0[i]? with
        | none => rw [er] at hy; cases hy
        | some b =>
          rw [er] at hy
          have ey : V.str b.1 = y := Option.some.inj hy
          subst ey
          have eb : ss[i + 1]? = some b := by
            rw [e0]
            exact er
          have bin : b ∈ ss := List.mem_of_getElem? eb
          have lkb : lk ss b.1 = some b.2 := mem_lk S.nd bin
          have s24 : Same H1 H3 := s3.trans s4
          have pmb : (ss.take (i + 1) ++ [b]) = ss.take (i + 2) := by rw [List.take_add_one (i := i + 1), eb]; rfl
          have pm2 : (tt ++ [b]).Perm (ss.take (i + 2)) := by
            rw [← pmb]
            exact so.1.append_right _
          have S2 : Sh (tt ++ [b]) := (S.take (m := i + 2) (by omega)).perm pm2
          have fin : ∀ {yy : Tb}, Srt (tt ++ [b]) yy → Srt (ss.take (i + 1 + 1)) yy := fun h => ⟨h.1.trans pm2, h.2⟩
          refine ⟨_, rfl, _, rfl, _, rfl, _, rfl, d, .int b.2, rfl, dgetS (s24.rd hd1) lkb, fun x2 dx2 nx2 ndx2 ne2 => ?_⟩
          refine mkT2 (S.v b bin) nx2 ndx2 fun H4 s5 ht5 => ⟨rfl, ?_⟩
          have hb : EarLike K H4 x2 [b] := .inr ⟨b.1, b.2, ht5, S.v b bin, rfl⟩
          obtain ⟨dx5, ex5⟩ := id ht5
          rcases he with he | ⟨m, n, ht, hm, rfl⟩
          · have he4 := he.mono s5
            obtain ⟨f, dxf, g1, g2⟩ := id he4
            refine .inr ⟨v, dxf, _, x2, dx5, _, rfl, rfl, g1, ex5, v, x2, tt, [b], rfl, he4, hb, S2, fun H5 e yy s6 he6 so6 => ⟨⟨e, rfl⟩, ?_⟩⟩
            exact ⟨e, _, yy, rfl, (s4.trans s5).trans s6, .inl he6, fin so6⟩
          · have ht4 := ht.mono s5
            obtain ⟨dxf, g1⟩ := id ht4
            refine .inl ⟨v, dxf, _, x2, dx5, _, rfl, rfl, g1, ex5, v, x2, [(m, n)], [b], rfl, ⟨m, n, ht4, rfl⟩, hb, S2, fun H5 e yy s6 he6 so6 => ⟨⟨e, rfl⟩, ?_⟩⟩
            exact ⟨e, _, yy, rfl, (s4.trans s5).trans s6, .inl he6, fin so6⟩
      · obtain ⟨v, v4, tt, rfl, s4, he, so⟩ := hP
        refine ⟨_, rfl, q H3 v tt (dr0.same (s3.trans s4)) he ?_⟩
        rw [List.length_map, ks_len, List.take_of_length_le (by rw [e0]; exact Nat.le_refl _)] at so
        exact so
/-! ### least -/
def spLeastL : Sp := fun vs H Q _ => ∃ d e ss ws, vs = [.ref d, .ref e] ∧ H d = some (.dK (dk ss)) ∧ Sh ss ∧ H e = some (.dK (dk ws)) ∧ (∀ x ∈ ks ss, x ∈ ks ws) ∧ ∀ H', Same H H' → Q (.int (ear ss ws)) H'
theorem sc_least : FnScope ["_law_shifts_here", "_law_when", "_law_name"] ["_law_shifts_here", "_law_when"] (defScope dLawLeast.st) := ⟨rfl, rfl, rfl, by decide +kernel, rfl, by decide +kernel, by decide +kernel⟩
theorem ok_least (T : Tx K mg) : Cd P w K mg base 1 dLawLeast ["_law_shifts_here", "_law_when"] spLeastL := by
  obtain ⟨fd, F⟩ := T.dLawLeast
  refine .of F sc_least (F.bindsN fun _ _ _ _ _ _ us hl => match us, hl with | [_, _], _ => rfl) (fun vs H Q E h => ?_) (fun cdv A outer s0 H vs Q E hr h => ?_)
  · obtain ⟨_, _, _, _, rfl, _⟩ := h
    rfl
  · obtain ⟨d, e, ss, ws, rfl, hd, S, he, hx, q⟩ := h
    have hu := hu_of hr
    have S8 := S.len
    refine ⟨_, pss_one (ps_ret (pe_callB (cr_min rfl) (by rfl) T.n_min bt_min (pa_cons (pe_lock (pe_lc (own := [("_law_name", 2)]) (g := gName 2) (tt := tYes) rfl sc_least.nd (pi_keys (pv 0)) (blkOk_by (N := ["_law_shifts_here", "_law_when", "_law_name"]) (sc := defScope dLawLeast.st) (by decide +kernel))
      (fun _ _ _ _ _ => pg_name (i := 2) sc_least.nd rfl (Or.inl rfl)) (fun _ _ _ _ _ => pts_nil) (fun _ _ _ _ _ => pe_add (pe_dget hu (pv 1) (pv 2) (fun _ _ => rfl)) (pe_dget hu (pv 0) (pv 2) (fun _ _ => rfl))))) pa_nil))), ?_⟩
    refine ⟨d, _, hd, trivial, fun od => ?_⟩
    refine ⟨_, rfl, d, od, rfl, .inl ⟨_, upd_same, fun D nD => ?_⟩⟩
    have rdd : Rd (upd H d (.frz od (.dK (dk ss)))) d (.dK (dk ss)) := rd_lock hd hd
    have rde : Rd (upd H d (.frz od (.dK (dk ss)))) e (.dK (dk ws)) := rd_lock he hd
    refine lc_it (walk_keys (d := d) (o := od) (kvs := dk ss)) (fun i H' => Same (upd H d (.frz od (.dK (dk ss)))) H' ∧ H' D = some (.lst ((((tvs ss ws).take i).map (·.2)).map V.int))) ⟨new_same nD, upd_same⟩ (fun _ _ _ q => q.1 _ _ upd_same) (fun i v H1 H2 hi p y => ?_) (fun H1 p => ?_)
    · obtain ⟨rfl, k, v2, hk, rfl⟩ := y
      obtain ⟨r, hr2, rfl, rfl⟩ := dk_at hk
      rw [dk_len] at hi
      have rin : r ∈ ss := List.mem_of_getElem? hr2
      obtain ⟨n, hn⟩ := lk_some (hx r.1 (List.mem_map.mpr ⟨r, rin, rfl⟩))
      have rt : (tvs ss ws)[i]? = some (r.1, n + r.2) := by
        unfold tvs
        rw [List.getElem?_map, hr2]
        show some (r.1, (lk ws r.1).getD 0 + r.2) = _
        rw [hn]
        rfl
      refine ⟨rfl, _, rfl, _, rfl, e, .int n, rfl, dgetS (p.1.rd rde) hn, _, rfl, _, rfl, d, .int r.2, rfl, dgetS (p.1.rd rdd) (mem_lk S.nd rin), n, r.2, rfl, rfl, _, p.2, ?_, p.1.wr nD, ?_⟩
      · rw [List.length_map, List.length_map, List.length_take]
        exact small_lt (by omega)
      · rw [upd_same, List.take_add_one, rt, List.map_append, List.map_append]
        rfl
    · have nDd : D ≠ d := fun z => by rw [z, upd_same] at nD; cases nD
      have ln : (dk ss).length = (tvs ss ws).length := by
        rw [dk_len]
        unfold tvs
        rw [List.length_map]
      refine ⟨p.1 _ _ upd_same, D, (tvs ss ws).map (·.2), rfl, .of ?_, ?_, fun m hm hm2 => ?_⟩
      · rw [upd_ne nDd, p.2, ln, List.take_length]
      · rw [List.length_map, ← ln, dk_len]
        exact List.length_pos_iff.mpr S.ne
      · have z : IsMin ((tvs ss ws).map (·.2)) m := ⟨hm, hm2⟩
        rw [z.mn]
        exact q _ (unlock_same hd p.1)
/-! ### moved -/
def mvd (ws : Tb) (n : Int) : Tb := ws.map fun q => (q.1, q.2 + n)
theorem ks_mvd (ws : Tb) (n : Int) : ks (mvd ws n) = ks ws := by
  unfold ks mvd
  rw [List.map_map]
  rfl
theorem mergeK_new : ∀ (b a : Tb), (ks (a ++ b)).Nodup → mergeK (dk a) (dk b) = dk (a ++ b)
  | [], a, _ => by
    rw [List.append_nil]
    rfl
  | p :: r, a, h => by
    have h2 : (ks (a ++ [p] ++ r)).Nodup := by
      rw [List.append_assoc]
      exact h
    have h3 : p.1 ∉ ks a := by
      unfold ks at h ⊢
      rw [List.map_append] at h
      intro hm
      exact (List.nodup_append.mp h).2.2 _ hm _ (List.mem_cons_self) rfl
    show mergeK (putK (dk a) (Sum.inr p.1) (.int p.2)) (dk r) = _
    rw [putK_dk, pt_new h3, mergeK_new r _ h2, List.append_assoc]
    rfl
def spMoved : Sp := fun vs H Q _ => ∃ e n ws, vs = [.ref e, .int n] ∧ H e = some (.dK (dk ws)) ∧ (ks ws).Nodup ∧ ws.length ≤ 1000 ∧ ∀ H' f, Same H H' → H f = none → H' f = some (.dK (dk (mvd ws n))) → Q (.ref f) H'
theorem sc_moved : FnScope ["_law_when", "_law_number_here", "_law_name"] ["_law_when", "_law_number_here"] (defScope dLawMoved.st) := ⟨rfl, rfl, rfl, by decide +kernel, rfl, by decide +kernel, by decide +kernel⟩
theorem ok_moved (T : Tx K mg) : Cd P w K mg base 1 dLawMoved ["_law_when", "_law_number_here"] spMoved := by
  obtain ⟨fd, F⟩ := T.dLawMoved
  refine .of F sc_moved (F.bindsN fun _ _ _ _ _ _ us hl => match us, hl with | [_, _], _ => rfl) (fun vs H Q E h => ?_) (fun cdv A outer s0 H vs Q E hr h => ?_)
  · obtain ⟨_, _, _, rfl, _⟩ := h
    rfl
  · obtain ⟨e, n, ws, rfl, he, hn, l1, q⟩ := h
    have hu := hu_of hr
    refine ⟨_, pss_one (ps_ret (pe_callTy (call_dictP rfl) (by rfl) T.n_dict bt_dict (pa_cons (pe_lock (pe_lc (own := [("_law_name", 2)]) (g := gName 2) (tt := tYes) rfl sc_moved.nd (pi_keys (pv 0)) (blkOk_by (N := ["_law_when", "_law_number_here", "_law_name"]) (sc := defScope dLawMoved.st) (by decide +kernel))
      (fun _ _ _ _ _ => pg_name (i := 2) sc_moved.nd rfl (Or.inl rfl)) (fun _ _ _ _ _ => pts_nil) (fun _ _ _ _ _ => pe_tup (pa_cons (pv 2) (pa_cons (pe_add (pe_dget hu (pv 0) (pv 2) (fun _ _ => rfl)) (pv 1)) pa_nil))))) pa_nil))), ?_⟩
    refine ⟨e, _, he, trivial, fun od => ?_⟩
    refine ⟨_, rfl, e, od, rfl, .inl ⟨_, upd_same, fun D nD => ?_⟩⟩
    have rde : Rd (upd H e (.frz od (.dK (dk ws)))) e (.dK (dk ws)) := rd_lock he he
    refine lc_it (walk_keys (d := e) (o := od) (kvs := dk ws)) (fun i H' => Same (upd H e (.frz od (.dK (dk ws)))) H' ∧ ∃ ps, H' D = some (.lst (ps.map V.ref)) ∧ Prs2 H' ps ((mvd ws n).take i) ∧ D ∉ ps) ⟨new_same nD, [], upd_same, .nil, List.not_mem_nil⟩ (fun _ _ _ q => q.1 _ _ upd_same) (fun i v H1 H2 hi p y => ?_) (fun H1 p => ?_)
    · obtain ⟨rfl, k, v2, hk, rfl⟩ := y
      obtain ⟨r, hr2, rfl, rfl⟩ := dk_at hk
      rw [dk_len] at hi
      obtain ⟨s1, ps, eD, pr, nin⟩ := p
      have rin : r ∈ ws := List.mem_of_getElem? hr2
      have rt : (mvd ws n)[i]? = some (r.1, r.2 + n) := by
        unfold mvd
        rw [List.getElem?_map, hr2]
        rfl
      refine ⟨rfl, _, rfl, _, rfl, _, rfl, e, .int r.2, rfl, dgetS (s1.rd rde) (mem_lk hn rin), _, rfl, r.2, n, rfl, rfl, small_le (n := 2) (by decide), fun t nt => ?_⟩
      have s2 : Same H2 (upd H2 t (.tup [.str r.1, .int (r.2 + n)])) := new_same nt
      have nDt : D ≠ t := fun z => by rw [z, nt] at eD; cases eD
      refine ⟨ps.map V.ref, s2 _ _ eD, ?_, (s1.trans s2).wr nD, ps ++ [t], ?_, ?_, ?_⟩
      · have z := paired_len pr
        rw [List.length_take] at z
        rw [List.length_map]
        exact small_lt (by omega)
      · rw [upd_same, List.map_append]
        rfl
      · rw [List.take_add_one, rt]
        have a1 : Prs2 (upd (upd H2 t (.tup [.str r.1, .int (r.2 + n)])) D (.lst (ps.map V.ref ++ [.ref t]))) [t] [(r.1, r.2 + n)] := .cons (by rw [upd_ne nDt.symm, upd_same]) .nil
        refine prs_cat ?_ a1
        exact prs_off nin (prs_same s2 pr)
      · intro hm
        rcases List.mem_append.mp hm with z | z
        · exact nin z
        · exact nDt (List.mem_singleton.mp z)
    · obtain ⟨s1, ps, eD, pr, nin⟩ := p
      have nDe : D ≠ e := fun z => by rw [z, upd_same] at nD; cases nD
      have ee := s1 _ _ upd_same
      have ln : (dk ws).length = (mvd ws n).length := by
        rw [dk_len]
        unfold mvd
        rw [List.length_map]
      rw [ln, List.take_length] at pr
      have ni2 : e ∉ ps := fun hm => by
        obtain ⟨j, hj⟩ := List.mem_iff_getElem?.mp hm
        obtain ⟨b, _, z⟩ := paired_at pr hj
        have z2 : H1 e = some (.tup [.str b.1, .int b.2]) := z
        rw [ee] at z2
        cases z2
      have s2 : Same H (upd H1 e (.dK (dk ws))) := unlock_same he s1
      refine ⟨ee, D, ps, dk (mvd ws n), rfl, .of (by rw [upd_ne nDe]; exact eD), ?_, fun f nf => ?_⟩
      · exact dk_prs (prs_off ni2 pr)
      · refine q _ f (s2.trans (new_same nf)) (s2.free nf) ?_
        rw [upd_same]
        have z := mergeK_new (mvd ws n) [] (by rw [List.nil_append, ks_mvd]; exact hn)
        exact congrArg some (congrArg HO.dK z)
end
end K21
set_option maxHeartbeats 4000000
/-! times, broken, kept -/
namespace K21
open PySem PySem.Spec PyProof.Rows L2 He
theorem ints_shaped (ns : List Int) : SeqAt.shaped (.list (ns.map .int)) = true := by
  have e : ∀ l : List Int, PyData.canLayAll0 (l.map .int) = true := fun l => by
    induction l with
    | nil => rfl
    | cons n r ih =>
      show (true && PyData.canLayAll0 (r.map .int)) = true
      rw [ih]
      rfl
  have dp : ∀ l : List Int, PyData.depthAll (l.map .int) = 0 := fun l => by
    induction l with
    | nil => rfl
    | cons n r ih =>
      show max 0 (PyData.depthAll (r.map .int)) = 0
      rw [ih]
      rfl
  show (PyData.canLayAll0 (ns.map .int) && decide (PyData.depthAll (ns.map .int) + 1 ≤ 64)) = true
  rw [e, dp]
  rfl
theorem ints_dp {K : Fg} {H : Hp} : ∀ ns : List Int, DpAll K H (ns.map V.int) (ns.map .int)
  | [] => .nil
  | n :: r => .cons (.int n) (ints_dp r)
/-- times drawn for the names xs -/
structure WhL (xs : List Str) (ws : Tb) : Prop where
  v : AllV ws
  nd : (ks ws).Nodup
  on : ∀ x, x ∈ ks ws ↔ x ∈ xs
  sz : ∀ q ∈ ws, Sz 210 q.2
  len : ws.length ≤ 20
section
variable {P : Program} {w : World} {K : Fg} {mg : Str → Option Value} {base : Heap}
/-! ### times -/
def spLTimes (K : Fg) : Sp := fun vs H Q _ => ∃ (p : Addr) (x : Str) (d l : Addr) (ss : Tb) (xs : List Str), vs = [.ref p, .str x, .ref d, .ref l] ∧ PotAt H p ∧ H d = some (.dK (dk ss)) ∧ Sh ss ∧ (∀ q ∈ ss, Sz 200 q.2) ∧ l ≠ p ∧ SqL K H l (xs.map V.str) ∧ (∀ y ∈ xs, VN y) ∧ xs.Nodup ∧ xs.length ≤ 20 ∧
  x ∈ xs ∧ (∀ y ∈ ks ss, y ∈ xs) ∧ ∀ H' e ws, Dr p H H' → H e = none → e ≠ p → H' e = some (.dK (dk ws)) → WhL xs ws → Q (.ref e) H'
theorem sc_ltimes : FnScope ["_law_pot_here", "_law_left", "_law_shifts_here", "_law_names_here", "_law_found", "_law_name", "_law_others"] ["_law_pot_here", "_law_left", "_law_shifts_here", "_law_names_here"] (defScope dLawTimes.st) := ⟨rfl, rfl, rfl, by decide +kernel, rfl, by decide +kernel, by decide +kernel⟩
theorem ok_ltimes (T : Tx K mg) : Cd P w K mg base 4 dLawTimes ["_law_pot_here", "_law_left", "_law_shifts_here", "_law_names_here"] (spLTimes K) := by
  obtain ⟨fd, F⟩ := T.dLawTimes
  have cD : Cd P w K mg base 1 dLawDraw ["_law_pot_here", "_law_many"] spDraw := ok_draw T
  have cN : Cd P w K mg base 3 dLawNumber ["_law_pot_here"] spNumber := ok_number T
  have cM : Cd P w K mg base 2 dLawMixed ["_law_pot_here", "_law_some"] (spMixed K) := ok_mixed T
  refine .of F sc_ltimes (F.bindsN fun _ _ _ _ _ _ us hl => match us, hl with | [_, _, _, _], _ => rfl) (fun vs H Q E h => ?_) (fun cdv A outer s0 H vs Q E hr h => ?_)
  · obtain ⟨_, _, _, _, _, _, rfl, _⟩ := h
    rfl
  · obtain ⟨p, x, d, l, ss, xs, rfl, hp, hd, S, sz, ne, hl, hv, hn, l20, hx, hy, q⟩ := h
    have hu := hu_of hr
    refine ⟨_, pss_cons (ps_set (i := 4) sc_ltimes.nd rfl (Or.inr rfl) pe_dnewK)
      (pss_cons (ps_for PassesOwn.never rfl (pi_list (pe_cd cM hr T.g_law_mixed (pa_cons (pv 0) (pa_cons (pv 3) pa_nil)))) (pg_name (i := 5) sc_ltimes.nd rfl (Or.inl rfl)) (pss_one (ps_dput hu (pv 4) (pv 5) (pe_cd cN hr T.g_law_number (pa_cons (pv 0) pa_nil)) rfl)))
      (pss_cons (ps_if (pt_cmpR op_gt (pe_cd cD hr T.g_law_draw (pa_cons (pv 0) (pa_cons pe_int pa_nil))) pe_int (nomark _))
        (pss_cons (ps_lock (ps_setLc (i := 6) (own := [("_law_name", 5)]) (g := gName 5) rfl sc_ltimes.nd rfl rfl (sw_true rfl rfl (by rfl) (by rfl)) (pi_keys (pv 2)) (blkOk_by (N := ["_law_pot_here", "_law_left", "_law_shifts_here", "_law_names_here", "_law_found", "_law_name", "_law_others"]) (sc := defScope dLawTimes.st) (by decide +kernel))
          (fun _ _ _ _ _ => pg_name (i := 5) sc_ltimes.nd rfl (Or.inl rfl)) (fun _ _ _ _ _ => pts_one (pt_cmpR op_ne (pv 5) (pv 1) (nomark _))) (fun _ _ _ _ _ => pe_add (pe_dget hu (pv 4) (pv 5) (fun _ _ => rfl)) (pe_dget hu (pv 2) (pv 5) (fun _ _ => rfl)))))
        (pss_one (ps_if (pt_cmpR (op_neD hr.units) (pv 6) (pe_lst pa_nil) (nomark _))
          (pss_one (ps_dput hu (pv 4) (pv 1) (pe_op op_sub (pe_op op_add (pe_callB (cr_min rfl) (by rfl) T.n_min bt_min (pa_cons (pv 6) pa_nil)) (pe_cd cD hr T.g_law_draw (pa_cons (pv 0) (pa_cons pe_int pa_nil)))) pe_int) rfl)) pss_nil))) pss_nil)
      (pss_one (ps_ret (pv 4))))), ?_⟩
    intro e ne0
    have nep := hp.ne ne0
    have ndp : d ≠ p := fun z => by
      obtain ⟨a, b, e, _⟩ := hp
      rw [← z, hd] at e
      cases e
    have dr0 : Dr p H (upd H e (.dK [])) := (Dr.start hp).same (new_same ne0)
    refine ⟨_, rfl, _, rfl, p, l, xs, rfl, dr0.pot, ne, dr0.sq ne hl, hv, by omega, fun H1 c ys dr1 nc ec pm ncp => ?_⟩
    have dr01 := dr0.trans dr1
    have nce : c ≠ e := fun z => by rw [z, upd_same] at nc; cases nc
    have ec1 : H1 c = some (.lst (ys.map V.str)) := ec
    have yn : ys.Nodup := pm.nodup_iff.mpr hn
    refine ⟨c, rfl, ⟨_, .of ec1⟩, for_list (K := K) (a := c) (xs := ys.map V.str) (fun i σ H' => ∃ (v5 : Option V) (ws : Tb), σ = [some (.ref p), some (.str x), some (.ref d), some (.ref l), some (.ref e), v5, none] ∧ Dr p H H' ∧ H' c = some (.lst (ys.map V.str)) ∧ H' e = some (.dK (dk ws)) ∧ ks ws = ys.take i ∧ (∀ q ∈ ws, Sz 200 q.2))
      ⟨none, [], rfl, dr01, ec1, dr1.off _ _ nep upd_same, rfl, fun q hq => (nomatch hq)⟩ (fun i σ H' _ hP => ?_) (fun i y σ H3 hy hP => ?_) (fun σ H3 hP => ?_)⟩
    · obtain ⟨_, _, _, _, e, _⟩ := hP
      exact .of e
    · obtain ⟨v5, ws, rfl, dr, ea, ed, ek, sz⟩ := hP
      rw [List.getElem?_map] at hy
      cases ez : ys[i]? with
      | none => rw [ez] at hy; cases hy
      | some z =>
        rw [ez] at hy
        have e2 : V.str z = y := Option.some.inj hy
        subst e2
        refine ⟨_, rfl, p, rfl, dr.pot, fun H4 n dr4 hz4 => ?_⟩
        have ed4 := dr4.off _ _ nep ed
        have en : z ∉ ks ws := by
          rw [ek]
          intro hm
          obtain ⟨m, hm2⟩ := List.mem_iff_getElem?.mp hm
          rw [List.getElem?_take] at hm2
          by_cases c1 : m < i
          · rw [if_pos c1] at hm2
            exact absurd (nd_ix yn hm2 ez) (by omega)
          · rw [if_neg c1] at hm2
            cases hm2
        have sl : ws.length ≤ 20 := by
          rw [← ks_len, ek, List.length_take, pm.length_eq]
          omega
        refine ⟨_, rfl, _, rfl, e, _, rfl, dput (x := z) ed4 (small_lt (by omega)), _, pt ws z n, rfl, ⟨(dr.trans dr4).off.wr ne0, ?_⟩, by rw [upd_ne nce]; exact dr4.off _ _ ncp ea, upd_same, ?_, fun q hq => ?_⟩
        · obtain ⟨a1, b1, e1, r1⟩ := dr4.pot
          exact ⟨a1, b1, by rw [upd_ne nep.symm]; exact e1, r1⟩
        · rw [ks_pt_new en, ek, List.take_add_one, ez]
          rfl
        · rcases mem_pt hq with z1 | z1
          · rw [z1]
            exact hz4
          · exact sz q z1
    · obtain ⟨v5, ws, rfl, dr, ea, ed, ek, szw⟩ := hP
      rw [List.length_map, List.take_length] at ek
      have on : ∀ y, y ∈ ks ws ↔ y ∈ xs := fun y => by rw [ek]; exact pm.mem_iff
      have W : WhL xs ws := ⟨fun q hq => hv _ ((on _).mp (List.mem_map.mpr ⟨q, hq, rfl⟩)), by rw [ek]; exact yn, on, fun q hq => (szw q hq).mono (by decide), by rw [← ks_len, ek, pm.length_eq]; exact l20⟩
      refine ⟨_, rfl, p, 4, rfl, dr.pot, by decide, by decide, fun H4 j dr4 j0 j1 => ?_⟩
      have dr5 := dr.trans dr4
      have ed4 := dr4.off _ _ nep ed
      have hd4 := dr5.off _ _ ndp hd
      refine ⟨j, 0, rfl, rfl, ?_⟩
      by_cases hj : 0 < j
      · refine ⟨true, congrArg V.bl (decide_eq_true hj), iteT ?_⟩
        refine ⟨d, _, hd4, trivial, fun od => ?_⟩
        refine ⟨_, rfl, d, od, rfl, .inl ⟨_, upd_same, fun D nD => ?_⟩⟩
        have rdd : Rd (upd H4 d (.frz od (.dK (dk ss)))) d (.dK (dk ss)) := rd_lock hd4 hd4
        have rde : Rd (upd H4 d (.frz od (.dK (dk ss)))) e (.dK (dk ws)) := rd_lock ed4 hd4
        refine lc_it (walk_keys (d := d) (o := od) (kvs := dk ss)) (fun i H' => Same (upd H4 d (.frz od (.dK (dk ss)))) H' ∧ ∃ os : List Int, H' D = some (.lst (os.map V.int)) ∧ os.length ≤ i ∧ ∀ o ∈ os, Sz 205 o) ⟨new_same nD, [], upd_same, Nat.le_refl _, fun o ho => (nomatch ho)⟩ (fun _ _ _ q => q.1 _ _ upd_same) (fun i v H5 H6 hi p5 y => ?_) (fun H5 p5 => ?_)
        · obtain ⟨rfl, k, v2, hk, rfl⟩ := y
          obtain ⟨r, hr2, rfl, rfl⟩ := dk_at hk
          rw [dk_len] at hi
          obtain ⟨s1, os, eD, ol, oz⟩ := p5
          have rin : r ∈ ss := List.mem_of_getElem? hr2
          obtain ⟨n, hn2⟩ := lk_some ((on r.1).mpr (hy r.1 (List.mem_map.mpr ⟨r, rin, rfl⟩)))
          refine ⟨rfl, _, rfl, _, rfl, rfl, ?_⟩
          by_cases hne : r.1 = x
          · refine ⟨false, congrArg V.bl (show (!decide (V.str r.1 = V.str x)) = false by rw [decide_eq_true (congrArg V.str hne)]; rfl), iteF ?_⟩
            exact ⟨s1, os, eD, by omega, oz⟩
          · refine ⟨true, congrArg V.bl (show (!decide (V.str r.1 = V.str x)) = true by rw [decide_eq_false (fun z => hne (V.str.inj z))]; rfl), iteT ?_⟩
            refine ⟨_, rfl, _, rfl, e, .int n, rfl, dgetS (s1.rd rde) hn2, _, rfl, _, rfl, d, .int r.2, rfl, dgetS (s1.rd rdd) (mem_lk S.nd rin), n, r.2, rfl, rfl, _, eD, ?_, s1.wr nD, os ++ [n + r.2], ?_, ?_, fun o ho => ?_⟩
            · have S8 := S.len
              rw [List.length_map]
              exact small_lt (by omega)
            · rw [upd_same, List.map_append]
              rfl
            · rw [List.length_append]
              exact Nat.add_le_add_right ol _
            · rcases List.mem_append.mp ho with z | z
              · exact oz o z
              · rw [List.mem_singleton.mp z]
                exact ((szw (r.1, n) (lk_mem hn2)).add (sz r rin)).mono (by decide)
        · obtain ⟨s1, os, eD, ol, oz⟩ := p5
          have nDd : D ≠ d := fun z => by rw [z, upd_same] at nD; cases nD
          have s2 : Same H4 (upd H5 d (.dK (dk ss))) := unlock_same hd4 s1
          have dr6 := dr5.same s2
          have eD2 : (upd H5 d (.dK (dk ss))) D = some (.lst (os.map V.int)) := by rw [upd_ne nDd]; exact eD
          refine ⟨s1 _ _ upd_same, ?_⟩
          generalize upd H5 d (.dK (dk ss)) = H6 at s2 dr6 eD2
          refine ⟨_, rfl, small_le (n := 0) (by decide), fun z nz => ?_⟩
          have s3 : Same H6 (upd H6 z (.lst [])) := new_same nz
          refine ⟨.list (os.map .int), .list [], .lst (.of (s3 _ _ eD2)) (ints_dp os), .lst (.of upd_same) .nil, ints_shaped os, rfl, ?_⟩
          have dr7 := dr6.same s3
          have ed7 := s3 _ _ (s2 _ _ ed4)
          have eD7 := s3 _ _ eD2
          generalize upd H6 z (.lst []) = H7 at dr7 ed7 eD7
          cases os with
          | nil =>
            refine ⟨false, rfl, iteF ⟨_, rfl, ?_⟩⟩
            exact q H7 e ws dr7 ne0 nep ed7 W
          | cons o os =>
            refine ⟨true, rfl, iteT ?_⟩
            refine ⟨_, rfl, D, o :: os, rfl, .of eD7, Nat.succ_pos _, fun m hm hm2 => ?_⟩
            refine ⟨_, rfl, p, 3, rfl, dr7.pot, by decide, by decide, fun H8 t dr8 t0 t1 => ?_⟩
            have ed8 := dr8.off _ _ nep ed7
            have wl := W.len
            refine ⟨m, t, rfl, rfl, _, _, rfl, rfl, _, rfl, _, rfl, e, _, rfl, dput (x := x) ed8 (small_lt (by omega)), _, rfl, ?_⟩
            have kx : ks (pt ws x (m + t - 1)) = ks ws := ks_pt_old ((on x).mpr hx)
            refine q _ e (pt ws x (m + t - 1)) ⟨(dr7.trans dr8).off.wr ne0, ?_⟩ ne0 nep upd_same ⟨fun q hq => ?_, by rw [kx]; exact W.nd, fun y => by rw [kx]; exact on y, fun q hq => ?_, by rw [← ks_len, kx, ks_len]; exact wl⟩
            · obtain ⟨a1, b1, e1, r1⟩ := dr8.pot
              exact ⟨a1, b1, by rw [upd_ne nep.symm]; exact e1, r1⟩
            · rcases mem_pt hq with z1 | z1
              · rw [z1]
                exact hv x hx
              · exact W.v q z1
            · rcases mem_pt hq with z1 | z1
              · rw [z1]
                have zm := oz m hm
                have zt : Sz 205 (t - 1) := by
                  have z : (t - 1).natAbs < 2 ^ 2 := by omega
                  exact Sz.mono (j := 2) z (by decide)
                have e2 : m + t - 1 = m + (t - 1) := by omega
                show Sz 210 (m + t - 1)
                rw [e2]
                exact (zm.add zt).mono (by decide)
              · exact W.sz q z1
      · refine ⟨false, congrArg V.bl (decide_eq_false hj), iteF ⟨_, rfl, ?_⟩⟩
        exact q H4 e ws dr5 ne0 nep ed4 W
end
end K21
set_option maxHeartbeats 4000000
/-! broken, kept -/
namespace K21
open PySem PySem.Spec PyProof.Rows L2 He
/-- the times that break all but what the rule's own name may mend, up to the i-th -/
structure BrI (x : Str) (b : Int) (ss : Tb) (i : Nat) (ws : Tb) : Prop where
  nd : (ks ws).Nodup
  own : lk ws x = some b
  oth : ∀ r ∈ ss.take i, r.1 ≠ x → lk ws r.1 = some (b - r.2 + 1)
  on : ∀ y ∈ ks ws, y = x ∨ y ∈ ks ss
  len : ws.length ≤ i + 1
theorem BrI.skip {x : Str} {b : Int} {ss ws : Tb} {i : Nat} {r : Str × Int} (h : BrI x b ss i ws) (e : ss[i]? = some r) (g : r.1 = x) : BrI x b ss (i + 1) ws := by
  refine ⟨h.nd, h.own, fun q hq hn => ?_, h.on, Nat.le_succ_of_le h.len⟩
  rw [List.take_add_one, e] at hq
  rcases List.mem_append.mp hq with z | z
  · exact h.oth q z hn
  · have z2 : q = r := List.mem_singleton.mp z
    rw [z2] at hn
    exact absurd g hn
theorem BrI.put {x : Str} {b : Int} {ss ws : Tb} {i : Nat} {r : Str × Int} (h : BrI x b ss i ws) (hn : (ks ss).Nodup) (e : ss[i]? = some r) (g : r.1 ≠ x) : BrI x b ss (i + 1) (pt ws r.1 (b - r.2 + 1)) := by
  have rin : r ∈ ss := List.mem_of_getElem? e
  refine ⟨nodup_pt h.nd, by rw [lk_pt, if_neg (Ne.symm g)]; exact h.own, fun q hq hne => ?_, fun y hy => ?_, Nat.le_trans (len_pt _ _ _) (Nat.succ_le_succ h.len)⟩
  · rw [lk_pt]
    by_cases c : q.1 = r.1
    · rw [if_pos c]
      have qin : q ∈ ss := List.mem_of_mem_take hq
      have e1 := mem_lk hn (show (q.1, q.2) ∈ ss from qin)
      have e2 := mem_lk hn (show (r.1, r.2) ∈ ss from rin)
      rw [c, e2] at e1
      rw [Option.some.inj e1]
    · rw [if_neg c]
      rw [List.take_add_one, e] at hq
      rcases List.mem_append.mp hq with z | z
      · exact h.oth q z hne
      · have z2 : q = r := List.mem_singleton.mp z
        exact absurd (congrArg Prod.fst z2) c
  · rw [ks_pt] at hy
    by_cases c : r.1 ∈ ks ws
    · rw [if_pos c] at hy
      exact h.on y hy
    · rw [if_neg c] at hy
      rcases List.mem_append.mp hy with z | z
      · exact h.on y z
      · rw [List.mem_singleton.mp z]
        exact .inr (List.mem_map.mpr ⟨r, rin, rfl⟩)
/-- all of it -/
theorem BrI.full {x : Str} {b : Int} {ss ws : Tb} (h : BrI x b ss ss.length ws) : (∀ r ∈ ss, r.1 ≠ x → lk ws r.1 = some (b - r.2 + 1)) ∧ ∀ y, y = x ∨ y ∈ ks ss → y ∈ ks ws := by
  have o := h.oth
  rw [List.take_length] at o
  refine ⟨o, fun y hy => ?_⟩
  by_cases c : y = x
  · rw [c]
    exact ks_of_lk h.own
  · rcases hy with z | z
    · exact absurd z c
    · obtain ⟨r, hr, e⟩ := List.mem_map.mp z
      have e2 : r.1 = y := e
      rw [← e2]
      exact ks_of_lk (o r hr (by rw [e2]; exact c))
section
variable {P : Program} {w : World} {K : Fg} {mg : Str → Option Value} {base : Heap}
/-! ### broken -/
def spBroken : Sp := fun vs H Q _ => ∃ x d b ss, vs = [.str x, .ref d, .int b] ∧ Rd H d (.dK (dk ss)) ∧ Sh ss ∧ ∀ H' f ws, Same H H' → H f = none → H' f = some (.dK (dk ws)) → BrI x b ss ss.length ws → Q (.ref f) H'
theorem sc_broken : FnScope ["_law_left", "_law_shifts_here", "_law_begin", "_law_found", "_law_name"] ["_law_left", "_law_shifts_here", "_law_begin"] (defScope dLawBroken.st) := ⟨rfl, rfl, rfl, by decide +kernel, rfl, by decide +kernel, by decide +kernel⟩
theorem ok_broken (T : Tx K mg) : Cd P w K mg base 1 dLawBroken ["_law_left", "_law_shifts_here", "_law_begin"] spBroken := by
  obtain ⟨fd, F⟩ := T.dLawBroken
  refine .of F sc_broken (F.bindsN fun _ _ _ _ _ _ us hl => match us, hl with | [_, _, _], _ => rfl) (fun vs H Q E h => ?_) (fun cdv A outer s0 H vs Q E hr h => ?_)
  · obtain ⟨_, _, _, _, rfl, _⟩ := h
    rfl
  · obtain ⟨x, d, b, ss, rfl, hd, S, q⟩ := h
    have hu := hu_of hr
    have S8 := S.len
    have b0 : BrI x b ss 0 [(x, b)] := by
      refine ⟨List.nodup_cons.mpr ⟨List.not_mem_nil, List.nodup_nil⟩, if_pos rfl, fun r hr => (nomatch hr), fun y hy => .inl ?_, Nat.le_refl _⟩
      exact List.mem_singleton.mp hy
    rcases hd with hd | ⟨od, hd⟩
    · refine ⟨_, pss_cons (ps_set (i := 3) sc_broken.nd rfl (Or.inl rfl) (pe_d1 (pv 0) (pv 2)))
        (pss_cons (ps_lock (ps_for PassesOwn.never rfl (pi_keys (pv 1)) (pg_name (i := 4) sc_broken.nd rfl (Or.inl rfl)) (pss_one (ps_if (pt_cmpR op_ne (pv 4) (pv 0) (nomark _))
          (pss_one (ps_dput hu (pv 3) (pv 4) (pe_op op_add (pe_op op_sub (pv 2) (pe_dget hu (pv 1) (pv 4) (fun _ _ => rfl))) pe_int) rfl)) pss_nil))))
        (pss_one (ps_ret (pv 3)))), ?_⟩
      intro f nf
      refine ⟨_, rfl, _, rfl, upd_same, [(Sum.inr x, .int b)], rfl, by show 1 ≤ 15; decide, ?_⟩
      have s1 : Same H (upd (upd H f (.dK [])) f (.dK (mergeK [] [(Sum.inr x, V.int b)]))) := (new_same nf).wr nf
      have ef : (upd (upd H f (.dK [])) f (.dK (mergeK [] [(Sum.inr x, V.int b)]))) f = some (.dK (dk [(x, b)])) := by rw [upd_same]; rfl
      generalize upd (upd H f (.dK [])) f (.dK (mergeK [] [(Sum.inr x, V.int b)])) = H1 at s1 ef
      have nfd : f ≠ d := fun z => by rw [z, hd] at nf; cases nf
      refine ⟨d, _, s1 _ _ hd, trivial, fun od => ?_⟩
      refine ⟨_, rfl, d, od, rfl, .inl ⟨_, upd_same, ?_⟩⟩
      refine for_it (walk_keys (d := d) (o := od) (kvs := dk ss)) (fun i σ H' => ∃ (v4 : Option V) (ws : Tb), σ = [some (.str x), some (.ref d), some (.int b), some (.ref f), v4] ∧ (∀ c o, c ≠ f → c ≠ d → H1 c = some o → H' c = some o) ∧ H' d = some (.frz od (.dK (dk ss))) ∧ H' f = some (.dK (dk ws)) ∧ BrI x b ss i ws)
        ⟨none, _, rfl, fun c o _ nd e => by rw [upd_ne nd]; exact e, upd_same, by rw [upd_ne nfd]; exact ef, b0⟩ (fun i σ H' _ ⟨_, _, _, _, e, _⟩ => e) (fun i v σ H2 H3 hi hP y => ?_) (fun σ H2 hP => ?_)
      · obtain ⟨v4, ws, rfl, k, ed, ew, B⟩ := hP
        obtain ⟨rfl, key, v2, hk, rfl⟩ := y
        obtain ⟨r, hr2, rfl, rfl⟩ := dk_at hk
        rw [dk_len] at hi
        refine ⟨_, rfl, _, rfl, rfl, ?_⟩
        by_cases hne : r.1 = x
        · refine ⟨false, congrArg V.bl (show (!decide (V.str r.1 = V.str x)) = false by rw [decide_eq_true (congrArg V.str hne)]; rfl), iteF ?_⟩
          exact ⟨_, ws, rfl, k, ed, ew, B.skip hr2 hne⟩
        · refine ⟨true, congrArg V.bl (show (!decide (V.str r.1 = V.str x)) = true by rw [decide_eq_false (fun z => hne (V.str.inj z))]; rfl), iteT ?_⟩
          have wl := B.len
          refine ⟨_, rfl, _, rfl, _, rfl, d, .int r.2, rfl, dgetS (.inr ⟨od, ed⟩) (mem_lk S.nd (List.mem_of_getElem? hr2)), b, r.2, rfl, rfl, _, _, rfl, rfl, _, rfl, _, rfl, f, _, rfl, dput (x := r.1) ew (small_lt (by omega)), ?_⟩
          exact ⟨_, pt ws r.1 (b - r.2 + 1), rfl, fun c o n1 n2 e => by rw [upd_ne n1]; exact k c o n1 n2 e, by rw [upd_ne nfd.symm]; exact ed, upd_same, B.put S.nd hr2 hne⟩
      · obtain ⟨v4, ws, rfl, k, ed, ew, B⟩ := hP
        rw [dk_len] at B
        refine ⟨ed, _, rfl, q _ f ws (fun c o e => ?_) nf (by rw [upd_ne nfd]; exact ew) B⟩
        have ncf : c ≠ f := ne_of_none e nf
        by_cases hc : c = d
        · rw [hc, hd] at e
          rw [hc, upd_same]
          exact e
        · rw [upd_ne hc]
          exact k c o ncf hc (s1 _ _ e)
    · refine ⟨_, pss_cons (ps_set (i := 3) sc_broken.nd rfl (Or.inl rfl) (pe_d1 (pv 0) (pv 2)))
        (pss_cons (ps_for PassesOwn.never rfl (pi_keys (pv 1)) (pg_name (i := 4) sc_broken.nd rfl (Or.inl rfl)) (pss_one (ps_if (pt_cmpR op_ne (pv 4) (pv 0) (nomark _))
          (pss_one (ps_dput hu (pv 3) (pv 4) (pe_op op_add (pe_op op_sub (pv 2) (pe_dget hu (pv 1) (pv 4) (fun _ _ => rfl))) pe_int) rfl)) pss_nil)))
        (pss_one (ps_ret (pv 3)))), ?_⟩
      intro f nf
      refine ⟨_, rfl, _, rfl, upd_same, [(Sum.inr x, .int b)], rfl, by show 1 ≤ 15; decide, ?_⟩
      have s1 : Same H (upd (upd H f (.dK [])) f (.dK (mergeK [] [(Sum.inr x, V.int b)]))) := (new_same nf).wr nf
      have ef : (upd (upd H f (.dK [])) f (.dK (mergeK [] [(Sum.inr x, V.int b)]))) f = some (.dK (dk [(x, b)])) := by rw [upd_same]; rfl
      generalize upd (upd H f (.dK [])) f (.dK (mergeK [] [(Sum.inr x, V.int b)])) = H1 at s1 ef
      have nfd : f ≠ d := fun z => by rw [z, hd] at nf; cases nf
      refine ⟨_, rfl, d, od, rfl, .inl ⟨_, s1 _ _ hd, ?_⟩⟩
      refine for_it (walk_keys (d := d) (o := od) (kvs := dk ss)) (fun i σ H' => ∃ (v4 : Option V) (ws : Tb), σ = [some (.str x), some (.ref d), some (.int b), some (.ref f), v4] ∧ Off f H1 H' ∧ H' f = some (.dK (dk ws)) ∧ BrI x b ss i ws)
        ⟨none, _, rfl, .refl, ef, b0⟩ (fun i σ H' _ ⟨_, _, _, k, _⟩ => k _ _ nfd.symm (s1 _ _ hd)) (fun i v σ H2 H3 hi hP y => ?_) (fun σ H2 hP => ?_)
      · obtain ⟨v4, ws, rfl, k, ew, B⟩ := hP
        have ed := k _ _ nfd.symm (s1 _ _ hd)
        obtain ⟨rfl, key, v2, hk, rfl⟩ := y
        obtain ⟨r, hr2, rfl, rfl⟩ := dk_at hk
        rw [dk_len] at hi
        refine ⟨_, rfl, _, rfl, rfl, ?_⟩
        by_cases hne : r.1 = x
        · refine ⟨false, congrArg V.bl (show (!decide (V.str r.1 = V.str x)) = false by rw [decide_eq_true (congrArg V.str hne)]; rfl), iteF ?_⟩
          exact ⟨_, ws, rfl, k, ew, B.skip hr2 hne⟩
        · refine ⟨true, congrArg V.bl (show (!decide (V.str r.1 = V.str x)) = true by rw [decide_eq_false (fun z => hne (V.str.inj z))]; rfl), iteT ?_⟩
          have wl := B.len
          refine ⟨_, rfl, _, rfl, _, rfl, d, .int r.2, rfl, dgetS (.inr ⟨od, ed⟩) (mem_lk S.nd (List.mem_of_getElem? hr2)), b, r.2, rfl, rfl, _, _, rfl, rfl, _, rfl, _, rfl, f, _, rfl, dput (x := r.1) ew (small_lt (by omega)), ?_⟩
          exact ⟨_, pt ws r.1 (b - r.2 + 1), rfl, k.trans .set, upd_same, B.put S.nd hr2 hne⟩
      · obtain ⟨v4, ws, rfl, k, ew, B⟩ := hP
        rw [dk_len] at B
        exact ⟨_, rfl, q _ f ws (fun c o e => k c o (ne_of_none e nf) (s1 _ _ e)) nf ew B⟩
/-! ### kept -/
/-- the times that the chosen one alone may keep -/
structure KpI (x : Str) (b : Int) (ss : Tb) (y : Str) (ws : Tb) : Prop where
  nd : (ks ws).Nodup
  own : lk ws x = some b
  oth : ∀ r ∈ ss, r.1 ≠ x → r.1 ≠ y → lk ws r.1 = some (b - r.2 + 1)
  cho : ∀ r ∈ ss, r.1 ≠ x → r.1 = y → lk ws r.1 = some (b - r.2)
  on : ∀ z, z ∈ ks ws ↔ z = x ∨ z ∈ ks ss
  len : ws.length ≤ 10
def spKeptL : Sp := fun vs H Q _ => ∃ x d b y ss, vs = [.str x, .ref d, .int b, .str y] ∧ Rd H d (.dK (dk ss)) ∧ Sh ss ∧ y ∈ ks ss ∧ ∀ H' f ws, Same H H' → H f = none → H' f = some (.dK (dk ws)) → KpI x b ss y ws → Q (.ref f) H'
theorem sc_keptl : FnScope ["_law_left", "_law_shifts_here", "_law_begin", "_law_chosen", "_law_found"] ["_law_left", "_law_shifts_here", "_law_begin", "_law_chosen"] (defScope dLawKept.st) := ⟨rfl, rfl, rfl, by decide +kernel, rfl, by decide +kernel, by decide +kernel⟩
theorem ok_keptl (T : Tx K mg) : Cd P w K mg base 2 dLawKept ["_law_left", "_law_shifts_here", "_law_begin", "_law_chosen"] spKeptL := by
  obtain ⟨fd, F⟩ := T.dLawKept
  have cB : Cd P w K mg base 1 dLawBroken ["_law_left", "_law_shifts_here", "_law_begin"] spBroken := ok_broken T
  refine .of F sc_keptl (F.bindsN fun _ _ _ _ _ _ us hl => match us, hl with | [_, _, _, _], _ => rfl) (fun vs H Q E h => ?_) (fun cdv A outer s0 H vs Q E hr h => ?_)
  · obtain ⟨_, _, _, _, _, rfl, _⟩ := h
    rfl
  · obtain ⟨x, d, b, y, ss, rfl, hd, S, hy, q⟩ := h
    have hu := hu_of hr
    have S8 := S.len
    refine ⟨_, pss_cons (ps_set (i := 4) sc_keptl.nd rfl (Or.inl rfl) (pe_cd cB hr T.g_law_broken (pa_cons (pv 0) (pa_cons (pv 1) (pa_cons (pv 2) pa_nil)))))
      (pss_cons (ps_if (pt_cmpR op_ne (pv 3) (pv 0) (nomark _)) (pss_one (ps_dput hu (pv 4) (pv 3) (pe_op op_sub (pv 2) (pe_dget hu (pv 1) (pv 3) (fun _ _ => rfl))) rfl)) pss_nil)
      (pss_one (ps_ret (pv 4)))), ?_⟩
    refine ⟨_, rfl, _, rfl, _, rfl, x, d, b, ss, rfl, hd, S, fun H1 f ws s1 nf ew B => ?_⟩
    have wl := B.len
    obtain ⟨o1, o2⟩ := B.full
    have on : ∀ z, z ∈ ks ws ↔ z = x ∨ z ∈ ks ss := fun z => ⟨B.on z, o2 z⟩
    refine ⟨_, rfl, _, rfl, rfl, ?_⟩
    by_cases hne : y = x
    · refine ⟨false, congrArg V.bl (show (!decide (V.str y = V.str x)) = false by rw [decide_eq_true (congrArg V.str hne)]; rfl), iteF ⟨_, rfl, ?_⟩⟩
      exact q H1 f ws s1 nf ew ⟨B.nd, B.own, fun r hr h1 _ => o1 r hr h1, fun r hr h1 h2 => absurd (h2.trans hne) h1, on, by omega⟩
    · refine ⟨true, congrArg V.bl (show (!decide (V.str y = V.str x)) = true by rw [decide_eq_false (fun z => hne (V.str.inj z))]; rfl), iteT ?_⟩
      obtain ⟨n, hn⟩ := lk_some hy
      refine ⟨_, rfl, _, rfl, _, rfl, d, .int n, rfl, dgetS (s1.rd hd) hn, b, n, rfl, rfl, _, rfl, _, rfl, f, _, rfl, dput (x := y) ew (small_lt (by omega)), _, rfl, ?_⟩
      have ky : ks (pt ws y (b - n)) = ks ws := ks_pt_old ((on y).mpr (.inr hy))
      refine q _ f (pt ws y (b - n)) (s1.wr nf) nf upd_same ⟨by rw [ky]; exact B.nd, by rw [lk_pt, if_neg (Ne.symm hne)]; exact B.own, fun r hr h1 h2 => ?_, fun r hr h1 h2 => ?_, fun z => by rw [ky]; exact on z, ?_⟩
      · rw [lk_pt, if_neg h2]
        exact o1 r hr h1
      · have e1 := mem_lk S.nd (show (r.1, r.2) ∈ ss from hr)
        rw [h2, hn] at e1
        rw [lk_pt, if_pos h2, Option.some.inj e1]
      · rw [← ks_len, ky, ks_len]
        omega
end
end K21
set_option maxHeartbeats 4000000
/-! the plain law -/
namespace K21
open PySem PySem.Spec PyProof.Rows L2 He
/-- a rule none of whose objects is d -/
def RuleAp (K : Fg) (H : Hp) (r : Addr) (m : Str) (tt : Tb) (d : Addr) : Prop := ∃ dx e f dy, H r = some (.ins (cR K) dx [("own_moment", .str m), ("own_earliest", .ref e)]) ∧ H e = some (.ins (cE K) dy [("own_shifts", .ref f)]) ∧ H f = some (.dK (dk tt)) ∧ r ≠ d ∧ e ≠ d ∧ f ≠ d
theorem RuleAp.rule {K : Fg} {H : Hp} {r d : Addr} {m : Str} {tt : Tb} (h : RuleAp K H r m tt d) : RuleAt K H r m tt := let ⟨dx, e, f, dy, a, b, c, _⟩ := h; ⟨dx, e, a, f, dy, b, c⟩
theorem RuleAp.mono {K : Fg} {H H' : Hp} {r d : Addr} {m : Str} {tt : Tb} (s : Same H H') (h : RuleAp K H r m tt d) : RuleAp K H' r m tt d := let ⟨dx, e, f, dy, a, b, c, z⟩ := h; ⟨dx, e, f, dy, s _ _ a, s _ _ b, s _ _ c, z⟩
theorem RuleAp.lock {K : Fg} {H : Hp} {r d : Addr} {o : HO} {m : Str} {tt : Tb} (h : RuleAp K H r m tt d) : RuleAt K (upd H d o) r m tt := let ⟨dx, e, f, dy, a, b, c, z1, z2, z3⟩ := h
  ⟨dx, e, by rw [upd_ne z1]; exact a, f, dy, by rw [upd_ne z2]; exact b, by rw [upd_ne z3]; exact c⟩
/-- a rule made while d was locked -/
theorem ap_of {K : Fg} {H : Hp} {r d : Addr} {od : Obj} {u o : HO} {m : Str} {tt : Tb} (h : RuleAt K H r m tt) (e : H d = some (.frz od u)) : RuleAp K (upd H d o) r m tt d := by
  obtain ⟨dx, e0, a, f, dy, b, c⟩ := h
  have z1 : r ≠ d := fun z => by rw [z, e] at a; cases a
  have z2 : e0 ≠ d := fun z => by rw [z, e] at b; cases b
  have z3 : f ≠ d := fun z => by rw [z, e] at c; cases c
  exact ⟨dx, e0, f, dy, by rw [upd_ne z1]; exact a, by rw [upd_ne z2]; exact b, by rw [upd_ne z3]; exact c, z1, z2, z3⟩
/-- a rule made of the shifts ss at d -/
structure Sit (K : Fg) (H : Hp) (r d : Addr) (x : Str) (ss tt : Tb) : Prop where
  ap : RuleAp K H r x tt d
  so : Srt ss tt
  at_ : H d = some (.dK (dk ss))
  sh : Sh ss
  sz : ∀ q ∈ ss, Sz 200 q.2
  vx : VN x
theorem Sit.mono {K : Fg} {H H' : Hp} {r d : Addr} {x : Str} {ss tt : Tb} (s : Same H H') (h : Sit K H r d x ss tt) : Sit K H' r d x ss tt := ⟨h.ap.mono s, h.so, s _ _ h.at_, h.sh, h.sz, h.vx⟩
theorem Sit.rule {K : Fg} {H : Hp} {r d : Addr} {x : Str} {ss tt : Tb} (h : Sit K H r d x ss tt) : RuleAt K H r x tt := h.ap.rule
theorem Sit.st {K : Fg} {H : Hp} {r d : Addr} {x : Str} {ss tt : Tb} (h : Sit K H r d x ss tt) : Sh tt := h.sh.srt h.so
/-- times for it -/
structure Tim (x : Str) (ss ws : Tb) : Prop where
  v : AllV ws
  nd : (ks ws).Nodup
  sz : ∀ q ∈ ws, Sz 220 q.2
  len : ws.length ≤ 20
  own : x ∈ ks ws
  oth : ∀ y ∈ ks ss, y ∈ ks ws
theorem Tim.tms {x : Str} {ss ws : Tb} (h : Tim x ss ws) : Tms ws := ⟨fun e => (by
  have z := h.own
  rw [e] at z
  exact absurd z List.not_mem_nil), h.v, Nat.le_trans h.len (by decide)⟩
theorem Tim.tt {x : Str} {ss tt ws : Tb} (h : Tim x ss ws) (s : Srt ss tt) : ∀ y ∈ ks tt, y ∈ ks ws := fun y hy => h.oth y (s.keys.mem_iff.mp hy)
theorem Tim.ok {x : Str} {ss ws : Tb} (h : Tim x ss ws) : TbOk ws := ⟨h.v, fun q hq => (h.sz q hq).mono (by decide), h.len⟩
theorem due_eq {x : Str} {ss tt ws : Tb} (s : Srt ss tt) (ne : ss ≠ []) : due x tt ws = (lk ws x).getD 0 - ear ss ws := by
  unfold due
  rw [ear_srt s ne]
/-! ### all times moved -/
theorem lk_mvd (n : Int) : ∀ (ws : Tb) (y : Str), lk (mvd ws n) y = (lk ws y).map (· + n)
  | [], _ => rfl
  | p :: r, y => by
    show (if p.1 = y then some (p.2 + n) else lk (mvd r n) y) = (if p.1 = y then some p.2 else lk r y).map (· + n)
    rw [lk_mvd n r]
    by_cases h : p.1 = y
    · rw [if_pos h, if_pos h]
      rfl
    · rw [if_neg h, if_neg h]
theorem isMin_add {l : List Int} {m n : Int} (h : IsMin l m) : IsMin (l.map (· + n)) (m + n) := by
  refine ⟨List.mem_map.mpr ⟨m, h.1, rfl⟩, fun y hy => ?_⟩
  obtain ⟨z, hz, e⟩ := List.mem_map.mp hy
  have e2 : z + n = y := e
  have q := h.2 z hz
  omega
theorem tvs_ne {tt ws : Tb} (h : tt ≠ []) : (tvs tt ws).map (·.2) ≠ [] := fun e => h (by
  unfold tvs at e
  rw [List.map_map] at e
  exact List.map_eq_nil_iff.mp e)
theorem ear_min {tt ws : Tb} (h : tt ≠ []) : IsMin ((tvs tt ws).map (·.2)) (ear tt ws) := isMin_mn (tvs_ne h)
theorem ear_mvd {tt ws : Tb} {n : Int} (ne : tt ≠ []) (h : ∀ y ∈ ks tt, y ∈ ks ws) : ear tt (mvd ws n) = ear tt ws + n := by
  have e : (tvs tt (mvd ws n)).map (·.2) = ((tvs tt ws).map (·.2)).map (· + n) := by
    unfold tvs
    rw [List.map_map, List.map_map, List.map_map]
    refine List.map_congr_left fun p hp => ?_
    show (lk (mvd ws n) p.1).getD 0 + p.2 = (lk ws p.1).getD 0 + p.2 + n
    obtain ⟨a, ha⟩ := lk_some (h p.1 (List.mem_map.mpr ⟨p, hp, rfl⟩))
    rw [lk_mvd, ha]
    show a + n + p.2 = a + p.2 + n
    omega
  have q := isMin_add (n := n) (ear_min (ws := ws) ne)
  rw [← e] at q
  exact q.mn.symm
theorem due_mvd {x : Str} {tt ws : Tb} {n : Int} (ne : tt ≠ []) (hx : x ∈ ks ws) (h : ∀ y ∈ ks tt, y ∈ ks ws) : due x tt (mvd ws n) = due x tt ws := by
  unfold due
  rw [ear_mvd ne h, lk_mvd]
  obtain ⟨a, ha⟩ := lk_some hx
  rw [ha]
  show a + n - (ear tt ws + n) = a - ear tt ws
  omega
theorem Tim.mvd {x : Str} {ss ws : Tb} {n : Int} (h : Tim x ss ws) : (K21.mvd ws n) ≠ [] ∧ AllV (K21.mvd ws n) ∧ (K21.mvd ws n).length ≤ 1000 := by
  have l : (K21.mvd ws n).length = ws.length := List.length_map _
  refine ⟨fun e => h.tms.ne ?_, fun p hp => ?_, by rw [l]; exact h.tms.len⟩
  · unfold K21.mvd at e
    exact List.map_eq_nil_iff.mp e
  · obtain ⟨q, hq, e⟩ := List.mem_map.mp hp
    rw [← e]
    exact h.v q hq
/-! ### the contrary -/
theorem ear_one (m : Str) (k : Int) (ws : Tb) : ear [(m, k)] ws = (lk ws m).getD 0 + k := rfl
theorem due_one (y x : Str) (k : Int) (ws : Tb) : due y [(x, k)] ws = (lk ws y).getD 0 - ((lk ws x).getD 0 + k) := rfl
theorem kept_iff {x : Str} {tt ws : Tb} (ne : tt ≠ []) : 0 ≤ due x tt ws ↔ ∃ q ∈ tt, (lk ws q.1).getD 0 + q.2 ≤ (lk ws x).getD 0 := by
  have h := ear_min (ws := ws) ne
  unfold due
  constructor
  · intro z
    obtain ⟨p, hp, e⟩ := List.mem_map.mp h.1
    obtain ⟨q, hq, e2⟩ := List.mem_map.mp hp
    refine ⟨q, hq, ?_⟩
    rw [← e2] at e
    have e3 : (lk ws q.1).getD 0 + q.2 = ear tt ws := e
    omega
  · rintro ⟨q, hq, z⟩
    have e3 := h.2 _ (List.mem_map.mpr ⟨_, List.mem_map.mpr ⟨q, hq, rfl⟩, rfl⟩)
    have e4 : ear tt ws ≤ (lk ws q.1).getD 0 + q.2 := e3
    omega
theorem con_all {x : Str} {tt ws : Tb} (ne : tt ≠ []) : (tt.map fun q => decide (0 ≤ due q.1 [(x, 1 - q.2)] ws)).all id = !decide (0 ≤ due x tt ws) := by
  rw [Bool.eq_iff_iff, List.all_eq_true, Bool.not_eq_true', decide_eq_false_iff_not, kept_iff ne]
  constructor
  · rintro h ⟨q, hq, z⟩
    have a := h _ (List.mem_map.mpr ⟨q, hq, rfl⟩)
    have b := of_decide_eq_true a
    rw [due_one] at b
    omega
  · intro h b hb
    obtain ⟨q, hq, rfl⟩ := List.mem_map.mp hb
    refine decide_eq_true ?_
    rw [due_one]
    apply Classical.byContradiction
    intro z
    exact h ⟨q, hq, by omega⟩
/-! ### sizes -/
theorem Sz.getD {ws : Tb} {k : Nat} (h : ∀ q ∈ ws, Sz k q.2) (x : Str) : Sz k ((lk ws x).getD 0) := by
  cases e : lk ws x with
  | none =>
    show (0 : Int).natAbs < 2 ^ k
    exact Nat.pow_pos (by decide)
  | some n => exact h (x, n) (lk_mem e)
theorem ear_sz {tt ws : Tb} (ne : tt ≠ []) (h : ∀ q ∈ tt, Sz 200 q.2) (g : ∀ q ∈ ws, Sz 220 q.2) : Sz 221 (ear tt ws) := by
  obtain ⟨p, hp, e⟩ := List.mem_map.mp (ear_min (ws := ws) ne).1
  obtain ⟨q, hq, e2⟩ := List.mem_map.mp hp
  rw [← e2] at e
  have e3 : (lk ws q.1).getD 0 + q.2 = ear tt ws := e
  rw [← e3]
  exact (Sz.getD g q.1).add ((h q hq).mono (by decide))
theorem due_sz {x : Str} {tt ws : Tb} (ne : tt ≠ []) (h : ∀ q ∈ tt, Sz 200 q.2) (g : ∀ q ∈ ws, Sz 220 q.2) : Sz 300 (due x tt ws) := (((Sz.getD g x).mono (by decide)).sub (ear_sz ne h g)).mono (by decide)
/-! ### always, never -/
theorem alw_iff {x : Str} {ss tt : Tb} (s : Srt ss tt) (hn : (ks ss).Nodup) : alw x tt = decide (∃ n, lk ss x = some n ∧ n ≤ 0) := by
  unfold alw
  rw [s.lk hn]
  cases e : lk ss x with
  | none =>
    rw [decide_eq_false (by show ¬ (1 : Int) ≤ 0; decide), decide_eq_false]
    rintro ⟨n, h, _⟩
    cases h
  | some n =>
    rw [decide_eq_decide]
    exact ⟨fun h => ⟨n, rfl, h⟩, fun ⟨m, h1, h2⟩ => by rw [Option.some.inj h1]; exact h2⟩
/-- the times that break: kept only if always -/
theorem brk_kept {x : Str} {b : Int} {ss tt ws : Tb} (s : Srt ss tt) (ne : ss ≠ []) (hn : (ks ss).Nodup) (own : lk ws x = some b) (oth : ∀ r ∈ ss, r.1 ≠ x → lk ws r.1 = some (b - r.2 + 1)) : decide (0 ≤ due x tt ws) = alw x tt := by
  rw [alw_iff s hn, decide_eq_decide, kept_iff (s.ne ne)]
  constructor
  · rintro ⟨q, hq, z⟩
    have hq2 : q ∈ ss := s.mem.mp hq
    rw [own] at z
    by_cases c : q.1 = x
    · rw [c, own] at z
      have z2 : b + q.2 ≤ b := z
      exact ⟨q.2, by rw [← c]; exact mem_lk hn (show (q.1, q.2) ∈ ss from hq2), by omega⟩
    · rw [oth q hq2 c] at z
      have z2 : b - q.2 + 1 + q.2 ≤ b := z
      omega
  · rintro ⟨n, h1, h2⟩
    refine ⟨(x, n), s.mem.mpr (lk_mem h1), ?_⟩
    show (lk ws x).getD 0 + n ≤ (lk ws x).getD 0
    omega
theorem kp_kept {x y : Str} {b : Int} {ss tt ws : Tb} (s : Srt ss tt) (ne : ss ≠ []) (hn : (ks ss).Nodup) (hy : y ∈ ks ss) (h : KpI x b ss y ws) : decide (0 ≤ due x tt ws) = (alw x tt || decide (y ≠ x)) := by
  by_cases c : y = x
  · have e0 : decide (y ≠ x) = false := decide_eq_false fun z => z c
    rw [e0, Bool.or_false]
    exact brk_kept s ne hn h.own fun r hr h1 => h.oth r hr h1 fun e => h1 (e.trans c)
  · rw [decide_eq_true c, Bool.or_true, decide_eq_true_iff, kept_iff (s.ne ne)]
    obtain ⟨q, hq, e⟩ := List.mem_map.mp hy
    have e2 : q.1 = y := e
    refine ⟨q, s.mem.mpr hq, ?_⟩
    rw [h.cho q hq (by rw [e2]; exact c) e2, h.own]
    show b - q.2 + q.2 ≤ b
    omega
theorem nev_eq {x : Str} {ss tt : Tb} (s : Srt ss tt) (hn : (ks ss).Nodup) : nev x tt = (!alw x tt && decide (ks ss = [x])) := by
  unfold nev
  rw [alw_iff s hn, s.len, s.lk hn, Bool.eq_iff_iff, Bool.and_eq_true, Bool.and_eq_true, decide_eq_true_iff, decide_eq_true_iff, Bool.not_eq_true', decide_eq_false_iff_not, decide_eq_true_iff]
  constructor
  · rintro ⟨h1, h2⟩
    match ss, h1, h2, hn with
    | [p], _, h2, hn =>
      have e : p.1 = x := by
        apply Classical.byContradiction
        intro c
        have z : lk [p] x = none := if_neg c
        rw [z] at h2
        exact absurd h2 (by decide)
      have z : lk [p] x = some p.2 := if_pos e
      rw [z] at h2
      refine ⟨fun ⟨n, a, b⟩ => ?_, by show [p.1] = [x]; rw [e]⟩
      rw [z] at a
      have a2 := Option.some.inj a
      have h3 : 0 < p.2 := h2
      omega
  · rintro ⟨h1, h2⟩
    match ss, h2 with
    | [p], h2 =>
      have e : p.1 = x := by
        injection h2
      have z : lk [p] x = some p.2 := if_pos e
      refine ⟨rfl, ?_⟩
      rw [z]
      show 0 < p.2
      apply Classical.byContradiction
      intro c
      exact h1 ⟨p.2, z, by omega⟩
theorem eqv_dec : ∀ xs ys : List Str, PyData.eqvAll (xs.map .str) (ys.map .str) = decide (xs = ys)
  | [], [] => rfl
  | [], _ :: _ => rfl
  | _ :: _, [] => rfl
  | x :: xs, y :: ys => by
    show ((x == y) && PyData.eqvAll (xs.map .str) (ys.map .str)) = _
    rw [eqv_dec xs ys, Bool.eq_iff_iff, Bool.and_eq_true, beq_iff_eq, decide_eq_true_iff, decide_eq_true_iff, List.cons.injEq]
end K21
set_option maxHeartbeats 4000000
/-! at_times_right, turned_right -/
namespace K21
open PySem PySem.Spec PyProof.Rows L2 He
section
variable {P : Program} {w : World} {K : Fg} {mg : Str → Option Value} {base : Heap}
def spAtTimes (K : Fg) : Sp := fun vs H Q _ => ∃ r x d e n ss tt ws, vs = [.ref r, .str x, .ref d, .ref e, .int n] ∧ Sit K H r d x ss tt ∧ H e = some (.dK (dk ws)) ∧ Tim x ss ws ∧ ∀ H', Same H H' → Q (.bl true) H'
theorem sc_atimes : FnScope ["_law_rule", "_law_left", "_law_shifts_here", "_law_when", "_law_number_here", "_law_spoken", "_law_due", "_law_told", "_law_others", "_law_other"] ["_law_rule", "_law_left", "_law_shifts_here", "_law_when", "_law_number_here"] (defScope dLawAtTimesRight.st) := ⟨rfl, rfl, rfl, by decide +kernel, rfl, by decide +kernel, by decide +kernel⟩
theorem ok_atimes (T : Tx K mg) : Cg P w K mg base 9 dLawAtTimesRight ["_law_rule", "_law_left", "_law_shifts_here", "_law_when", "_law_number_here"] (spAtTimes K) := by
  obtain ⟨fd, F⟩ := T.dLawAtTimesRight
  have cL : Cd P w K mg base 1 dLawLeast ["_law_shifts_here", "_law_when"] spLeastL := ok_least T
  have cV : Cd P w K mg base 1 dLawMoved ["_law_when", "_law_number_here"] spMoved := ok_moved T
  have kS : Ck P w K mg base 6 dRuleslack ["self", "times"] "times" (spSlack K) := ok_slack T
  have kK : Ck P w K mg base 7 dRulekeptBy ["self", "times"] "times" (spKept K) := ok_kept T
  have cS := kS.cd
  have cK := kK.cd
  have cC : Cd P w K mg base 8 dRulecontrary ["self"] (spContrary K) := ok_contrary T
  refine .of F sc_atimes (F.bindsN fun _ _ _ _ _ _ us hl => match us, hl with | [_, _, _, _, _], _ => rfl) (fun vs H Q E h => ?_) (fun cdv A outer s0 H vs Q E hr hg h => ?_)
  · obtain ⟨_, _, _, _, _, _, _, _, rfl, _⟩ := h
    rfl
  · obtain ⟨r, x, d, e, n, ss, tt, ws, rfl, S, he, W, q⟩ := h
    have hu := hu_of hr
    refine ⟨_, pss_cons (ps_set (i := 5) sc_atimes.nd rfl (Or.inl rfl) (pe_callB (cr_reprT hg hr.units) (by rfl) T.n_repr bt_repr (pa_cons (pv 3) pa_nil)))
      (pss_cons (ps_set (i := 6) sc_atimes.nd rfl (Or.inl rfl) (pe_op op_sub (pe_dget hu (pv 3) (pv 1) (fun _ _ => rfl)) (pe_cd cL hr T.g_law_least (pa_cons (pv 2) (pa_cons (pv 3) pa_nil)))))
      (pss_cons (ps_set (i := 7) sc_atimes.nd rfl (Or.inl rfl) (pe_lst (pa_cons (pe_mc cS T.c_Rule T.me_Rule_slack hr (pv 0) (pa_cons (pv 3) pa_nil)) (pa_cons (pe_mc cK T.c_Rule T.me_Rule_kept_by hr (pv 0) (pa_cons (pv 3) pa_nil))
        (pa_cons (pe_mkw kS T.c_Rule T.me_Rule_slack hr (pv 0) (pe_cd cV hr T.g_law_moved (pa_cons (pv 3) (pa_cons (pv 4) pa_nil)))) pa_nil)))))
      (pss_cons (ps_expr (pe_bm PySem.F.plainAttrs_list PySem.F.slot_list_append PySem.F.type_list_append mt_append (pv 7) (pa_cons (pe_mkw kK T.c_Rule T.me_Rule_kept_by hr (pv 0) (pe_cd cV hr T.g_law_moved (pa_cons (pv 3) (pa_cons (pv 4) pa_nil)))) pa_nil)))
      (pss_cons (ps_if (PW.pt (pw_or (pt_cmpR op_ne (pe_callB (cr_reprL hg hr.units) (by rfl) T.n_repr bt_repr (pa_cons (pv 7) pa_nil))
          (pe_callB (cr_reprL hg hr.units) (by rfl) T.n_repr bt_repr (pa_cons (pe_lst (pa_cons (pv 6) (pa_cons (pe_cmpR op_ge (pv 6) pe_int (nomark _)) (pa_cons (pv 6) (pa_cons (pe_cmpR op_ge (pv 6) pe_int (nomark _)) pa_nil))))) pa_nil)) (nomark _))
        (pw_or1 (pt_cmpR op_ne (pe_callB (cr_reprT hg hr.units) (by rfl) T.n_repr bt_repr (pa_cons (pv 3) pa_nil)) (pv 5) (nomark _))))) (pss_one (ps_ret pe_bl)) pss_nil)
      (pss_cons (ps_setLc (i := 8) (own := [("_law_other", 9)]) (g := gName 9) (tt := tYes) rfl sc_atimes.nd rfl rfl (sw_true rfl rfl (by rfl) (by rfl)) (pi_list (pe_mc0 cC T.c_Rule T.me_Rule_contrary hr (pv 0)))
        (blkOk_by (N := ["_law_rule", "_law_left", "_law_shifts_here", "_law_when", "_law_number_here", "_law_spoken", "_law_due", "_law_told", "_law_others", "_law_other"]) (sc := defScope dLawAtTimesRight.st) (by decide +kernel))
        (fun _ _ _ _ _ => pg_name (i := 9) sc_atimes.nd rfl (Or.inl rfl)) (fun _ _ _ _ _ => pts_nil) (fun _ _ _ _ _ => pe_mc cK T.c_Rule T.me_Rule_kept_by hr (pv 9) (pa_cons (pv 3) pa_nil)))
      (pss_one (ps_ret (pe_cmpR op_eq (pe_callB (cr_all rfl) (by rfl) T.n_all bt_all (pa_cons (pv 8) pa_nil)) (pe_not (pe_mc cK T.c_Rule T.me_Rule_kept_by hr (pv 0) (pa_cons (pv 3) pa_nil))) (nomark _))))))))), ?_⟩
    have St := S.st
    have ne := S.sh.ne
    have net := St.ne
    have hx2 := W.tt S.so
    have ft := W.tms
    have fm := W.mvd (n := n)
    have dm : due x tt (mvd ws n) = due x tt ws := due_mvd net W.own hx2
    have dz : Sz 300 (due x tt ws) := due_sz net (fun q hq => S.sz q (S.so.mem.mp hq)) W.sz
    -- the words of when
    refine ⟨_, rfl, e, ws, rfl, .inl he, W.ok, ?_⟩
    -- the slack by hand
    obtain ⟨lx, hlx⟩ := lk_some W.own
    have de : lx - ear ss ws = due x tt ws := by
      rw [due_eq S.so ne, hlx]
      rfl
    refine ⟨_, rfl, _, rfl, e, .int lx, rfl, dgetS (.inl he) hlx, _, rfl, _, rfl, d, e, ss, ws, rfl, S.at_, S.sh, he, W.oth, fun H1 s1 => ⟨lx, _, rfl, rfl, ?_⟩⟩
    dsimp only [gName]
    rw [de]
    -- what the rule tells
    have S1 := S.mono s1
    obtain ⟨dx, ea, r1, _⟩ := id S1.rule
    refine ⟨_, rfl, r, dx, _, rfl, r1, rfl, _, rfl, r, e, x, tt, ws, rfl, S1.rule, St, s1 _ _ he, ft, W.own, hx2, fun H2 s2 => ?_⟩
    have s02 := s1.trans s2
    refine ⟨_, rfl, r, dx, _, rfl, s2 _ _ r1, rfl, _, rfl, r, e, x, tt, ws, rfl, S1.rule.mono s2, St, s02 _ _ he, ft, W.own, hx2, fun H3 s3 => ?_⟩
    have s03 := s02.trans s3
    have r3 := s3 _ _ (s2 _ _ r1)
    refine ⟨_, rfl, r, dx, _, rfl, r3, rfl, _, rfl, _, rfl, e, n, ws, rfl, s03 _ _ he, W.nd, ft.len, fun H4 f4 s4 nf4 ef4 => ?_⟩
    have s04 := s03.trans s4
    refine ⟨r, f4, x, tt, mvd ws n, rfl, (S.mono s04).rule, St, ef4, ⟨fm.1, fm.2.1, fm.2.2⟩, by rw [ks_mvd]; exact W.own, fun y hy => by rw [ks_mvd]; exact hx2 y hy, fun H5 s5 => ?_⟩
    rw [dm]
    have s05 := s04.trans s5
    refine ⟨small_le (n := 3) (by decide), fun l nl => ?_⟩
    have s06 : Same H (upd H5 l (.lst [.int (due x tt ws), .bl (decide (0 ≤ due x tt ws)), .int (due x tt ws)])) := s05.trans (new_same nl)
    have el : (upd H5 l (.lst [.int (due x tt ws), .bl (decide (0 ≤ due x tt ws)), .int (due x tt ws)])) l = some (.lst [.int (due x tt ws), .bl (decide (0 ≤ due x tt ws)), .int (due x tt ws)]) := upd_same
    have nlH : H l = none := s05.free nl
    generalize upd H5 l (.lst [.int (due x tt ws), .bl (decide (0 ≤ due x tt ws)), .int (due x tt ws)]) = H6 at s06 el
    -- one more
    have S6 := S.mono s06
    obtain ⟨dx6, ea6, r6, _⟩ := id S6.rule
    refine ⟨_, rfl, .inl ⟨rfl, _, .of el⟩, _, rfl, r, dx6, _, rfl, r6, rfl, _, rfl, _, rfl, e, n, ws, rfl, s06 _ _ he, W.nd, ft.len, fun H7 f7 s7 nf7 ef7 => ?_⟩
    have s07 := s06.trans s7
    refine ⟨r, f7, x, tt, mvd ws n, rfl, (S.mono s07).rule, St, ef7, ⟨fm.1, fm.2.1, fm.2.2⟩, by rw [ks_mvd]; exact W.own, fun y hy => by rw [ks_mvd]; exact hx2 y hy, fun H8 s8 => ?_⟩
    rw [dm]
    have s08 := s07.trans s8
    refine ⟨l, _, _, rfl, rfl, s8 _ _ (s7 _ _ el), small_lt (n := 3) (by decide), ?_⟩
    have s09 : Same H (upd H8 l (.lst ([.int (due x tt ws), .bl (decide (0 ≤ due x tt ws)), .int (due x tt ws)] ++ [.bl (decide (0 ≤ due x tt ws))]))) := s08.wr nlH
    have el9 : (upd H8 l (.lst ([.int (due x tt ws), .bl (decide (0 ≤ due x tt ws)), .int (due x tt ws)] ++ [.bl (decide (0 ≤ due x tt ws))]))) l = some (.lst ([Sum.inl (due x tt ws), .inr (decide (0 ≤ due x tt ws)), .inl (due x tt ws), .inr (decide (0 ≤ due x tt ws))].map vn)) := upd_same
    generalize upd H8 l (.lst ([.int (due x tt ws), .bl (decide (0 ≤ due x tt ws)), .int (due x tt ws)] ++ [.bl (decide (0 ≤ due x tt ws))])) = H9 at s09 el9
    have nb : ∀ z ∈ [Sum.inl (due x tt ws), .inr (decide (0 ≤ due x tt ws)), .inl (due x tt ws), .inr (decide (0 ≤ due x tt ws))], NbOk z := fun z hz => by
      rcases List.mem_cons.mp hz with rfl | hz
      · exact dz
      rcases List.mem_cons.mp hz with rfl | hz
      · trivial
      rcases List.mem_cons.mp hz with rfl | hz
      · exact dz
      rcases List.mem_cons.mp hz with rfl | hz
      · trivial
      · cases hz
    -- the texts
    refine ⟨_, rfl, l, _, rfl, .of el9, nb, by show 4 ≤ 30; decide, ?_⟩
    refine ⟨_, rfl, _, rfl, _, _, rfl, rfl, _, rfl, _, rfl, _, _, rfl, rfl, small_le (n := 4) (by decide), fun l2 nl2 => ?_⟩
    have s10 : Same H9 (upd H9 l2 (.lst [.int (due x tt ws), .bl (decide (0 ≤ due x tt ws)), .int (due x tt ws), .bl (decide (0 ≤ due x tt ws))])) := new_same nl2
    refine ⟨l2, _, rfl, .of (show (upd H9 l2 _) l2 = some (.lst ([Sum.inl (due x tt ws), .inr (decide (0 ≤ due x tt ws)), .inl (due x tt ws), .inr (decide (0 ≤ due x tt ws))].map vn)) from upd_same), nb, by show 4 ≤ 30; decide, ?_⟩
    refine ⟨rfl, false, congrArg V.bl (show (!decide (V.str _ = V.str _)) = false by rw [decide_eq_true rfl]; rfl), iteF ?_⟩
    have s010 := s09.trans s10
    generalize upd H9 l2 (.lst [.int (due x tt ws), .bl (decide (0 ≤ due x tt ws)), .int (due x tt ws), .bl (decide (0 ≤ due x tt ws))]) = H10 at s010
    refine ⟨_, rfl, e, ws, rfl, .inl (s010 _ _ he), W.ok, _, rfl, rfl, false, congrArg V.bl (show (!decide (V.str _ = V.str _)) = false by rw [decide_eq_true rfl]; rfl), iteF ?_⟩
    -- the contrary
    have S10 := S.mono s010
    obtain ⟨dx10, ea10, r10, _⟩ := id S10.rule
    refine ⟨_, rfl, r, dx10, _, rfl, r10, rfl, r, x, tt, rfl, S10.rule, S.vx, St, fun H11 c rs s11 nc ec cs => ?_⟩
    refine ⟨c, rfl, ⟨_, .of ec⟩, fun D nD => ?_⟩
    have s011 := s010.trans s11
    have lr := paired_len cs
    have l8 := St.len
    have nDH : H D = none := s011.free nD
    have nDc : D ≠ c := fun z => by rw [z, ec] at nD; cases nD
    refine lc_it (walk_list (K := K) (a := c) (xs := rs.map V.ref)) (fun i H' => Same H11 H' ∧ H' D = some (.lst (((tt.take i).map fun q => decide (0 ≤ due q.1 [(x, 1 - q.2)] ws)).map V.bl))) ⟨new_same nD, upd_same⟩ (fun _ _ _ p => .of (p.1 _ _ ec)) (fun i v H12 H13 hi p y => ?_) (fun H12 p => ?_)
    · obtain ⟨rfl, hv⟩ := y
      rw [List.getElem?_map] at hv
      rw [List.length_map] at hi
      cases er : rs[i]? with
      | none => rw [er] at hv; cases hv
      | some o =>
        rw [er] at hv
        have ev : V.ref o = v := Option.some.inj hv
        subst ev
        obtain ⟨b, hb, hR⟩ := paired_at cs er
        have hR2 : RuleAt K H13 o b.1 [(x, 1 - b.2)] := RuleAt.mono p.1 hR
        obtain ⟨dxo, eo, ro, _⟩ := id hR2
        have bin : b ∈ tt := List.mem_of_getElem? hb
        refine ⟨rfl, _, rfl, o, dxo, _, rfl, ro, rfl, _, rfl, o, e, b.1, [(x, 1 - b.2)], ws, rfl, hR2, sh_one S.vx, p.1 _ _ (s011 _ _ he), ft, hx2 b.1 (List.mem_map.mpr ⟨b, bin, rfl⟩), fun y hy => ?_, fun H14 s14 => ?_⟩
        · rw [List.mem_singleton.mp hy]
          exact W.own
        · refine ⟨_, s14 _ _ p.2, ?_, (p.1.trans s14).wr nD, ?_⟩
          · rw [List.length_map, List.length_map, List.length_take]
            exact small_lt (by omega)
          · rw [upd_same, List.take_add_one, hb, List.map_append, List.map_append]
            rfl
    · rw [List.length_map, lr, List.take_length] at p
      have s012 := s011.trans p.1
      have S12 := S.mono s012
      obtain ⟨dx12, ea12, r12, _⟩ := id S12.rule
      refine ⟨_, rfl, D, _, rfl, .of p.2, _, rfl, r, dx12, _, rfl, r12, rfl, _, rfl, r, e, x, tt, ws, rfl, S12.rule, St, s012 _ _ he, ft, W.own, hx2, fun H13 s13 => ?_⟩
      refine ⟨_, rfl, rfl, ?_⟩
      rw [con_all net]
      show Q (.bl (decide (V.bl (!decide (0 ≤ due x tt ws)) = V.bl (!decide (0 ≤ due x tt ws))))) H13
      rw [decide_eq_true rfl]
      exact q H13 (s012.trans s13)
end
end K21
set_option maxHeartbeats 4000000
/-! turned_right, kinds_right -/
namespace K21
open PySem PySem.Spec PyProof.Rows L2 He
theorem allv_ks {us ws : Tb} (e : ks us = ks ws) (h : AllV ws) : AllV us := fun p hp => by
  have z : p.1 ∈ ks us := List.mem_map.mpr ⟨p, hp, rfl⟩
  rw [e] at z
  obtain ⟨q, hq, e2⟩ := List.mem_map.mp z
  have e3 : q.1 = p.1 := e2
  rw [← e3]
  exact h q hq
section
variable {P : Program} {w : World} {K : Fg} {mg : Str → Option Value} {base : Heap}
def spTurned (K : Fg) : Sp := fun vs H Q _ => ∃ r x d e ss tt ws, vs = [.ref r, .str x, .ref d, .ref e] ∧ Sit K H r d x ss tt ∧ H e = some (.dK (dk ws)) ∧ Tim x ss ws ∧ ∀ H', Same H H' → Q (.bl true) H'
theorem sc_turned : FnScope ["_law_rule", "_law_left", "_law_shifts_here", "_law_when", "_law_near", "_law_name", "_law_more", "_law_due"] ["_law_rule", "_law_left", "_law_shifts_here", "_law_when"] (defScope dLawTurnedRight.st) := ⟨rfl, rfl, rfl, by decide +kernel, rfl, by decide +kernel, by decide +kernel⟩
theorem ok_turned (T : Tx K mg) : Cd P w K mg base 8 dLawTurnedRight ["_law_rule", "_law_left", "_law_shifts_here", "_law_when"] (spTurned K) := by
  obtain ⟨fd, F⟩ := T.dLawTurnedRight
  have cL : Cd P w K mg base 1 dLawLeast ["_law_shifts_here", "_law_when"] spLeastL := ok_least T
  have cS : Cd P w K mg base 6 dRuleslack ["self", "times"] (spSlack K) := (ok_slack T).cd
  have cK : Cd P w K mg base 7 dRulekeptBy ["self", "times"] (spKept K) := (ok_kept T).cd
  refine .of F sc_turned (F.bindsN fun _ _ _ _ _ _ us hl => match us, hl with | [_, _, _, _], _ => rfl) (fun vs H Q E h => ?_) (fun cdv A outer s0 H vs Q E hr h => ?_)
  · obtain ⟨_, _, _, _, _, _, _, rfl, _⟩ := h
    rfl
  · obtain ⟨r, x, d, e, ss, tt, ws, rfl, S, he, W, q⟩ := h
    have hu := hu_of hr
    refine ⟨_, pss_cons (ps_set (i := 4) sc_turned.nd rfl (Or.inl rfl) (pe_callTy call_dictD (by rfl) T.n_dict bt_dict (pa_cons (pv 3) pa_nil)))
      (pss_cons (ps_for PassesOwn.never rfl (pi_list (pe_lst (pa_cons (pv 1) (pa_cons (pe_callB (cr_minK rfl) (by rfl) T.n_min bt_min (pa_cons (pv 2) pa_nil)) pa_nil)))) (pg_name (i := 5) sc_turned.nd rfl (Or.inl rfl))
        (pss_one (ps_for PassesOwn.never rfl (pi_tup (pe_tup (pa_cons pe_int (pa_cons pe_int (pa_cons (pe_op op_sub pe_int pe_int) (pa_cons pe_int pa_nil)))))) (pg_name (i := 6) sc_turned.nd rfl (Or.inl rfl))
          (pss_cons (ps_dput hu (pv 4) (pv 5) (pe_add (pe_dget hu (pv 3) (pv 5) (fun _ _ => rfl)) (pv 6)) rfl)
          (pss_cons (ps_set (i := 7) sc_turned.nd rfl (Or.inl rfl) (pe_op op_sub (pe_dget hu (pv 4) (pv 1) (fun _ _ => rfl)) (pe_cd cL hr T.g_law_least (pa_cons (pv 2) (pa_cons (pv 4) pa_nil)))))
          (pss_one (ps_if (PW.pt (pw_or (pt_cmpR op_ne (pe_mc cS T.c_Rule T.me_Rule_slack hr (pv 0) (pa_cons (pv 4) pa_nil)) (pv 7) (nomark _))
            (pw_or1 (pt_cmpR op_ne (pe_mc cK T.c_Rule T.me_Rule_kept_by hr (pv 0) (pa_cons (pv 4) pa_nil)) (pe_cmpR op_ge (pv 7) pe_int (nomark _)) (nomark _))))) (pss_one (ps_ret pe_bl)) pss_nil)))))))
      (pss_one (ps_ret pe_bl))), ?_⟩
    have St := S.st
    have ne := S.sh.ne
    have hx2 := W.tt S.so
    refine ⟨_, rfl, e, _, rfl, .inl he, fun f nf => ?_⟩
    have s1 : Same H (upd H f (.dK (dk ws))) := new_same nf
    refine ⟨_, rfl, _, rfl, d, dk ss, ks ss, rfl, .inl (s1 _ _ S.at_), dk_keys ss, by rw [ks_len]; exact List.length_pos_iff.mpr ne, fun y hy => ⟨small_le (n := 2) (by decide), fun l nl => ?_⟩⟩
    have s2 : Same H (upd (upd H f (.dK (dk ws))) l (.lst [.str x, .str y])) := s1.trans (new_same nl)
    have nlf : l ≠ f := fun z => by rw [z, upd_same] at nl; cases nl
    have nlH : H l = none := by rw [upd_ne nlf] at nl; exact nl
    refine ⟨l, rfl, ⟨_, .of upd_same⟩, for_list (K := K) (a := l) (xs := [.str x, .str y]) (fun i σ H' => ∃ (v5 v6 v7 : Option V) (us : Tb), σ = [some (.ref r), some (.str x), some (.ref d), some (.ref e), some (.ref f), v5, v6, v7] ∧ Same H H' ∧ H' l = some (.lst [.str x, .str y]) ∧ H' f = some (.dK (dk us)) ∧ ks us = ks ws)
      ⟨none, none, none, ws, rfl, s2, upd_same, by rw [upd_ne nlf.symm, upd_same], rfl⟩ (fun i σ H' _ ⟨_, _, _, _, _, _, z, _⟩ => .of z) (fun i v σ H2 hv hP => ?_) (fun σ H2 hP => ?_)⟩
    · obtain ⟨v5, v6, v7, us, rfl, s3, el, ef, ek⟩ := hP
      obtain ⟨nm, rfl, hnm⟩ : ∃ nm : Str, v = .str nm ∧ nm ∈ ks ws := by
        have z := List.mem_of_getElem? hv
        rcases List.mem_cons.mp z with z | z
        · exact ⟨x, z, W.own⟩
        · exact ⟨y, List.mem_singleton.mp z, W.oth y hy⟩
      obtain ⟨a, ha⟩ := lk_some hnm
      refine ⟨0, 1, rfl, rfl, small_le (n := 4) (by decide), fun t nt => ?_⟩
      have nte : t ≠ f := fun z => by rw [z, ef] at nt; cases nt
      have ntl : t ≠ l := fun z => by rw [z, el] at nt; cases nt
      have s4 : Same H2 (upd H2 t (.tup [.int 0, .int 1, .int (0 - 1), .int 0])) := new_same nt
      refine ⟨t, rfl, ⟨_, .of upd_same⟩, for_it (walk_tup (K := K) (a := t) (xs := [.int 0, .int 1, .int (0 - 1), .int 0])) (fun i σ H' => ∃ (v6 v7 : Option V) (us : Tb), σ = [some (.ref r), some (.str x), some (.ref d), some (.ref e), some (.ref f), some (.str nm), v6, v7] ∧ Same H H' ∧ H' t = some (.tup [.int 0, .int 1, .int (0 - 1), .int 0]) ∧ H' l = some (.lst [.str x, .str y]) ∧ H' f = some (.dK (dk us)) ∧ ks us = ks ws)
        ⟨v6, v7, us, rfl, s3.trans s4, upd_same, s4 _ _ el, s4 _ _ ef, ek⟩ (fun i σ H' _ ⟨_, _, _, _, _, z, _⟩ => .of z) (fun i v σ H3 H4 hi hP hy4 => ?_) (fun σ H3 hP => ?_)⟩
      · obtain ⟨v6, v7, us, rfl, s5, et, el, ef, ek⟩ := hP
        obtain ⟨rfl, hv4⟩ := hy4
        obtain ⟨k, rfl⟩ : ∃ k : Int, v = .int k := by
          have z := List.mem_of_getElem? hv4
          rcases List.mem_cons.mp z with z | z
          · exact ⟨_, z⟩
          rcases List.mem_cons.mp z with z | z
          · exact ⟨_, z⟩
          rcases List.mem_cons.mp z with z | z
          · exact ⟨_, z⟩
          · exact ⟨_, List.mem_singleton.mp z⟩
        have ul : us.length ≤ 20 := by
          rw [← ks_len, ek, ks_len]
          exact W.len
        refine ⟨_, rfl, _, rfl, e, .int a, rfl, dgetS (.inl (s5 _ _ he)) ha, _, rfl, a, k, rfl, rfl, _, rfl, _, rfl, f, _, rfl, dput (x := nm) ef (small_lt (by omega)), ?_⟩
        have ek2 : ks (pt us nm (a + k)) = ks ws := by rw [ks_pt_old (by rw [ek]; exact hnm), ek]
        generalize pt us nm (a + k) = us2 at ek2
        have s6 : Same H (upd H4 f (.dK (dk us2))) := s5.wr nf
        have et6 : (upd H4 f (.dK (dk us2))) t = some (.tup [.int 0, .int 1, .int (0 - 1), .int 0]) := by rw [upd_ne nte]; exact et
        have el6 : (upd H4 f (.dK (dk us2))) l = some (.lst [.str x, .str y]) := by rw [upd_ne nlf]; exact el
        have ef6 : (upd H4 f (.dK (dk us2))) f = some (.dK (dk us2)) := upd_same
        generalize upd H4 f (.dK (dk us2)) = H6 at s6 et6 el6 ef6
        have ox : x ∈ ks us2 := by rw [ek2]; exact W.own
        have oss : ∀ z ∈ ks ss, z ∈ ks us2 := fun z hz => by rw [ek2]; exact W.oth z hz
        have ott : ∀ z ∈ ks tt, z ∈ ks us2 := fun z hz => by rw [ek2]; exact hx2 z hz
        have ft : Tms us2 := ⟨fun z => by rw [z] at ox; exact absurd ox List.not_mem_nil, allv_ks ek2 W.v, by rw [← ks_len, ek2, ks_len]; exact W.tms.len⟩
        obtain ⟨lx, hlx⟩ := lk_some ox
        have de : lx - ear ss us2 = due x tt us2 := by
          rw [due_eq S.so ne, hlx]
          rfl
        have S6 := S.mono s6
        refine ⟨_, rfl, _, rfl, f, .int lx, rfl, dgetS (.inl ef6) hlx, _, rfl, _, rfl, d, f, ss, us2, rfl, S6.at_, S.sh, ef6, oss, fun H7 s7 => ⟨lx, _, rfl, rfl, ?_⟩⟩
        dsimp only [gName]
        rw [de]
        have S7 := S6.mono s7
        obtain ⟨dx, ea, r1, _⟩ := id S7.rule
        refine ⟨_, rfl, r, dx, _, rfl, r1, rfl, _, rfl, r, f, x, tt, us2, rfl, S7.rule, St, s7 _ _ ef6, ft, ox, ott, fun H8 s8 => ?_⟩
        refine ⟨_, rfl, rfl, false, congrArg V.bl (show (!decide (V.int _ = V.int _)) = false by rw [decide_eq_true rfl]; rfl), iteF ?_⟩
        have S8 := S7.mono s8
        refine ⟨_, rfl, r, dx, _, rfl, s8 _ _ r1, rfl, _, rfl, r, f, x, tt, us2, rfl, S8.rule, St, s8 _ _ (s7 _ _ ef6), ft, ox, ott, fun H9 s9 => ?_⟩
        refine ⟨_, rfl, _, _, rfl, rfl, rfl, false, congrArg V.bl (show (!decide (V.bl _ = V.bl _)) = false by rw [decide_eq_true rfl]; rfl), iteF ?_⟩
        have s69 := (s7.trans s8).trans s9
        exact ⟨_, _, us2, rfl, s6.trans s69, s69 _ _ et6, s69 _ _ el6, s69 _ _ ef6, ek2⟩
      · obtain ⟨v6, v7, us, rfl, s5, et, el, ef, ek⟩ := hP
        exact ⟨_, _, _, us, rfl, s5, el, ef, ek⟩
    · obtain ⟨v5, v6, v7, us, rfl, s3, el, ef, ek⟩ := hP
      exact q H2 s3
end
end K21
set_option maxHeartbeats 4000000
/-! kinds_right -/
namespace K21
open PySem PySem.Spec PyProof.Rows L2 He
theorem kp_tms {x y : Str} {b : Int} {ss ws : Tb} (S : Sh ss) (vx : VN x) (h : KpI x b ss y ws) : Tms ws := ⟨fun z => (by
  have q := ks_of_lk h.own
  rw [z] at q
  exact absurd q List.not_mem_nil), fun p hp => (by
  rcases (h.on p.1).mp (List.mem_map.mpr ⟨p, hp, rfl⟩) with z | z
  · rw [z]
    exact vx
  · obtain ⟨q, hq, e⟩ := List.mem_map.mp z
    have e2 : q.1 = p.1 := e
    rw [← e2]
    exact S.v q hq), Nat.le_trans h.len (by decide)⟩
theorem br_tms {x : Str} {b : Int} {ss ws : Tb} (S : Sh ss) (vx : VN x) (h : BrI x b ss ss.length ws) : Tms ws := ⟨fun z => (by
  have q := ks_of_lk h.own
  rw [z] at q
  exact absurd q List.not_mem_nil), fun p hp => (by
  rcases h.on p.1 (List.mem_map.mpr ⟨p, hp, rfl⟩) with z | z
  · rw [z]
    exact vx
  · obtain ⟨q, hq, e⟩ := List.mem_map.mp z
    have e2 : q.1 = p.1 := e
    rw [← e2]
    exact S.v q hq), Nat.le_trans h.len (by have := S.len; omega)⟩
theorem pe_imp {X : Cx} {e : Expr} {t t2 : TE} (h : PE X e t) (k : ∀ σ H Q, t2 σ H Q → t σ H Q) : PE X e t2 := ⟨fun pins s σ H Q I q => h.run pins s σ H Q I (k σ H Q q)⟩
def tAlw (i j : Nat) : TE := fun σ H Q => ∃ x d ss, σ[i]? = some (some (.str x)) ∧ σ[j]? = some (some (.ref d)) ∧ Rd H d (.dK (dk ss)) ∧ Q (.bl (decide (∃ n, lk ss x = some n ∧ n ≤ 0))) H
def tDueK (i j k : Nat) : TE := fun σ H Q => ∃ a x y, σ[i]? = some (some (.bl a)) ∧ σ[j]? = some (some (.str y)) ∧ σ[k]? = some (some (.str x)) ∧ Q (.bl (a || decide (y ≠ x))) H
def tNevK (i j k : Nat) : TE := fun σ H Q => ∃ a d x ss, σ[i]? = some (some (.bl a)) ∧ σ[j]? = some (some (.ref d)) ∧ σ[k]? = some (some (.str x)) ∧ Rd H d (.dK (dk ss)) ∧ AllV ss ∧ VN x ∧ ∀ H', Same H H' → Q (.bl (!a && decide (ks ss = [x]))) H'
section
variable {P : Program} {w : World} {K : Fg} {mg : Str → Option Value} {base : Heap}
def spKinds (K : Fg) : Sp := fun vs H Q _ => ∃ r x d b ss tt, vs = [.ref r, .str x, .ref d, .int b] ∧ Sit K H r d x ss tt ∧ ∀ H', Same H H' → Q (.bl true) H'
theorem sc_kinds : FnScope ["_law_rule", "_law_left", "_law_shifts_here", "_law_begin", "_law_always", "_law_name", "_law_due"] ["_law_rule", "_law_left", "_law_shifts_here", "_law_begin"] (defScope dLawKindsRight.st) := ⟨rfl, rfl, rfl, by decide +kernel, rfl, by decide +kernel, by decide +kernel⟩
theorem ok_kinds (T : Tx K mg) : Cd P w K mg base 8 dLawKindsRight ["_law_rule", "_law_left", "_law_shifts_here", "_law_begin"] (spKinds K) := by
  obtain ⟨fd, F⟩ := T.dLawKindsRight
  have cA : Cd P w K mg base 1 dRuleisAlways ["self"] (spAlways K) := ok_always T
  have cN : Cd P w K mg base 1 dRuleisNever ["self"] (spNever K) := ok_never T
  have cK : Cd P w K mg base 7 dRulekeptBy ["self", "times"] (spKept K) := (ok_kept T).cd
  have cB : Cd P w K mg base 1 dLawBroken ["_law_left", "_law_shifts_here", "_law_begin"] spBroken := ok_broken T
  have cP : Cd P w K mg base 2 dLawKept ["_law_left", "_law_shifts_here", "_law_begin", "_law_chosen"] spKeptL := ok_keptl T
  refine .of F sc_kinds (F.bindsN fun _ _ _ _ _ _ us hl => match us, hl with | [_, _, _, _], _ => rfl) (fun vs H Q E h => ?_) (fun cdv A outer s0 H vs Q E hr h => ?_)
  · obtain ⟨_, _, _, _, _, _, rfl, _⟩ := h
    rfl
  · obtain ⟨r, x, d, b, ss, tt, rfl, S, q⟩ := h
    have hu := hu_of hr
    refine ⟨_, pss_cons (ps_set (i := 4) sc_kinds.nd rfl (Or.inl rfl) (pe_imp (t2 := tAlw 1 2) (pe_and (pe_cmp (pc_din hu (pv 1) (pv 2)) (by rfl)) (pe_one (pe_cmpR op_le (pe_dget hu (pv 2) (pv 1) (fun _ _ => rfl)) pe_int (nomark _)))) (by
        rintro σ H Q ⟨x, d, ss, h1, h2, h3, q⟩
        refine ⟨_, h1, _, h2, d, _, rfl, dget (x := x) h3, ?_⟩
        cases e : lk ss x with
        | none =>
          refine ⟨false, rfl, iteF ?_⟩
          rw [e, decide_eq_false (fun ⟨n, a, _⟩ => by cases a)] at q
          exact q
        | some n =>
          refine ⟨true, rfl, iteT ⟨_, h2, _, h1, d, .int n, rfl, dgetS h3 e, n, 0, rfl, rfl, ?_⟩⟩
          have e2 : decide (∃ m, lk ss x = some m ∧ m ≤ 0) = decide (n ≤ 0) := decide_eq_decide.mpr ⟨fun ⟨m, a, b⟩ => by rw [e] at a; rw [Option.some.inj a]; exact b, fun b => ⟨n, e, b⟩⟩
          rw [e2] at q
          exact q)))
      (pss_cons (ps_if (PW.pt (pw_or (pt_cmpR op_ne (pe_prc cA T.c_Rule T.p_Rule_is_always hr (pv 0)) (pv 4) (nomark _))
        (pw_or1 (pt_cmpR op_ne (pe_mc cK T.c_Rule T.me_Rule_kept_by hr (pv 0) (pa_cons (pe_cd cB hr T.g_law_broken (pa_cons (pv 1) (pa_cons (pv 2) (pa_cons (pv 3) pa_nil)))) pa_nil)) (pv 4) (nomark _))))) (pss_one (ps_ret pe_bl)) pss_nil)
      (pss_cons (ps_lock (ps_for PassesOwn.never rfl (pi_keys (pv 2)) (pg_name (i := 5) sc_kinds.nd rfl (Or.inl rfl))
        (pss_cons (ps_set (i := 6) sc_kinds.nd rfl (Or.inl rfl) (pe_imp (t2 := tDueK 4 5 1) (pe_or (pv 4) (pe_one (pe_cmpR op_ne (pv 5) (pv 1) (nomark _)))) (by
          rintro σ H Q ⟨a, x, y, h1, h2, h3, q⟩
          refine ⟨_, h1, a, rfl, ?_⟩
          cases a with
          | true => exact iteT q
          | false =>
            refine iteF ⟨_, h2, _, h3, rfl, ?_⟩
            have e : (!decide (V.str y = V.str x)) = decide (y ≠ x) := by
              rw [Bool.eq_iff_iff, Bool.not_eq_true', decide_eq_false_iff_not, decide_eq_true_iff]
              exact ⟨fun h z => h (congrArg V.str z), fun h z => h (V.str.inj z)⟩
            show Q (.bl (!decide (V.str y = V.str x))) H
            rw [e]
            exact q)))
        (pss_one (ps_if (pt_cmpR op_ne (pe_mc cK T.c_Rule T.me_Rule_kept_by hr (pv 0) (pa_cons (pe_cd cP hr T.g_law_kept (pa_cons (pv 1) (pa_cons (pv 2) (pa_cons (pv 3) (pa_cons (pv 5) pa_nil))))) pa_nil)) (pv 6) (nomark _)) (pss_one (ps_ret pe_bl)) pss_nil)))))
      (pss_one (ps_ret (pe_cmpR op_eq (pe_prc cN T.c_Rule T.p_Rule_is_never hr (pv 0)) (pe_imp (t2 := tNevK 4 2 1) (pe_and (pe_not (pv 4)) (pe_one (pe_cmpR (op_eqD hr.units) (pe_callTy (call_listD rfl) (by rfl) T.n_list bt_list (pa_cons (pv 2) pa_nil)) (pe_lst (pa_cons (pv 1) pa_nil)) (nomark _)))) (by
        rintro σ H Q ⟨a, d, x, ss, h1, h2, h3, hd, hv, vx, q⟩
        refine ⟨_, h1, a, rfl, !a, rfl, ?_⟩
        cases a with
        | true => exact iteF (q H same_id)
        | false =>
          refine iteT ⟨_, h2, d, _, rfl, hd, fun l nl => ?_⟩
          refine ⟨_, h3, small_le (n := 1) (by decide), fun l2 nl2 => ?_⟩
          have el : (dk ss).map (fun kv => kV kv.1) = (ks ss).map V.str := by
            unfold dk ks
            rw [List.map_map, List.map_map]
            rfl
          have nll : l2 ≠ l := fun z => by rw [z, upd_same] at nl2; cases nl2
          refine ⟨.list ((ks ss).map .str), .list ([x].map .str), .lst (.of (by rw [upd_ne nll.symm, upd_same, el])) (strs_dp _), .lst (.of upd_same) (strs_dp [x]), strs_shaped fun y hy => ?_, strs_shaped fun y hy => ?_, ?_⟩
          · obtain ⟨p, hp, e⟩ := List.mem_map.mp hy
            have e2 : p.1 = y := e
            rw [← e2]
            exact (hv p hp).ok
          · rw [List.mem_singleton.mp hy]
            exact vx.ok
          · show Q (.bl (PyData.eqvAll ((ks ss).map .str) ([x].map .str))) _
            rw [eqv_dec]
            exact q _ ((new_same nl).trans (new_same nl2)))) (nomark _)))))), ?_⟩
    have St := S.st
    have ne := S.sh.ne
    have hn := S.sh.nd
    refine ⟨x, d, ss, rfl, rfl, .inl S.at_, ?_⟩
    rw [← alw_iff S.so hn]
    -- the first question
    have S0 := S
    obtain ⟨dx, ea, r1, _⟩ := id S.rule
    refine ⟨_, rfl, r, dx, _, rfl, r1, r, x, tt, rfl, S.rule, _, rfl, rfl, false, congrArg V.bl (show (!decide (V.bl _ = V.bl _)) = false by rw [decide_eq_true rfl]; rfl), iteF ?_⟩
    refine ⟨_, rfl, r, dx, _, rfl, r1, rfl, _, rfl, _, rfl, _, rfl, x, d, b, ss, rfl, .inl S.at_, S.sh, fun H1 f ws s1 nf ef B => ?_⟩
    have S1 := S.mono s1
    have Bf := B.full
    refine ⟨r, f, x, tt, ws, rfl, S1.rule, St, ef, br_tms S.sh S.vx B, Bf.2 x (.inl rfl), fun y hy => Bf.2 y (.inr (S.so.keys.mem_iff.mp hy)), fun H2 s2 => ?_⟩
    rw [brk_kept S.so ne hn B.own Bf.1]
    refine ⟨_, rfl, rfl, false, congrArg V.bl (show (!decide (V.bl _ = V.bl _)) = false by rw [decide_eq_true rfl]; rfl), iteF ?_⟩
    have s02 := s1.trans s2
    have S2 := S.mono s02
    -- the loop
    refine ⟨d, _, S2.at_, trivial, fun od => ?_⟩
    refine ⟨_, rfl, d, od, rfl, .inl ⟨_, upd_same, ?_⟩⟩
    have hR : RuleAt K (upd H2 d (.frz od (.dK (dk ss)))) r x tt := S2.ap.lock
    refine for_it (walk_keys (d := d) (o := od) (kvs := dk ss)) (fun i σ H' => ∃ (v5 v6 : Option V), σ = [some (.ref r), some (.str x), some (.ref d), some (.int b), some (.bl (alw x tt)), v5, v6] ∧ Same (upd H2 d (.frz od (.dK (dk ss)))) H')
      ⟨none, none, rfl, same_id⟩ (fun i σ H' _ ⟨_, _, _, s⟩ => s _ _ upd_same) (fun i v σ H3 H4 hi hP y => ?_) (fun σ H3 hP => ?_)
    · obtain ⟨v5, v6, rfl, s3⟩ := hP
      obtain ⟨rfl, key, v2, hk, rfl⟩ := y
      obtain ⟨a, ha, rfl, rfl⟩ := dk_at hk
      have ain : a ∈ ss := List.mem_of_getElem? ha
      have hy : a.1 ∈ ks ss := List.mem_map.mpr ⟨a, ain, rfl⟩
      refine ⟨alw x tt, x, a.1, rfl, rfl, rfl, ?_⟩
      have hR4 := hR.mono s3
      obtain ⟨dx4, ea4, r4, _⟩ := id hR4
      refine ⟨_, rfl, r, dx4, _, rfl, r4, rfl, _, rfl, _, rfl, _, rfl, _, rfl, x, d, b, a.1, ss, rfl, .inr ⟨od, s3 _ _ upd_same⟩, S.sh, hy, fun H5 f5 us s5 nf5 ef5 Kp => ?_⟩
      refine ⟨r, f5, x, tt, us, rfl, hR4.mono s5, St, ef5, kp_tms S.sh S.vx Kp, (Kp.on x).mpr (.inl rfl), fun y hy => (Kp.on y).mpr (.inr (S.so.keys.mem_iff.mp hy)), fun H6 s6 => ?_⟩
      rw [kp_kept S.so ne hn hy Kp]
      refine ⟨_, rfl, rfl, false, congrArg V.bl (show (!decide (V.bl _ = V.bl _)) = false by rw [decide_eq_true rfl]; rfl), iteF ?_⟩
      exact ⟨_, _, rfl, (s3.trans s5).trans s6⟩
    · obtain ⟨v5, v6, rfl, s3⟩ := hP
      refine ⟨s3 _ _ upd_same, ?_⟩
      have s4 : Same H2 (upd H3 d (.dK (dk ss))) := unlock_same S2.at_ s3
      have s04 := s02.trans s4
      have S4 := S.mono s04
      generalize upd H3 d (.dK (dk ss)) = H4 at s4 s04 S4
      obtain ⟨dx4, ea4, r4, _⟩ := id S4.rule
      refine ⟨_, rfl, r, dx4, _, rfl, r4, r, x, tt, rfl, S4.rule, ?_⟩
      refine ⟨alw x tt, d, x, ss, rfl, rfl, rfl, .inl S4.at_, S.sh.v, S.vx, fun H5 s5 => ⟨rfl, ?_⟩⟩
      show Q (.bl (decide (V.bl (nev x tt) = V.bl (!alw x tt && decide (ks ss = [x]))))) H5
      rw [decide_eq_true (congrArg V.bl (nev_eq S.so hn))]
      exact q H5 (s04.trans s5)
end
end K21
set_option maxHeartbeats 4000000
/-! sorted names are one list -/
namespace K21
open PySem PySem.Spec PyProof.Rows L2 He
def LeS (a b : Str) : Prop := a.cps.toList ≤ b.cps.toList
theorem rising_pw : ∀ (l : List Str) (p : Str), risingS p l = true → (∀ x ∈ l, LeS p x) ∧ l.Pairwise LeS
  | [], p, _ => ⟨fun x h => (nomatch h), List.Pairwise.nil⟩
  | y :: r, p, h => by
    have h2 : (!ltCps y.cps.toList p.cps.toList && risingS y r) = true := h
    rw [Bool.and_eq_true, Bool.not_eq_true', ltCps_eq, decide_eq_false_iff_not] at h2
    obtain ⟨a, b⟩ := rising_pw r y h2.2
    have py : LeS p y := h2.1
    refine ⟨fun x hx => ?_, List.pairwise_cons.mpr ⟨a, b⟩⟩
    rcases List.mem_cons.mp hx with e | e
    · rw [e]
      exact py
    · exact List.le_trans py (a x e)
theorem sorted_pw {l : List Str} (h : sortedS l = true) : l.Pairwise LeS := by
  cases l with
  | nil => exact List.Pairwise.nil
  | cons x r =>
    obtain ⟨a, b⟩ := rising_pw r x h
    exact List.pairwise_cons.mpr ⟨a, b⟩
theorem cps_inj {a b : Str} (h : a.cps.toList = b.cps.toList) : a = b := by
  cases a
  cases b
  exact congrArg Str.mk (Array.toList_inj.mp h)
theorem sorted_one : ∀ {l m : List Str}, l.Perm m → l.Pairwise LeS → m.Pairwise LeS → l = m
  | [], m, p, _, _ => (List.nil_perm.mp p).symm
  | x :: r, [], p, _, _ => absurd p.length_eq (by simp)
  | x :: r, y :: s, p, h, g => by
    obtain ⟨h1, h2⟩ := List.pairwise_cons.mp h
    obtain ⟨g1, g2⟩ := List.pairwise_cons.mp g
    have e : x = y := by
      rcases List.mem_cons.mp (p.mem_iff.mp List.mem_cons_self) with z | z
      · exact z
      · rcases List.mem_cons.mp (p.mem_iff.mpr List.mem_cons_self) with q | q
        · exact q.symm
        · exact cps_inj (List.le_antisymm (h1 y q) (g1 x z))
    subst e
    rw [sorted_one ((List.perm_cons x).mp p) h2 g2]
theorem sorted_eq {l m : List Str} (p : l.Perm m) (h : sortedS l = true) (g : sortedS m = true) : l = m := sorted_one p (sorted_pw h) (sorted_pw g)
end K21
set_option maxHeartbeats 4000000
/-! the signs of a repr -/
namespace K21
open PySem PySem.Spec PyProof.Rows L2 He
def Sg (x : Str) : Prop := ∀ c ∈ x.cps.toList, c < 0x110000
theorem Sg.ok {x : Str} (h : Sg x) : PyData.strOk x = true := by
  show x.cps.all (· < 0x110000) = true
  rw [← Array.all_toList, List.all_eq_true]
  exact fun c hc => decide_eq_true (h c hc)
theorem Sg.app {a b : Str} (h : Sg a) (g : Sg b) : Sg (a ++ b) := fun c hc => by
  have e : (a ++ b).cps.toList = a.cps.toList ++ b.cps.toList := Array.toList_append
  rw [e] at hc
  exact (List.mem_append.mp hc).elim (h c) (g c)
theorem sg_string (s : String) : Sg (Str.ofString s) := fun c hc => by
  rw [Str.ofString_eq_toList] at hc
  have hc2 : c ∈ s.toList.map Char.toNat := hc
  obtain ⟨d, _, e⟩ := List.mem_map.mp hc2
  rw [← e]
  have v := d.valid
  have z : d.val.toNat < 55296 ∨ (57343 < d.val.toNat ∧ d.val.toNat < 1114112) := v
  show d.val.toNat < 1114112
  omega
theorem sg_join {sep : Str} {ts : List Str} (h : Sg sep) (g : ∀ t ∈ ts, Sg t) : Sg (Str.join sep ts) := fun c hc => by
  rcases (mem_join sep c ts).mp hc with ⟨t, ht, z⟩ | ⟨_, z⟩
  · exact g t ht c z
  · exact h c z
theorem repr_az : ∀ d < 123, 97 ≤ d → Builtin.Str.reprChar 39 d = [d] ∧ Builtin.Str.reprChar 34 d = [d] := by decide +kernel
theorem repr_signs (q : Nat) (hq : q = 39 ∨ q = 34) : ∀ (l : List Nat) (acc : Array Nat), (∀ c ∈ l, 97 ≤ c ∧ c ≤ 122) → (∀ c ∈ acc.toList, c < 0x110000) → ∀ c ∈ (l.foldl (fun out c => out ++ (Builtin.Str.reprChar q c).toArray) acc).toList, c < 0x110000
  | [], acc, _, h => h
  | d :: r, acc, hl, h => by
    refine repr_signs q hq r (acc ++ (Builtin.Str.reprChar q d).toArray) (fun c hc => hl c (List.mem_cons_of_mem _ hc)) fun c hc => ?_
    rw [Array.toList_append] at hc
    rcases List.mem_append.mp hc with z | z
    · exact h c z
    · have hd := hl d List.mem_cons_self
      have e : Builtin.Str.reprChar q d = [d] := by
        rcases hq with e | e
        · rw [e]
          exact (repr_az d (by omega) hd.1).1
        · rw [e]
          exact (repr_az d (by omega) hd.1).2
      rw [e] at z
      have z2 : c ∈ [d] := z
      rw [List.mem_singleton.mp z2]
      omega
theorem VN.sg {x : Str} (h : VN x) : Sg (reprText x) := fun c hc => by
  have hq : reprQuote x = 39 ∨ reprQuote x = 34 := by
    unfold reprQuote
    split
    · exact .inr rfl
    · exact .inl rfl
  have hq2 : reprQuote x < 0x110000 := by
    rcases hq with e | e
    · rw [e]
      decide
    · rw [e]
      decide
  unfold reprText at hc
  rw [Array.toList_push, ← Array.foldl_toList] at hc
  rcases List.mem_append.mp hc with z | z
  · refine repr_signs (reprQuote x) hq x.cps.toList #[reprQuote x] h.az (fun d hd => ?_) c z
    have hd2 : d ∈ [reprQuote x] := hd
    rw [List.mem_singleton.mp hd2]
    exact hq2
  · rw [List.mem_singleton.mp z]
    exact hq2
theorem kv_sg : ∀ {ts : Tb}, (∀ p ∈ ts, VN p.1) → ∀ t ∈ PyData.shownKv (dat ts), Sg t
  | [], _, t, h => (nomatch h)
  | p :: r, hv, t, h => by
    have h2 : t ∈ (reprText p.1 ++ ": " ++ Str.ofString (toString p.2)) :: PyData.shownKv (dat r) := h
    rcases List.mem_cons.mp h2 with e | e
    · rw [e]
      exact ((hv p List.mem_cons_self).sg.app (sg_string _)).app (sg_string _)
    · exact kv_sg (fun q hq => hv q (List.mem_cons_of_mem _ hq)) t e
theorem txD_sg {ts : Tb} (h : ∀ p ∈ ts, VN p.1) : Sg (txD ts) := by
  show Sg (dictText (PyData.shownKv (dat ts)))
  unfold dictText
  exact ((sg_string _).app (sg_join (sg_string _) (kv_sg h))).app (sg_string _)
theorem txR_sg {m : Str} {ts : Tb} (hm : VN m) (h : ∀ p ∈ ts, VN p.1) : Sg (txR m ts) := by
  have e0 : Sg Str.empty := fun c hc => (nomatch hc)
  unfold txR txE
  exact ((((e0.app (sg_string _)).app hm.sg).app (sg_string _)).app ((((e0.app (sg_string _)).app (txD_sg h))).app (sg_string _))).app (sg_string _)
end K21
set_option maxHeartbeats 4000000
/-! contrary_right -/
namespace K21
open PySem PySem.Spec PyProof.Rows L2 He
theorem ix_listK {X : Cx} (K : Fg) (h : X.K = K := by rfl) : IxR X (rIxL K) := by
  subst h
  exact ix_list
/-- lists of one rule each -/
def Bk (K : Fg) (H : Hp) (x : Str) (bs : List Addr) (tt : Tb) : Prop := Paired (fun b (q : Str × Int) => ∃ r, H b = some (.lst [.ref r]) ∧ RuleAt K H r x [(q.1, 1 - (1 - q.2))]) bs tt
theorem Bk.mono {K : Fg} {H H' : Hp} {x : Str} {bs : List Addr} {tt : Tb} (s : Same H H') (h : Bk K H x bs tt) : Bk K H' x bs tt := paired_imp (fun _ _ ⟨r, a, b⟩ => ⟨r, s _ _ a, b.mono s⟩) h
theorem Bk.put {K : Fg} {H : Hp} {D : Addr} {xs ys : List V} {x : Str} : ∀ {bs : List Addr} {tt : Tb}, H D = some (.lst xs) → D ∉ bs → Bk K H x bs tt → Bk K (upd H D (.lst ys)) x bs tt
  | _, _, _, _, .nil => .nil
  | b :: _, _, e, n, .cons ⟨r, h1, h2⟩ t => .cons ⟨r, by rw [upd_ne (fun z => n (by rw [z]; exact List.mem_cons_self))]; exact h1, h2.off e (fun _ _ _ z => nomatch z) (fun _ z => nomatch z)⟩ (Bk.put e (fun z => n (List.mem_cons_of_mem _ z)) t)
theorem con_at {K : Fg} {H : Hp} {m : Str} {rs : List Addr} {tt : Tb} (h : Con1 K H m rs tt) {i : Nat} {q : Str × Int} (e : tt[i]? = some q) : ∃ r, rs[i]? = some r ∧ RuleAt K H r q.1 [(m, 1 - q.2)] := by
  have l := paired_len h
  have li : i < rs.length := by
    rw [l]
    exact (List.getElem?_eq_some_iff.mp e).1
  obtain ⟨q2, e2, z⟩ := paired_at h (List.getElem?_eq_getElem li)
  rw [e] at e2
  rw [← Option.some.inj e2] at z
  exact ⟨_, List.getElem?_eq_getElem li, z⟩
theorem bk_at {K : Fg} {H : Hp} {x : Str} {bs : List Addr} {tt : Tb} (h : Bk K H x bs tt) {i : Nat} {q : Str × Int} (e : tt[i]? = some q) : ∃ b r, bs[i]? = some b ∧ H b = some (.lst [.ref r]) ∧ RuleAt K H r x [(q.1, 1 - (1 - q.2))] := by
  have l := paired_len h
  have li : i < bs.length := by
    rw [l]
    exact (List.getElem?_eq_some_iff.mp e).1
  obtain ⟨q2, e2, r, z1, z2⟩ := paired_at h (List.getElem?_eq_getElem li)
  rw [e] at e2
  rw [← Option.some.inj e2] at z2
  exact ⟨_, r, List.getElem?_eq_getElem li, z1, z2⟩
theorem at_nat {xs : List V} {i : Nat} {v : V} (e : xs[i]? = some v) : atI xs (0 + (i : Int)) = some v := by
  have l := (List.getElem?_eq_some_iff.mp e).1
  obtain ⟨u, e1, _, e3⟩ := at_ok (xs := xs) (d := 0 + (i : Int)) (by omega) (by omega)
  have z : (0 + (i : Int)).toNat = i := by omega
  rw [z, e] at e3
  rw [e1, e3]
theorem at_nat' {xs : List V} {i : Nat} {v : V} (e : xs[i]? = some v) : atI xs (i : Int) = some v := by
  have z := at_nat e
  rw [Int.zero_add] at z
  exact z
section
variable {P : Program} {w : World} {K : Fg} {mg : Str → Option Value} {base : Heap}
def spConR (K : Fg) : Sp := fun vs H Q _ => ∃ r x d ss tt, vs = [.ref r, .str x, .ref d] ∧ Sit K H r d x ss tt ∧ ∀ H', Same H H' → Q (.bl true) H'
theorem sc_conr : FnScope ["_law_rule", "_law_left", "_law_shifts_here", "_law_told", "_law_due", "_law_back", "_law_at", "_law_name", "_law_other"] ["_law_rule", "_law_left", "_law_shifts_here"] (defScope dLawContraryRight.st) := ⟨rfl, rfl, rfl, by decide +kernel, rfl, by decide +kernel, by decide +kernel⟩
theorem ok_conr (T : Tx K mg) : Cg P w K mg base 9 dLawContraryRight ["_law_rule", "_law_left", "_law_shifts_here"] (spConR K) := by
  obtain ⟨fd, F⟩ := T.dLawContraryRight
  have cC : Cd P w K mg base 8 dRulecontrary ["self"] (spContrary K) := ok_contrary T
  have cRi : Cd P w K mg base 6 dRuleInit ["self", "moment", "earliest"] (spRuleInit K) := ok_rinit T
  have cJ : Cd P w K mg base 3 dTermInit ["self", "moment", "shift"] (spTermInit K) := ok_term_init T
  have cRr : Cg P w K mg base 2 dRuleRepr ["self"] (spRuleRepr K) := ok_rrepr T
  obtain ⟨fe, Fe, be⟩ := (ok_req (P := P) (w := w) (base := base) T).ex
  refine .of F sc_conr (F.bindsN fun _ _ _ _ _ _ us hl => match us, hl with | [_, _, _], _ => rfl) (fun vs H Q E h => ?_) (fun cdv A outer s0 H vs Q E hr hg h => ?_)
  · obtain ⟨_, _, _, _, _, rfl, _⟩ := h
    rfl
  · obtain ⟨r, x, d, ss, tt, rfl, S, q⟩ := h
    have hu := hu_of hr
    refine ⟨_, pss_cons (ps_set (i := 3) sc_conr.nd rfl (Or.inr rfl) (pe_mc0 cC T.c_Rule T.me_Rule_contrary hr (pv 0)))
      (pss_cons (ps_set (i := 4) sc_conr.nd rfl (Or.inr rfl) (pe_lc (own := [("_law_name", 7)]) (g := gName 7) (tt := tYes) rfl sc_conr.nd (pi_list (pe_callB (cr_sortD rfl) (by rfl) T.n_sorted bt_sorted (pa_cons (pv 2) pa_nil)))
          (blkOk_by (N := ["_law_rule", "_law_left", "_law_shifts_here", "_law_told", "_law_due", "_law_back", "_law_at", "_law_name", "_law_other"]) (sc := defScope dLawContraryRight.st) (by decide +kernel)) (fun _ _ _ _ _ => pg_name (i := 7) sc_conr.nd rfl (Or.inl rfl)) (fun _ _ _ _ _ => pts_nil)
          (fun _ _ _ _ _ => pe_mkc cRi T.mk_Rule hr T.g_Rule (pa_cons (pv 7) (pa_cons (pe_mkc cJ T.mk_Term hr T.g_Term (pa_cons (pv 1) (pa_cons (pe_sub pe_int (pe_dget hu (pv 2) (pv 7) (fun _ _ => rfl))) pa_nil))) pa_nil)))))
      (pss_cons (ps_if (PW.pt (pw_or (pt_not (pt_val (pe_callB call_isi (by rfl) T.n_isinstance bt_isinstance (pa_cons (pv 3) (pa_cons (pe_bltn (v := .ty "list") (by rfl) T.n_list bt_list rfl) pa_nil)))))
        (pw_or1 (pt_cmpR (op_neD hr.units)
          (pe_lc (own := [("_law_other", 8)]) (g := gName 8) (tt := tYes) rfl sc_conr.nd (pi_list (pv 3))
            (blkOk_by (N := ["_law_rule", "_law_left", "_law_shifts_here", "_law_told", "_law_due", "_law_back", "_law_at", "_law_name", "_law_other"]) (sc := defScope dLawContraryRight.st) (by decide +kernel)) (fun _ _ _ _ _ => pg_name (i := 8) sc_conr.nd rfl (Or.inl rfl)) (fun _ _ _ _ _ => pts_nil)
            (fun _ _ _ _ _ => pe_callB (cr_reprO cRr (hr.mono (by decide)) hg T.sp_Rule_repr.at_ T.sp_Rule_repr.fn) (by rfl) T.n_repr bt_repr (pa_cons (pv 8) pa_nil)))
          (pe_lc (own := [("_law_other", 8)]) (g := gName 8) (tt := tYes) rfl sc_conr.nd (pi_list (pv 4))
            (blkOk_by (N := ["_law_rule", "_law_left", "_law_shifts_here", "_law_told", "_law_due", "_law_back", "_law_at", "_law_name", "_law_other"]) (sc := defScope dLawContraryRight.st) (by decide +kernel)) (fun _ _ _ _ _ => pg_name (i := 8) sc_conr.nd rfl (Or.inl rfl)) (fun _ _ _ _ _ => pts_nil)
            (fun _ _ _ _ _ => pe_callB (cr_reprO cRr (hr.mono (by decide)) hg T.sp_Rule_repr.at_ T.sp_Rule_repr.fn) (by rfl) T.n_repr bt_repr (pa_cons (pv 8) pa_nil)))
          (nomark _))))) (pss_one (ps_ret pe_bl)) pss_nil)
      (pss_cons (ps_if (pt_not (pt_val (pe_callB (cr_all rfl) (by rfl) T.n_all bt_all (pa_cons (pe_lc (own := [("_law_at", 6)]) (g := gName 6) (tt := tYes) rfl sc_conr.nd (pi_range1 (by rfl) T.n_range (pa_cons (pe_callB call_len_seq (by rfl) T.n_len bt_len (pa_cons (pv 4) pa_nil)) pa_nil))
          (blkOk_by (N := ["_law_rule", "_law_left", "_law_shifts_here", "_law_told", "_law_due", "_law_back", "_law_at", "_law_name", "_law_other"]) (sc := defScope dLawContraryRight.st) (by decide +kernel)) (fun _ _ _ _ _ => pg_name (i := 6) sc_conr.nd rfl (Or.inl rfl)) (fun _ _ _ _ _ => pts_nil)
          (fun _ _ _ _ _ => pe_cmpR (op_eqG (D := DIns (cR K) (EqR K)) (rcG_ins (E := E0) Fe T.sp_Rule_eq.at_ T.sp_Rule_eq.fn be pass0) (hr.mono (by decide))) (pe_ix (ix_listK K) (pv 3) (pv 6) (fun _ _ => rfl)) (pe_ix (ix_listK K) (pv 4) (pv 6) (fun _ _ => rfl)) (nomark _))) pa_nil)))) (pss_one (ps_ret pe_bl)) pss_nil)
      (pss_cons (ps_setLc (i := 5) (own := [("_law_other", 8)]) (g := gName 8) (tt := tYes) rfl sc_conr.nd rfl rfl (sw_true rfl rfl (by rfl) (by rfl)) (pi_list (pv 3))
          (blkOk_by (N := ["_law_rule", "_law_left", "_law_shifts_here", "_law_told", "_law_due", "_law_back", "_law_at", "_law_name", "_law_other"]) (sc := defScope dLawContraryRight.st) (by decide +kernel)) (fun _ _ _ _ _ => pg_name (i := 8) sc_conr.nd rfl (Or.inl rfl)) (fun _ _ _ _ _ => pts_nil)
          (fun _ _ _ _ _ => pe_mc0 cC T.c_Rule T.me_Rule_contrary hr (pv 8)))
      (pss_cons (ps_for PassesOwn.never rfl (pi_enum (by rfl) T.n_enumerate (pa_cons (pe_callB (cr_sortD rfl) (by rfl) T.n_sorted bt_sorted (pa_cons (pv 2) pa_nil)) pa_nil)) (pg_tup rfl (pgs_cons (pg_name (i := 6) sc_conr.nd rfl (Or.inl rfl)) (pgs_cons (pg_name (i := 7) sc_conr.nd rfl (Or.inl rfl)) pgs_nil)))
        (pss_one (ps_if (PW.pt (pw_or (pt_cmpR op_ne (pe_callB call_len_seq (by rfl) T.n_len bt_len (pa_cons (pe_ix ix_list (pv 5) (pv 6) (fun _ _ => rfl)) pa_nil)) pe_int (nomark _))
          (pw_or1 (pt_not (pt_cmpR (op_eqG (D := DIns (cR K) (EqR K)) (rcG_ins (E := E0) Fe T.sp_Rule_eq.at_ T.sp_Rule_eq.fn be pass0) (hr.mono (by decide))) (pe_ix ix_list (pe_ix ix_list (pv 5) (pv 6) (fun _ _ => rfl)) pe_int (fun _ _ => rfl))
            (pe_mkc cRi T.mk_Rule hr T.g_Rule (pa_cons (pv 1) (pa_cons (pe_mkc cJ T.mk_Term hr T.g_Term (pa_cons (pv 7) (pa_cons (pe_dget hu (pv 2) (pv 7) (fun _ _ => rfl)) pa_nil))) pa_nil))) (nomark _)))))) (pss_one (ps_ret pe_bl)) pss_nil)))
      (pss_cons (ps_expr (pe_bm0 PySem.F.plainAttrs_list PySem.F.slot_list_clear (by rfl) mt_clear (pv 3)))
      (pss_one (ps_ret (pe_cmpR op_eq (pe_callB call_len_seq (by rfl) T.n_len bt_len (pa_cons (pe_mc0 cC T.c_Rule T.me_Rule_contrary hr (pv 0)) pa_nil)) (pe_callB call_len_seq (by rfl) T.n_len bt_len (pa_cons (pv 4) pa_nil)) (nomark _)))))))))), ?_⟩
    have St := S.st
    have l8 := St.len
    have net := St.ne
    have vt : ∀ q ∈ tt, VN q.1 := St.v
    have okq : ∀ q ∈ tt, TbOk [(x, 1 - q.2)] := fun q hq => by
      refine ⟨fun p hp => ?_, fun p hp => ?_, by show 1 ≤ 20; decide⟩
      · rw [List.mem_singleton.mp hp]
        exact S.vx
      · rw [List.mem_singleton.mp hp]
        have z1 : Sz 200 (1 : Int) := by show (1 : Nat) < 2 ^ 200; decide
        exact (z1.sub (S.sz q (S.so.mem.mp hq))).mono (by decide)
    -- told
    obtain ⟨dx, ea, r1, _⟩ := id S.rule
    refine ⟨_, rfl, r, dx, _, rfl, r1, rfl, r, x, tt, rfl, S.rule, S.vx, St, fun H1 c rs s1 nc ec cs => ?_⟩
    have lr := paired_len cs
    have S1 := S.mono s1
    -- due
    refine ⟨_, rfl, d, dk ss, ks ss, rfl, .inl S1.at_, dk_keys ss, by rw [ks_len]; have := S.sh.len; omega, fun ys p1 hp hs np => ?_⟩
    obtain rfl : ys = ks tt := sorted_eq (hp.trans S.so.keys.symm) hs S.so.2
    refine ⟨p1, rfl, ⟨_, .of upd_same⟩, fun D nD => ?_⟩
    have s2 : Same H1 (upd H1 p1 (.lst ((ks tt).map V.str))) := new_same np
    have ep : (upd H1 p1 (.lst ((ks tt).map V.str))) p1 = some (.lst ((ks tt).map V.str)) := upd_same
    generalize upd H1 p1 (.lst ((ks tt).map V.str)) = H2 at nD s2 ep
    refine lc_it (walk_list (K := K) (a := p1) (xs := (ks tt).map V.str)) (fun i H' => Same H2 H' ∧ ∃ ds, H' D = some (.lst (ds.map V.ref)) ∧ Con1 K H' x ds (tt.take i)) ⟨new_same nD, [], upd_same, .nil⟩ (fun _ _ _ p => .of (p.1 _ _ ep)) (fun i v H3 H4 hi p y => ?_) (fun H3 p => ?_)
    · obtain ⟨rfl, hv⟩ := y
      obtain ⟨s3, ds, eD, cd⟩ := p
      rw [List.getElem?_map] at hv
      unfold ks at hv
      rw [List.getElem?_map] at hv
      cases et : tt[i]? with
      | none => rw [et] at hv; cases hv
      | some a =>
        rw [et] at hv
        have ev : V.str a.1 = v := Option.some.inj hv
        subst ev
        have ain := List.mem_of_getElem? et
        have s03 : Same H H4 := (s1.trans s2).trans s3
        have lka : lk ss a.1 = some a.2 := mem_lk S.sh.nd (show (a.1, a.2) ∈ ss from S.so.mem.mp ain)
        refine ⟨rfl, _, rfl, _, rfl, _, rfl, _, rfl, d, .int a.2, rfl, dgetS (.inl (s03 _ _ S.at_)) lka, 1, a.2, rfl, rfl, fun x2 dx2 nx2 ndx2 ne2 => ?_⟩
        refine mkT2 S.vx nx2 ndx2 fun H5 s5 ht5 => ⟨rfl, fun x3 dx3 nx3 ndx3 ne3 => ?_⟩
        refine mkR2 (vt a ain) (.inr ⟨x, 1 - a.2, ht5, S.vx, rfl⟩) nx3 ndx3 fun H6 s6 hr6 => ⟨rfl, ?_⟩
        have s46 := s5.trans s6
        have eD6 := s46 _ _ eD
        refine ⟨ds.map V.ref, eD6, ?_, (s3.trans s46).wr nD, ds ++ [x3], ?_, ?_⟩
        · have z := paired_len cd
          rw [List.length_take] at z
          rw [List.length_map]
          exact small_lt (by omega)
        · rw [upd_same, List.map_append]
          rfl
        · rw [List.take_add_one, et]
          exact (Con1.off eD6 (fun _ _ _ z => nomatch z) (fun _ z => nomatch z) (paired_snoc (cd.mono s46) hr6 : Con1 K H6 x (ds ++ [x3]) (tt.take i ++ [a])))
    obtain ⟨s3, ds, eD, cd⟩ := p
    rw [List.length_map, ks_len, List.take_length] at cd
    have ld := paired_len cd
    have s13 : Same H1 H3 := s2.trans s3
    have ec3 := s13 _ _ ec
    have cs3 := cs.mono s13
    have nDc : D ≠ c := fun z => by
      have q2 := s2 _ _ ec
      rw [z, q2] at nD
      cases nD
    -- their words
    refine ⟨_, rfl, _, _, _, _, _, rfl, .ty _, .base (.lst ec3), ki_ll, true, rfl, iteF ?_⟩
    refine ⟨_, rfl, c, rfl, ⟨_, .of ec3⟩, fun D1 nD1 => ?_⟩
    have step : ∀ {Hb Hc : Hp} {D1 : Addr} {i : Nat} {os : List Addr} {v : V}, Same Hb Hc → Hb D1 = none → Con1 K Hb x os tt → (os.map V.ref)[i]? = some v → Hc D1 = some (.lst (((tt.take i).map fun q => txR q.1 [(x, 1 - q.2)]).map V.str)) →
        ∃ a dx fs, [v] = [V.ref a] ∧ Hc a = some (.ins (cR K) dx fs) ∧ ∃ r m tt2, [V.ref a] = [V.ref r] ∧ RuleAt K Hc r m tt2 ∧ VN m ∧ TbOk tt2 ∧ (∃ y, V.str (txR m tt2) = V.str y) ∧ ∃ acc, Hc D1 = some (.lst acc) ∧ acc.length < sizeLine ∧ (Same Hb (upd Hc D1 (.lst (acc ++ [V.str (txR m tt2)]))) ∧ (upd Hc D1 (.lst (acc ++ [V.str (txR m tt2)]))) D1 = some (.lst (((tt.take (i + 1)).map fun q => txR q.1 [(x, 1 - q.2)]).map V.str))) := fun {Hb Hc D1 i os v} s n co hv e => by
      rw [List.getElem?_map] at hv
      cases eo : os[i]? with
      | none => rw [eo] at hv; cases hv
      | some o =>
        rw [eo] at hv
        have ev : V.ref o = v := Option.some.inj hv
        subst ev
        obtain ⟨a, ha, hR⟩ := paired_at co eo
        have hR2 : RuleAt K Hc o a.1 [(x, 1 - a.2)] := RuleAt.mono s hR
        obtain ⟨dxo, eo2, ro, _⟩ := id hR2
        have ain := List.mem_of_getElem? ha
        refine ⟨o, dxo, _, rfl, ro, o, a.1, [(x, 1 - a.2)], rfl, hR2, vt a ain, okq a ain, ⟨_, rfl⟩, _, e, ?_, s.wr n, ?_⟩
        · rw [List.length_map, List.length_map, List.length_take]
          exact small_lt (by omega)
        · rw [upd_same, List.take_add_one, ha, List.map_append, List.map_append]
          rfl
    refine lc_it (walk_list (K := K) (a := c) (xs := rs.map V.ref)) (fun i H' => Same H3 H' ∧ H' D1 = some (.lst (((tt.take i).map fun q => txR q.1 [(x, 1 - q.2)]).map V.str))) ⟨new_same nD1, upd_same⟩ (fun _ _ _ p => .of (p.1 _ _ ec3)) (fun i v H4 H5 hi p y => ?_) (fun H4 p => ?_)
    · obtain ⟨rfl, hv⟩ := y
      exact ⟨rfl, _, rfl, step p.1 nD1 cs3 hv p.2⟩
    rw [List.length_map, lr, List.take_length] at p
    obtain ⟨s4, eD1⟩ := p
    have cd4 := cd.mono s4
    have eD4 := s4 _ _ eD
    refine ⟨_, rfl, D, rfl, ⟨_, .of eD4⟩, fun D2 nD2 => ?_⟩
    refine lc_it (walk_list (K := K) (a := D) (xs := ds.map V.ref)) (fun i H' => Same H4 H' ∧ H' D2 = some (.lst (((tt.take i).map fun q => txR q.1 [(x, 1 - q.2)]).map V.str))) ⟨new_same nD2, upd_same⟩ (fun _ _ _ p => .of (p.1 _ _ eD4)) (fun i v H5 H6 hi p y => ?_) (fun H5 p => ?_)
    · obtain ⟨rfl, hv⟩ := y
      exact ⟨rfl, _, rfl, step p.1 nD2 cd4 hv p.2⟩
    rw [List.length_map, ld, List.take_length] at p
    obtain ⟨s5, eD2⟩ := p
    have shp : SeqAt.shaped (.list ((tt.map fun q => txR q.1 [(x, 1 - q.2)]).map .str)) = true := strs_shaped fun y hy => by
      obtain ⟨a, ha, e⟩ := List.mem_map.mp hy
      rw [← e]
      exact (txR_sg (vt a ha) (okq a ha).v).ok
    clear step
    generalize (tt.map fun q => txR q.1 [(x, 1 - q.2)]) = L at eD1 eD2 shp
    refine ⟨.list (L.map .str), .list (L.map .str), .lst (.of (s5 _ _ eD1)) (strs_dp L), .lst (.of eD2) (strs_dp L), shp, shp, false, congrArg V.bl (show (!PyData.eqvAll (L.map .str) (L.map .str)) = false by rw [eqv_self]; rfl), iteF ?_⟩
    have s35 := s4.trans s5
    have ec5 := s35 _ _ ec3
    have eD5 := s35 _ _ eD
    have cs5 := cs3.mono s35
    have cd5 := cd.mono s35
    -- all equal
    refine ⟨_, rfl, D, _, rfl, .inl (.of eD5), _, rfl, by omega, by rw [List.length_map]; omega, fun D3 nD3 => ?_⟩
    refine lc_it (walk_range (lo := 0) (n := (((ds.map V.ref).length : Nat) : Int).toNat)) (fun i H' => Same H5 H' ∧ H' D3 = some (.lst ((List.replicate i true).map V.bl))) ⟨new_same nD3, upd_same⟩ (fun _ _ _ _ => trivial) (fun i v H6 H7 hi p y => ?_) (fun H6 p => ?_)
    · obtain ⟨rfl, rfl⟩ := y
      rw [List.length_map] at hi
      have it : i < tt.length := by omega
      have et : tt[i]? = some tt[i] := List.getElem?_eq_getElem it
      obtain ⟨a, ha, hRa⟩ := con_at cs5 et
      obtain ⟨b, hb, hRb⟩ := con_at cd5 et
      have hRa2 := hRa.mono p.1
      have hRb2 := hRb.mono p.1
      obtain ⟨dxa, ea2, ra, _⟩ := id hRa2
      obtain ⟨dxb, eb2, rb, _⟩ := id hRb2
      refine ⟨rfl, _, rfl, _, rfl, c, _, _, .ref a, rfl, rfl, .of (p.1 _ _ ec5), at_nat (by rw [List.getElem?_map, ha]; rfl), _, rfl, _, rfl, D, _, _, .ref b, rfl, rfl, .of (p.1 _ _ eD5), at_nat (by rw [List.getElem?_map, hb]; rfl), ?_⟩
      refine ⟨⟨a, b, dxa, dxb, _, _, rfl, rfl, ra, rb, _, _, hRa2, hRb2, (sh_one S.vx).nd⟩, fun H8 x8 => ?_⟩
      have s8 : Same H7 H8 := x8
      refine ⟨(List.replicate i true).map V.bl, s8 _ _ p.2, ?_, (p.1.trans s8).wr nD3, ?_⟩
      · rw [List.length_map, List.length_replicate]
        exact small_lt (by omega)
      · rw [upd_same, ← rep_snoc, List.map_append]
        rfl
    refine ⟨D3, List.replicate _ true, rfl, .of p.2, ?_⟩
    rw [rep_all]
    refine ⟨true, rfl, iteF ?_⟩
    have s56 := p.1
    have ec6 := s56 _ _ ec5
    have eD6 := s56 _ _ eD5
    have cs6 := cs5.mono s56
    clear p
    -- back
    refine ⟨_, rfl, c, rfl, ⟨_, .of ec6⟩, fun D4 nD4 => ?_⟩
    refine lc_it (walk_list (K := K) (a := c) (xs := rs.map V.ref)) (fun i H' => Same H6 H' ∧ ∃ bs, H' D4 = some (.lst (bs.map V.ref)) ∧ D4 ∉ bs ∧ Bk K H' x bs (tt.take i)) ⟨new_same nD4, [], upd_same, List.not_mem_nil, .nil⟩ (fun _ _ _ p => .of (p.1 _ _ ec6)) (fun i v H7 H8 hi p y => ?_) (fun H7 p => ?_)
    · obtain ⟨rfl, hv⟩ := y
      obtain ⟨s7, bs, eB, nB, bk⟩ := p
      rw [List.getElem?_map] at hv
      cases eo : rs[i]? with
      | none => rw [eo] at hv; cases hv
      | some o =>
        rw [eo] at hv
        have ev : V.ref o = v := Option.some.inj hv
        subst ev
        obtain ⟨a, ha, hR⟩ := paired_at cs6 eo
        have hR2 : RuleAt K H8 o a.1 [(x, 1 - a.2)] := RuleAt.mono s7 hR
        obtain ⟨dxo, eo2, ro, _⟩ := id hR2
        have ain := List.mem_of_getElem? ha
        refine ⟨rfl, _, rfl, o, dxo, _, rfl, ro, rfl, o, a.1, [(x, 1 - a.2)], rfl, hR2, vt a ain, sh_one S.vx, fun H9 c9 rs9 s9 nc9 ec9 cs9 => ?_⟩
        have l9 := paired_len cs9
        match rs9, l9, ec9, cs9 with
        | [r0], _, ec9, .cons h0 .nil =>
          have eB9 := s9 _ _ eB
          have ncD : D4 ≠ c9 := fun z => by rw [← z, eB] at nc9; cases nc9
          refine ⟨bs.map V.ref, eB9, ?_, (s7.trans s9).wr nD4, bs ++ [c9], ?_, ?_, ?_⟩
          · have z := paired_len bk
            rw [List.length_take] at z
            rw [List.length_map]
            exact small_lt (by omega)
          · rw [upd_same, List.map_append]
            rfl
          · intro hm
            rcases List.mem_append.mp hm with z | z
            · exact nB z
            · exact ncD (List.mem_singleton.mp z)
          · rw [List.take_add_one, ha]
            have b1 : Bk K H9 x (bs ++ [c9]) (tt.take i ++ [a]) := paired_snoc (bk.mono s9) ⟨r0, ec9, h0⟩
            exact Bk.put eB9 (fun hm => (List.mem_append.mp hm).elim nB fun z => ncD (List.mem_singleton.mp z)) b1
    obtain ⟨s7, bs, eB, nB, bk⟩ := p
    rw [List.length_map, lr, List.take_length] at bk
    have s07 : Same H H7 := ((s1.trans s13).trans s35).trans (s56.trans s7)
    have S7 := S.mono s07
    -- each of them
    refine ⟨_, rfl, d, dk ss, ks ss, rfl, .inl S7.at_, dk_keys ss, by rw [ks_len]; have := S.sh.len; omega, fun ys2 p2 hp2 hs2 np2 => ?_⟩
    obtain rfl : ys2 = ks tt := sorted_eq (hp2.trans S.so.keys.symm) hs2 S.so.2
    refine ⟨p2, (ks tt).map V.str, rfl, .of upd_same, ?_⟩
    have s8 : Same H7 (upd H7 p2 (.lst ((ks tt).map V.str))) := new_same np2
    have ep2 : (upd H7 p2 (.lst ((ks tt).map V.str))) p2 = some (.lst ((ks tt).map V.str)) := upd_same
    generalize upd H7 p2 (.lst ((ks tt).map V.str)) = H8 at s8 ep2
    refine for_it (walk_enum (K := K) (a := p2) (xs := (ks tt).map V.str)) (fun i σ H' => ∃ (v6 v7 : Option V), σ = [some (.ref r), some (.str x), some (.ref d), some (.ref c), some (.ref D), some (.ref D4), v6, v7, none] ∧ Same H8 H') ⟨_, _, rfl, same_id⟩ (fun i σ H' _ ⟨_, _, _, s⟩ => .of (s _ _ ep2)) (fun i v σ H9 H10 hi hP y => ?_) (fun σ H9 hP => ?_)
    · obtain ⟨v6, v7, rfl, s9⟩ := hP
      obtain ⟨t, a0, b0, rfl, nt, rfl, k1, k2⟩ := y
      obtain rfl : V.int (i : Nat) = a0 := Option.some.inj k1
      have k2 : ((ks tt).map V.str)[i]? = some b0 := k2
      rw [List.getElem?_map] at k2
      unfold ks at k2
      rw [List.getElem?_map] at k2
      cases et : tt[i]? with
      | none => rw [et] at k2; cases k2
      | some a =>
        rw [et] at k2
        have ev : V.str a.1 = b0 := Option.some.inj k2
        subst ev
        have ain := List.mem_of_getElem? et
        have s10 : Same H9 (upd H9 t (.tup [.int (i : Nat), .str a.1])) := new_same nt
        have s7t := (s8.trans s9).trans s10
        refine ⟨t, _, rfl, .of upd_same, rfl, _, _, rfl, _, _, rfl, rfl, ?_⟩
        generalize upd H9 t (.tup [.int (i : Nat), .str a.1]) = H10 at s10 s7t
        obtain ⟨b, r0, hb, eb, hR0⟩ := bk_at (bk.mono s7t) et
        have eB10 := s7t _ _ eB
        refine ⟨_, rfl, _, rfl, D4, _, _, .ref b, rfl, rfl, .of eB10, at_nat' (by rw [List.getElem?_map, hb]; rfl), b, _, rfl, .inl (.of eb), rfl, false, congrArg V.bl (show (!decide (V.int (([V.ref r0].length : Nat) : Int) = V.int 1)) = false by rw [decide_eq_true (show V.int (([V.ref r0].length : Nat) : Int) = V.int 1 from rfl)]; rfl), iteF ?_⟩
        have lka : lk ss a.1 = some a.2 := mem_lk S.sh.nd (show (a.1, a.2) ∈ ss from S.so.mem.mp ain)
        refine ⟨_, rfl, _, rfl, D4, _, _, .ref b, rfl, rfl, .of eB10, at_nat' (by rw [List.getElem?_map, hb]; rfl), b, [.ref r0], 0, .ref r0, rfl, rfl, .of eb, rfl, ?_⟩
        refine ⟨_, rfl, _, rfl, _, rfl, _, rfl, d, .int a.2, rfl, dgetS (.inl (s7t _ _ S7.at_)) lka, fun x2 dx2 nx2 ndx2 ne2 => ?_⟩
        refine mkT2 (vt a ain) nx2 ndx2 fun H11 s11 ht11 => ⟨rfl, fun x3 dx3 nx3 ndx3 ne3 => ?_⟩
        refine mkR2 S.vx (.inr ⟨a.1, a.2, ht11, vt a ain, rfl⟩) nx3 ndx3 fun H12 s12 hr12 => ⟨rfl, ?_⟩
        have sA := s11.trans s12
        have hR12 := hR0.mono sA
        have e11 : 1 - (1 - a.2) = a.2 := by omega
        rw [e11] at hR12
        obtain ⟨dxa, ea2, ra, _⟩ := id hR12
        obtain ⟨dxb, eb2, rb, _⟩ := id hr12
        refine ⟨⟨r0, x3, dxa, dxb, _, _, rfl, rfl, ra, rb, _, _, hR12, hr12, (sh_one (vt a ain)).nd⟩, fun H13 x13 => ⟨true, rfl, iteF ?_⟩⟩
        have s13' : Same H12 H13 := x13
        exact ⟨_, _, rfl, ((s9.trans s10).trans sA).trans s13'⟩
    · obtain ⟨v6, v7, rfl, s9⟩ := hP
      have s79 := s8.trans s9
      have ec9 : H9 c = some (.lst (rs.map V.ref)) := s79 _ _ (s7 _ _ ec6)
      have eD9 : H9 D = some (.lst (ds.map V.ref)) := s79 _ _ (s7 _ _ eD6)
      refine ⟨_, rfl, .inl ⟨rfl, _, .of ec9⟩, c, _, rfl, rfl, ec9, ?_⟩
      have s10 : Same H (upd H9 c (.lst [])) := (s07.trans s79).wr nc
      have eD10 : (upd H9 c (.lst [])) D = some (.lst (ds.map V.ref)) := by rw [upd_ne nDc]; exact eD9
      generalize upd H9 c (.lst []) = H10 at s10 eD10
      have S10 := S.mono s10
      obtain ⟨dx10, ea10, r10, _⟩ := id S10.rule
      refine ⟨_, rfl, r, dx10, _, rfl, r10, rfl, r, x, tt, rfl, S10.rule, S.vx, St, fun H11 c2 rs2 s11 nc2 ec2 cs2 => ?_⟩
      have l2 := paired_len cs2
      refine ⟨c2, _, rfl, .inl (.of ec2), _, rfl, D, _, rfl, .inl (.of (s11 _ _ eD10)), rfl, ?_⟩
      show Q (.bl (decide (V.int (((rs2.map V.ref).length : Nat) : Int) = V.int (((ds.map V.ref).length : Nat) : Int)))) H11
      rw [List.length_map, List.length_map, l2, ld, decide_eq_true rfl]
      exact q H11 (s10.trans s11)
end
end K21
set_option maxHeartbeats 4000000
/-! names -/
namespace K21
open PySem PySem.Spec PyProof.Rows L2 He
abbrev abz : Str := Str.ofString "abcdefghijklmnopqrstuvwxyz"
theorem abz_list : abz.cps.toList = (List.range 26).map (97 + ·) := by decide +kernel
theorem abz_size : abz.cps.size = 26 := by decide +kernel
theorem abz_az {c : Nat} (h : c ∈ abz.cps.toList) : 97 ≤ c ∧ c ≤ 122 := by
  rw [abz_list] at h
  obtain ⟨i, hi, rfl⟩ := List.mem_map.mp h
  have z := List.mem_range.mp hi
  omega
def sg1 (c : Nat) : Str := ⟨#[c]⟩
theorem join_sg : ∀ cs : List Nat, (Txt.join (Str.ofString "") (cs.map sg1)).cps.toList = cs := fun cs => by
  rw [eq_of_beq (join_plain_closes (Str.ofString "") (cs.map sg1))]
  induction cs with
  | nil => rfl
  | cons c r ih =>
    cases r with
    | nil => rfl
    | cons d r =>
      have e : Str.join (Str.ofString "") ((c :: d :: r).map sg1) = sg1 c ++ Str.ofString "" ++ Str.join (Str.ofString "") ((d :: r).map sg1) := rfl
      rw [e, cps_toList_append, cps_toList_append, ih]
      rfl
theorem vn_word {cs : List Nat} (h0 : 1 ≤ cs.length) (h8 : cs.length ≤ 8) (h : ∀ c ∈ cs, 97 ≤ c ∧ c ≤ 122) : VN (Txt.join (Str.ofString "") (cs.map sg1)) := by
  have e := join_sg cs
  have l : (Txt.join (Str.ofString "") (cs.map sg1)).length = cs.length := by
    show (Txt.join (Str.ofString "") (cs.map sg1)).cps.size = _
    rw [← Array.length_toList, e]
  exact ⟨by rw [l]; exact h0, by rw [l]; exact h8, by rw [e]; exact h⟩
/-- a word with another last letter -/
def spr (x : Str) (c : Nat) : Str := cutS x none (some 7) ++ sg1 c
theorem cut7 {x : Str} : (cutS x none (some 7)).cps.toList = x.cps.toList.take 7 := by
  show ((x.cps.toList.drop 0).take (HT.sIx x.length x.length (some 7) - 0)) = _
  rw [show HT.sIx x.length x.length (some 7) = min 7 x.length from HT.sIx_nat x.length x.length 7, List.drop_zero, Nat.sub_zero, ← List.take_take]
  rw [List.take_of_length_le (l := x.cps.toList) (i := x.length) (by rw [Array.length_toList]; exact Nat.le_refl _)]
theorem vn_spr {x : Str} {c : Nat} (h : VN x) (hc : 97 ≤ c ∧ c ≤ 122) : VN (spr x c) := by
  have e : (spr x c).cps.toList = x.cps.toList.take 7 ++ [c] := by
    unfold spr
    rw [cps_toList_append, cut7]
    rfl
  have l : (spr x c).length = (x.cps.toList.take 7 ++ [c]).length := by
    show (spr x c).cps.size = _
    rw [← Array.length_toList, e]
  rw [List.length_append, List.length_take, Array.length_toList, List.length_singleton] at l
  refine ⟨by omega, by omega, fun d hd => ?_⟩
  rw [e] at hd
  rcases List.mem_append.mp hd with z | z
  · exact h.az d (List.mem_of_mem_take z)
  · rw [List.mem_singleton.mp z]
    exact hc
theorem spr_inj {x : Str} {c d : Nat} (h : spr x c = spr x d) : c = d := by
  have z := congrArg (fun y : Str => y.cps.toList) h
  unfold spr at z
  rw [show (cutS x none (some 7) ++ sg1 c).cps.toList = _ from cps_toList_append _ _, show (cutS x none (some 7) ++ sg1 d).cps.toList = _ from cps_toList_append _ _] at z
  have z2 : [c] = [d] := List.append_cancel_left z
  injection z2
/-- the candidates -/
def spare (x : Str) : List Str := x :: abz.cps.toList.map (spr x)
theorem spare_vn {x : Str} (h : VN x) : ∀ y ∈ spare x, VN y := fun y hy => by
  rcases List.mem_cons.mp hy with e | e
  · rw [e]
    exact h
  · obtain ⟨c, hc, rfl⟩ := List.mem_map.mp e
    exact vn_spr h (abz_az hc)
theorem spare_more {x : Str} {xs : List Str} (h : xs.length < 26) : ∃ y ∈ spare x, y ∉ xs := by
  apply Classical.byContradiction
  intro q
  have all : ∀ y ∈ abz.cps.toList.map (spr x), y ∈ xs := fun y hy => by
    apply Classical.byContradiction
    intro z
    exact q ⟨y, List.mem_cons_of_mem _ hy, z⟩
  have nd : (abz.cps.toList.map (spr x)).Nodup := by
    rw [abz_list, List.map_map]
    have z : ∀ l : List Nat, l.Nodup → (l.map (spr x ∘ (97 + ·))).Nodup := fun l hl => by
      induction l with
      | nil => exact List.nodup_nil
      | cons a r ih =>
        obtain ⟨h1, h2⟩ := List.nodup_cons.mp hl
        refine List.nodup_cons.mpr ⟨fun hm => ?_, ih h2⟩
        obtain ⟨b, hb, e⟩ := List.mem_map.mp hm
        have e2 : 97 + b = 97 + a := spr_inj e
        have e3 : b = a := by omega
        rw [e3] at hb
        exact h1 hb
    exact z _ List.nodup_range
  have l := List.Nodup.length_le_of_subset nd all
  rw [List.length_map, abz_list, List.length_map, List.length_range] at l
  omega
section
variable {P : Program} {w : World} {K : Fg} {mg : Str → Option Value} {base : Heap}
theorem op_notInK {X : Cx} (K : Fg) (h : X.K = K := by rfl) : OpR X (compareOp .NotIn) (rIn K true) := by
  subst h
  exact op_notIn_seq
theorem inV_strs {x : Str} : ∀ xs : List Str, inV (.str x) (xs.map V.str) = decide (x ∈ xs)
  | [] => rfl
  | y :: r => by
    show (eqV (.str y) (.str x) || inV (.str x) (r.map V.str)) = _
    rw [inV_strs r, Bool.eq_iff_iff, Bool.or_eq_true, decide_eq_true_iff, decide_eq_true_iff, List.mem_cons]
    have e : eqV (.str y) (.str x) = (y == x) := rfl
    rw [e, beq_iff_eq]
    exact or_congr ⟨Eq.symm, Eq.symm⟩ Iff.rfl
theorem flat_all (xs : List Str) : (xs.map V.str).all flatV = true := by
  rw [List.all_eq_true]
  intro v hv
  obtain ⟨x, _, rfl⟩ := List.mem_map.mp hv
  rfl
theorem Dr.wr {p a : Addr} {H H' : Hp} {o : HO} (d : Dr p H H') (h : H a = none) (n : a ≠ p) : Dr p H (upd H' a o) := ⟨d.off.wr h, let ⟨x, y, e, z⟩ := d.pot; ⟨x, y, by rw [upd_ne n.symm]; exact e, z⟩⟩
theorem NmAt.ne {H : Hp} {l a : Addr} {xs : List Str} (h : NmAt H l xs) (n : H a = none) : a ≠ l := fun z => by
  have h2 : H l = some (.lst (xs.map V.str)) := h
  rw [← z, n] at h2
  cases h2
theorem Dr.free {p a : Addr} {H H' : Hp} (d : Dr p H H') (n : a ≠ p) (h : H' a = none) : H a = none := by
  cases e : H a with
  | none => rfl
  | some o =>
    rw [d.off _ _ n e] at h
    cases h
def spNames : Sp := fun vs H Q _ => ∃ (p : Addr) (m : Int), vs = [.ref p, .int m] ∧ PotAt H p ∧ 0 ≤ m ∧ m ≤ 12 ∧ ∀ H' l xs, Dr p H H' → H l = none → l ≠ p → NmAt H' l xs → (∀ x ∈ xs, VN x) → xs.Nodup → (xs.length : Int) = m → Q (.ref l) H'
theorem sc_names : FnScope ["_law_pot_here", "_law_many", "_law_letters", "_law_found", "_law_turn", "_law_word", "_law_spare", "_law_sign", "_law_letter", "_law_name"] ["_law_pot_here", "_law_many"] (defScope dLawNames.st) := ⟨rfl, rfl, rfl, by decide +kernel, rfl, by decide +kernel, by decide +kernel⟩
theorem ok_names (T : Tx K mg) : Cd P w K mg base 3 dLawNames ["_law_pot_here", "_law_many"] spNames := by
  obtain ⟨fd, F⟩ := T.dLawNames
  have cD : Cd P w K mg base 1 dLawDraw ["_law_pot_here", "_law_many"] spDraw := ok_draw T
  have cP : Cd P w K mg base 2 dLawPick ["_law_pot_here", "_law_some"] (spPick K) := ok_pick T
  refine .of F sc_names (F.bindsN fun _ _ _ _ _ _ us hl => match us, hl with | [_, _], _ => rfl) (fun vs H Q E h => ?_) (fun cdv A outer s0 H vs Q E hr h => ?_)
  · obtain ⟨_, _, rfl, _⟩ := h
    rfl
  · obtain ⟨p, m, rfl, hp, m0, m1, q⟩ := h
    refine ⟨_, pss_cons (ps_asg (pe_tup (pa_cons pe_str (pa_cons (pe_lst pa_nil) pa_nil))) (pg_tup rfl (pgs_cons (pg_name (i := 2) sc_names.nd rfl (Or.inr rfl)) (pgs_cons (pg_name (i := 3) sc_names.nd rfl (Or.inr rfl)) pgs_nil))))
      (pss_cons (ps_for PassesOwn.never rfl (pi_range1 (by rfl) T.n_range (pa_cons (pv 1) pa_nil)) (pg_name (i := 4) sc_names.nd rfl (Or.inl rfl))
        (pss_cons (ps_set (i := 5) sc_names.nd rfl (Or.inr rfl) (pe_join pe_str (pe_lc (own := [("_law_sign", 7)]) (g := gName 7) (tt := tYes) rfl sc_names.nd (pi_range1 (by rfl) T.n_range (pa_cons (pe_cd cP hr T.g_law_pick (pa_cons (pv 0) (pa_cons (pe_lst (pa_cons pe_int (pa_cons pe_int (pa_cons pe_int (pa_cons pe_int pa_nil))))) pa_nil))) pa_nil))
            (blkOk_by (N := ["_law_pot_here", "_law_many", "_law_letters", "_law_found", "_law_turn", "_law_word", "_law_spare", "_law_sign", "_law_letter", "_law_name"]) (sc := defScope dLawNames.st) (by decide +kernel)) (fun _ _ _ _ _ => pg_name (i := 7) sc_names.nd rfl (Or.inl rfl)) (fun _ _ _ _ _ => pts_nil)
            (fun _ _ _ _ _ => pe_ix ix_str (pv 2) (pe_cd cD hr T.g_law_draw (pa_cons (pv 0) (pa_cons pe_int pa_nil))) (fun _ _ => rfl)))))
        (pss_cons (ps_set (i := 6) sc_names.nd rfl (Or.inl rfl) (pe_op op_cat (pe_lst (pa_cons (pv 5) pa_nil)) (pe_lc (own := [("_law_letter", 8)]) (g := gName 8) (tt := tYes) rfl sc_names.nd (pi_str (pv 2))
            (blkOk_by (N := ["_law_pot_here", "_law_many", "_law_letters", "_law_found", "_law_turn", "_law_word", "_law_spare", "_law_sign", "_law_letter", "_law_name"]) (sc := defScope dLawNames.st) (by decide +kernel)) (fun _ _ _ _ _ => pg_name (i := 8) sc_names.nd rfl (Or.inl rfl)) (fun _ _ _ _ _ => pts_nil)
            (fun _ _ _ _ _ => pe_op op_add_str (pe_slice sl_str (pv 5) po_none (po_some pe_int)) (pv 8)))))
        (pss_one (ps_expr (pe_bm PySem.F.plainAttrs_list PySem.F.slot_list_append PySem.F.type_list_append mt_append (pv 3) (pa_cons (pe_ix ix_list (pe_lc (own := [("_law_name", 9)]) (g := gName 9) rfl sc_names.nd (pi_list (pv 6))
            (blkOk_by (N := ["_law_pot_here", "_law_many", "_law_letters", "_law_found", "_law_turn", "_law_word", "_law_spare", "_law_sign", "_law_letter", "_law_name"]) (sc := defScope dLawNames.st) (by decide +kernel)) (fun _ _ _ _ _ => pg_name (i := 9) sc_names.nd rfl (Or.inl rfl)) (fun _ _ _ _ _ => pts_one (pt_cmpR (op_notInK K) (pv 9) (pv 3) rfl))
            (fun _ _ _ _ _ => pv 9)) pe_int (fun _ _ => rfl)) pa_nil)))))))
      (pss_one (ps_ret (pv 3)))), ?_⟩
    refine ⟨small_le (n := 0) (by decide), fun f nf => ?_⟩
    have nfp := hp.ne nf
    have dr1 : Dr p H (upd H f (.lst [])) := (Dr.start hp).same (new_same nf)
    have ef1 : NmAt (upd H f (.lst [])) f [] := upd_same
    generalize upd H f (.lst []) = H1 at dr1 ef1
    refine ⟨small_le (n := 2) (by decide), fun t nt => ?_⟩
    have s2 : Same H1 (upd H1 t (.tup [.str abz, .ref f])) := new_same nt
    have dr2 := dr1.same s2
    have ef2 : NmAt (upd H1 t (.tup [.str abz, .ref f])) f [] := s2 _ _ ef1
    refine ⟨t, _, rfl, .of upd_same, rfl, _, _, rfl, _, _, rfl, rfl, ?_⟩
    generalize upd H1 t (.tup [.str abz, .ref f]) = H2 at s2 dr2 ef2
    refine ⟨_, rfl, m, rfl, by omega, by omega, ?_⟩
    refine for_range (fun i σ H' => ∃ (v4 v5 v6 : Option V) (xs : List Str), σ = [some (.ref p), some (.int m), some (.str abz), some (.ref f), v4, v5, v6, none, none, none] ∧ Dr p H H' ∧ NmAt H' f xs ∧ (∀ x ∈ xs, VN x) ∧ xs.Nodup ∧ xs.length = i)
      ⟨none, none, none, [], rfl, dr2, ef2, fun x hx => (nomatch hx), List.nodup_nil, rfl⟩ (fun i σ H3 hi hP => ?_) (fun σ H3 hP => ?_)
    · obtain ⟨v4, v5, v6, xs, rfl, dr3, ef3, hv, nd, rfl⟩ := hP
      have l12 : xs.length < 12 := by omega
      -- the word
      refine ⟨⟨_, rfl⟩, _, rfl, small_le (n := 4) (by decide), fun l nl => ?_⟩
      have s4 : Same H3 (upd H3 l (.lst [.int 1, .int 2, .int 3, .int 8])) := new_same nl
      have dr4 := dr3.same s4
      have nlp := dr3.pot.ne nl
      refine ⟨p, l, [.int 1, .int 2, .int 3, .int 8], rfl, dr4.pot, nlp, .of upd_same, by decide, by decide, fun H4 v r4 hv4 => ?_⟩
      have dr5 := dr4.trans r4
      have ef5 : NmAt H4 f xs := r4.off _ _ nfp (s4 _ _ ef3)
      obtain ⟨j, rfl, j0, j8⟩ : ∃ j : Int, v = .int j ∧ 1 ≤ j ∧ j ≤ 8 := by
        rcases List.mem_cons.mp hv4 with rfl | hv4
        · exact ⟨1, rfl, by decide, by decide⟩
        rcases List.mem_cons.mp hv4 with rfl | hv4
        · exact ⟨2, rfl, by decide, by decide⟩
        rcases List.mem_cons.mp hv4 with rfl | hv4
        · exact ⟨3, rfl, by decide, by decide⟩
        rcases List.mem_cons.mp hv4 with rfl | hv4
        · exact ⟨8, rfl, by decide, by decide⟩
        · cases hv4
      refine ⟨j, rfl, by omega, by omega, fun D nD => ?_⟩
      have nDp := dr5.pot.ne nD
      have nDH := dr5.free nDp nD
      have nDf := ef5.ne nD
      refine lc_it (walk_range (lo := 0) (n := j.toNat)) (fun i H' => Dr p H H' ∧ NmAt H' f xs ∧ ∃ cs : List Nat, cs.length = i ∧ (∀ c ∈ cs, 97 ≤ c ∧ c ≤ 122) ∧ NmAt H' D (cs.map sg1))
        ⟨dr5.wr nDH nDp, by show (upd _ _ _) f = _; rw [upd_ne nDf.symm]; exact ef5, [], rfl, fun c hc => (nomatch hc), upd_same⟩ (fun _ _ _ _ => trivial) (fun i y H5 H6 hi2 hQ hY => ?_) (fun H5 hQ => ?_)
      · obtain ⟨rfl, rfl⟩ := hY
        obtain ⟨dr6, ef6, cs, rfl, hcs, eD⟩ := hQ
        refine ⟨rfl, _, rfl, _, rfl, p, 26, rfl, dr6.pot, by decide, by decide, fun H7 d r7 a7 b7 => ?_⟩
        obtain ⟨c, c1, c2, _⟩ := at_ok (xs := abz.cps.toList) a7 (by rw [Array.length_toList, abz_size]; exact b7)
        have eD7 : H7 D = some (.lst ((cs.map sg1).map V.str)) := r7.off _ _ nDp eD
        refine ⟨abz, d, c, rfl, rfl, by show abz.cps.size ≤ _; rw [abz_size]; exact small_le (n := 26) (by decide), c1, _, eD7, ?_, (dr6.trans r7).wr nDH nDp, ?_, cs ++ [c], ?_, ?_, ?_⟩
        · rw [List.length_map, List.length_map]
          exact small_lt (by omega)
        · show (upd _ _ _) f = _
          rw [upd_ne nDf.symm]
          exact r7.off _ _ nfp ef6
        · rw [List.length_append]
          rfl
        · intro e he
          rcases List.mem_append.mp he with z | z
          · exact hcs e z
          · rw [List.mem_singleton.mp z]
            exact abz_az c2
        · show (upd _ _ _) D = _
          rw [upd_same, List.map_append, List.map_append]
          rfl
      obtain ⟨dr6, ef6, cs, lc, hcs, eD⟩ := hQ
      have eD1 : H5 D = some (.lst ((cs.map sg1).map V.str)) := eD
      refine ⟨_, D, cs.map sg1, rfl, rfl, .inl (.of eD1), ?_, ?_⟩
      · have z : ∀ l : List Nat, ((l.map sg1).map (·.length)).sum = l.length := fun l => by
          induction l with
          | nil => rfl
          | cons a r ih =>
            show 1 + ((r.map sg1).map (·.length)).sum = r.length + 1
            rw [ih]
            omega
        rw [z, List.length_map]
        show cs.length + cs.length * 0 ≤ 16777216
        omega
      have vw : VN (Txt.join (Str.ofString "") (cs.map sg1)) := vn_word (by omega) (by omega) hcs
      show _
      generalize Txt.join (Str.ofString "") (cs.map sg1) = x at vw ⊢
      clear eD1 eD lc hcs
      have xl : x.length ≤ 8 := vw.2
      -- the candidates
      refine ⟨_, rfl, small_le (n := 1) (by decide), fun a na => ?_⟩
      have s7 : Same H5 (upd H5 a (.lst [.str x])) := new_same na
      have dr7 := dr6.same s7
      have ef7 : NmAt (upd H5 a (.lst [.str x])) f xs := s7 _ _ ef6
      have ea7 : (upd H5 a (.lst [.str x])) a = some (.lst [.str x]) := upd_same
      generalize upd H5 a (.lst [.str x]) = H7 at dr7 ef7 ea7
      refine ⟨_, rfl, abz, rfl, fun E nE => ?_⟩
      refine lc_it (walk_str (z := abz)) (fun i H' => Same H7 H' ∧ NmAt H' E ((abz.cps.toList.take i).map (spr x))) ⟨new_same nE, upd_same⟩ (fun _ _ _ _ => trivial) (fun i y H8 H9 hi2 hQ hY => ?_) (fun H8 hQ => ?_)
      · obtain ⟨rfl, c, hc, rfl⟩ := hY
        obtain ⟨s8, eE⟩ := hQ
        have eE1 : H9 E = some (.lst (((abz.cps.toList.take i).map (spr x)).map V.str)) := eE
        refine ⟨rfl, _, rfl, 7, rfl, x, rfl, small_le (by omega), _, rfl, _, _, rfl, rfl, ?_, _, eE1, ?_, s8.wr nE, ?_⟩
        · have e : (cutS x none (some 7)).length = (cutS x none (some 7)).cps.toList.length := (Array.length_toList).symm
          rw [e, cut7, List.length_take]
          exact small_le (n := min 7 x.cps.toList.length + 1) (by omega)
        · rw [List.length_map, List.length_map, List.length_take, Array.length_toList, abz_size]
          exact small_lt (by omega)
        · show (upd _ _ _) E = _
          have hc2 : abz.cps.toList[i]? = some c := by rw [Array.getElem?_toList]; exact hc
          rw [upd_same, List.take_add_one, hc2, List.map_append, List.map_append]
          rfl
      obtain ⟨s8, eE⟩ := hQ
      rw [List.take_of_length_le (by rw [Array.length_toList]; exact Nat.le_refl _)] at eE
      have eE1 : H8 E = some (.lst ((abz.cps.toList.map (spr x)).map V.str)) := eE
      have ls : (spare x).length = 27 := by
        show (abz.cps.toList.map (spr x)).length + 1 = 27
        rw [List.length_map, Array.length_toList, abz_size]
      refine ⟨a, E, _, _, rfl, rfl, s8 _ _ ea7, eE1, ?_, fun g ng => ?_⟩
      · rw [List.length_map, List.length_map, abz_list]
        exact small_le (n := 27) (by decide)
      have s9 : Same H8 (upd H8 g (.lst ([.str x] ++ (abz.cps.toList.map (spr x)).map V.str))) := new_same ng
      have eg : NmAt (upd H8 g (.lst ([.str x] ++ (abz.cps.toList.map (spr x)).map V.str))) g (spare x) := upd_same
      have dr9 := (dr7.same s8).same s9
      have ef9 : NmAt (upd H8 g (.lst ([.str x] ++ (abz.cps.toList.map (spr x)).map V.str))) f xs := s9 _ _ (s8 _ _ ef7)
      generalize upd H8 g (.lst ([.str x] ++ (abz.cps.toList.map (spr x)).map V.str)) = H9 at dr9 ef9 eg
      have ef91 : H9 f = some (.lst (xs.map V.str)) := ef9
      have eg1 : H9 g = some (.lst ((spare x).map V.str)) := eg
      clear eE eE1
      -- the first of them that is new
      have fin : ∃ y z, (spare x).filter (fun y => !decide (y ∈ xs)) = y :: z ∧ VN y ∧ y ∉ xs := by
        obtain ⟨y, hy, hn⟩ := spare_more (x := x) (xs := xs) (by omega)
        cases e : (spare x).filter (fun y => !decide (y ∈ xs)) with
        | nil =>
          have hb : (!decide (y ∈ xs)) = true := by rw [decide_eq_false hn]; rfl
          have z : y ∈ (spare x).filter (fun y => !decide (y ∈ xs)) := List.mem_filter.mpr ⟨hy, hb⟩
          rw [e] at z
          cases z
        | cons u r =>
          have z : u ∈ (spare x).filter (fun y => !decide (y ∈ xs)) := by
            rw [e]
            exact List.mem_cons_self
          obtain ⟨z1, z2⟩ := List.mem_filter.mp z
          exact ⟨u, r, rfl, spare_vn vw u z1, fun q => by rw [decide_eq_true q] at z2; cases z2⟩
      obtain ⟨y, zs, ey, vy, ny⟩ := fin
      generalize spare x = sp at *
      refine ⟨_, rfl, .inl ⟨rfl, _, .of ef91⟩, _, rfl, g, rfl, ⟨_, .of eg1⟩, fun F nF => ?_⟩
      have nFf := ef9.ne nF
      refine lc_it (walk_list (K := K) (a := g) (xs := sp.map V.str)) (fun i H' => Same H9 H' ∧ NmAt H' F ((sp.take i).filter fun y => !decide (y ∈ xs))) ⟨new_same nF, upd_same⟩ (fun _ _ _ q => .of (q.1 _ _ eg1)) (fun i u H10 H11 hi2 hQ hY => ?_) (fun H10 hQ => ?_)
      · obtain ⟨rfl, hu⟩ := hY
        obtain ⟨s10, eF⟩ := hQ
        rw [List.getElem?_map] at hu
        rw [List.length_map] at hi2
        cases er : sp[i]? with
        | none => rw [er] at hu; cases hu
        | some o =>
          rw [er] at hu
          have eu : V.str o = u := Option.some.inj hu
          subst eu
          have eF1 : H11 F = some (.lst (((sp.take i).filter fun y => !decide (y ∈ xs)).map V.str)) := eF
          refine ⟨rfl, _, rfl, _, rfl, f, xs.map V.str, rfl, .inl (.of (s10 _ _ ef91)), rfl, flat_all xs, ?_⟩
          rw [inV_strs xs]
          by_cases ho : o ∈ xs
          · refine ⟨false, by rw [decide_eq_true ho]; rfl, iteF ⟨s10, ?_⟩⟩
            have e : (sp.take (i + 1)).filter (fun y => !decide (y ∈ xs)) = (sp.take i).filter (fun y => !decide (y ∈ xs)) := by
              rw [List.take_add_one, er, List.filter_append]
              show _ ++ [o].filter (fun y => !decide (y ∈ xs)) = _
              rw [List.filter_cons_of_neg (by rw [decide_eq_true ho]; exact Bool.false_ne_true)]
              exact List.append_nil _
            rw [e]
            exact eF
          · refine ⟨true, by rw [decide_eq_false ho]; rfl, iteT ⟨_, rfl, _, eF1, ?_, s10.wr nF, ?_⟩⟩
            · rw [List.length_map]
              have z : ((sp.take i).filter fun y => !decide (y ∈ xs)).length ≤ _ := List.length_filter_le _ _
              rw [List.length_take] at z
              exact small_lt (by omega)
            · show (upd _ _ _) F = _
              have e : (sp.take (i + 1)).filter (fun y => !decide (y ∈ xs)) = (sp.take i).filter (fun y => !decide (y ∈ xs)) ++ [o] := by
                rw [List.take_add_one, er, List.filter_append]
                show _ ++ [o].filter (fun y => !decide (y ∈ xs)) = _
                rw [List.filter_cons_of_pos (by rw [decide_eq_false ho]; rfl)]
                rfl
              rw [e, upd_same, List.map_append]
              rfl
      obtain ⟨s10, eF⟩ := hQ
      rw [List.length_map, List.take_length, ey] at eF
      have eF1 : H10 F = some (.lst ((y :: zs).map V.str)) := eF
      refine ⟨F, _, 0, _, rfl, rfl, .of eF1, at_nat' (i := 0) rfl, ?_⟩
      refine ⟨f, xs.map V.str, _, rfl, rfl, s10 _ _ ef91, ?_, ?_⟩
      · rw [List.length_map]
        exact small_lt (by omega)
      · have dr10 : Dr p H H10 := dr9.same s10
        refine ⟨some (.int (0 + (xs.length : Int))), some (.str x), some (.ref g), xs ++ [y], rfl, dr10.wr nf nfp, ?_, ?_, ?_, ?_⟩
        · show (upd _ _ _) f = _
          rw [upd_same, List.map_append]
          rfl
        · intro z hz
          rcases List.mem_append.mp hz with q2 | q2
          · exact hv z q2
          · rw [List.mem_singleton.mp q2]
            exact vy
        · rw [List.nodup_append]
          refine ⟨nd, List.nodup_cons.mpr ⟨List.not_mem_nil, List.nodup_nil⟩, fun a ha b hb e => ?_⟩
          rw [List.mem_singleton.mp hb] at e
          rw [e] at ha
          exact ny ha
        · rw [List.length_append]
          rfl
    · obtain ⟨v4, v5, v6, xs, rfl, dr3, ef3, hv, nd, l⟩ := hP
      exact ⟨_, rfl, q H3 f xs dr3 nf nfp ef3 hv nd (by omega)⟩
end
end K21
set_option maxHeartbeats 4000000
/-! rule_right -/
namespace K21
open PySem PySem.Spec PyProof.Rows L2 He
theorem PotAt.no {H : Hp} {p a : Addr} {o : HO} (h : PotAt H p) (e : H a = some o) (n : ∀ us, o ≠ .lst us) : a ≠ p := fun z => by
  obtain ⟨x, y, e2, _⟩ := h
  rw [← z, e] at e2
  exact n _ (Option.some.inj e2)
theorem Sit.dr {K : Fg} {H H' : Hp} {p r d : Addr} {x : Str} {ss tt : Tb} (hp : PotAt H p) (s : Dr p H H') (h : Sit K H r d x ss tt) : Sit K H' r d x ss tt := by
  obtain ⟨⟨dx, e, f, dy, a, b, c, z⟩, so, at_, sh, sz, vx⟩ := h
  have f1 := s.off _ _ (hp.no a fun _ q => nomatch q) a
  have f2 := s.off _ _ (hp.no b fun _ q => nomatch q) b
  have f3 := s.off _ _ (hp.no c fun _ q => nomatch q) c
  have f4 := s.off _ _ (hp.no at_ fun _ q => nomatch q) at_
  exact ⟨⟨dx, e, f, dy, f1, f2, f3, z⟩, so, f4, sh, sz, vx⟩
theorem unlock_dr {H H' : Hp} {p d : Addr} {u f : HO} (h : H d = some u) (n : d ≠ p) (s : Dr p (upd H d f) H') : Dr p H (upd H' d u) := by
  refine ⟨fun b o nb e => ?_, ?_⟩
  · by_cases c : b = d
    · subst c
      rw [h] at e
      rw [upd_same]
      exact e
    · rw [upd_ne c]
      exact s.off b o nb (by rw [upd_ne c]; exact e)
  · obtain ⟨x, y, e, z⟩ := s.pot
    exact ⟨x, y, by rw [upd_ne n.symm]; exact e, z⟩
theorem sq_same {K : Fg} {a : Addr} {H H' : Hp} {xs : List V} (d : Same H H') (h : SqL K H a xs) : SqL K H' a xs := by
  rcases h with (h | ⟨o, h⟩) | h
  · exact .inl (.inl (d _ _ h))
  · exact .inl (.inr ⟨o, d _ _ h⟩)
  · exact .inr h
theorem lock_pot {H : Hp} {p d : Addr} {o : HO} (n : d ≠ p) (h : PotAt H p) : PotAt (upd H d o) p := let ⟨x, y, e, z⟩ := h; ⟨x, y, by rw [upd_ne n.symm]; exact e, z⟩
theorem flt_out {xs ys : List Str} {i : Nat} {y : Str} (e : xs[i]? = some y) (h : y ∈ ys) : (xs.take (i + 1)).filter (fun y => !decide (y ∈ ys)) = (xs.take i).filter (fun y => !decide (y ∈ ys)) := by
  rw [List.take_add_one, e, List.filter_append]
  show _ ++ [y].filter (fun y => !decide (y ∈ ys)) = _
  rw [List.filter_cons_of_neg (by rw [decide_eq_true h]; exact Bool.false_ne_true)]
  exact List.append_nil _
theorem flt_in {xs ys : List Str} {i : Nat} {y : Str} (e : xs[i]? = some y) (h : y ∉ ys) : (xs.take (i + 1)).filter (fun y => !decide (y ∈ ys)) = (xs.take i).filter (fun y => !decide (y ∈ ys)) ++ [y] := by
  rw [List.take_add_one, e, List.filter_append]
  show _ ++ [y].filter (fun y => !decide (y ∈ ys)) = _
  rw [List.filter_cons_of_pos (by rw [decide_eq_false h]; rfl)]
  rfl
section
variable {P : Program} {w : World} {K : Fg} {mg : Str → Option Value} {base : Heap}
def spRuleR (K : Fg) : Sp := fun vs H Q _ => ∃ (p l : Addr) (xs : List Str), vs = [.ref p, .ref l] ∧ PotAt H p ∧ l ≠ p ∧ SqL K H l (xs.map V.str) ∧ (∀ x ∈ xs, VN x) ∧ xs.Nodup ∧ 2 ≤ xs.length ∧ xs.length ≤ 10 ∧ ∀ H', Dr p H H' → Q (.bl true) H'
theorem sc_ruler : FnScope ["_law_pot_here", "_law_names_here", "_law_left", "_law_shifts_here", "_law_rule", "_law_own", "_law_turn", "_law_spare", "_law_when", "_law_name"] ["_law_pot_here", "_law_names_here"] (defScope dLawRuleRight.st) := ⟨rfl, rfl, rfl, by decide +kernel, rfl, by decide +kernel, by decide +kernel⟩
theorem ok_ruler (T : Tx K mg) : Cg P w K mg base 10 dLawRuleRight ["_law_pot_here", "_law_names_here"] (spRuleR K) := by
  obtain ⟨fd, F⟩ := T.dLawRuleRight
  have cD : Cd P w K mg base 1 dLawDraw ["_law_pot_here", "_law_many"] spDraw := ok_draw T
  have cP : Cd P w K mg base 2 dLawPick ["_law_pot_here", "_law_some"] (spPick K) := ok_pick T
  have cM : Cd P w K mg base 2 dLawMixed ["_law_pot_here", "_law_some"] (spMixed K) := ok_mixed T
  have cN : Cd P w K mg base 3 dLawNumber ["_law_pot_here"] spNumber := ok_number T
  have cS : Cd P w K mg base 4 dLawShifts ["_law_pot_here", "_law_names_here"] (spShiftsL K) := ok_lshifts T
  have cE : Cd P w K mg base 7 dLawSide ["_law_pot_here", "_law_shifts_here"] (spSide K) := ok_side T
  have cW : Cd P w K mg base 4 dLawTimes ["_law_pot_here", "_law_left", "_law_shifts_here", "_law_names_here"] (spLTimes K) := ok_ltimes T
  have cA : Cg P w K mg base 9 dLawAtTimesRight ["_law_rule", "_law_left", "_law_shifts_here", "_law_when", "_law_number_here"] (spAtTimes K) := ok_atimes T
  have cT : Cd P w K mg base 8 dLawTurnedRight ["_law_rule", "_law_left", "_law_shifts_here", "_law_when"] (spTurned K) := ok_turned T
  have cC : Cg P w K mg base 9 dLawContraryRight ["_law_rule", "_law_left", "_law_shifts_here"] (spConR K) := ok_conr T
  have cK : Cd P w K mg base 8 dLawKindsRight ["_law_rule", "_law_left", "_law_shifts_here", "_law_begin"] (spKinds K) := ok_kinds T
  have cRi : Cd P w K mg base 6 dRuleInit ["self", "moment", "earliest"] (spRuleInit K) := ok_rinit T
  refine .of F sc_ruler (F.bindsN fun _ _ _ _ _ _ us hl => match us, hl with | [_, _], _ => rfl) (fun vs H Q E h => ?_) (fun cdv A outer s0 H vs Q E hr hg h => ?_)
  · obtain ⟨_, _, _, rfl, _⟩ := h
    rfl
  · obtain ⟨p, l, xs, rfl, hp, nlp, hl, hv, nd, l2, l10, q⟩ := h
    refine ⟨_, pss_cons (ps_par (i := 2) (j := 3) rfl sc_ruler.nd rfl rfl (by decide) rfl rfl (pa_cons (pe_cd cP hr T.g_law_pick (pa_cons (pv 0) (pa_cons (pv 1) pa_nil)))
        (pa_cons (pe_cd cS hr T.g_law_shifts (pa_cons (pv 0) (pa_cons (pe_slice sl_list (pv 1) po_none (po_some pe_int)) pa_nil))) pa_nil)) (by rfl))
      (pss_cons (ps_lock (ps_asg (pe_tup (pa_cons (pe_mkc cRi T.mk_Rule hr T.g_Rule (pa_cons (pv 2) (pa_cons (pe_cd cE hr T.g_law_side (pa_cons (pv 0) (pa_cons (pv 3) pa_nil))) pa_nil)))
          (pa_cons (pe_callB (cr_sortSet rfl) (by rfl) T.n_sorted bt_sorted (pa_cons (pe_callTy (cr_setL rfl) (by rfl) T.n_set bt_set (pa_cons (pe_op op_cat (pe_lst (pa_cons (pv 2) pa_nil)) (pe_callTy (call_listD rfl) (by rfl) T.n_list bt_list (pa_cons (pv 3) pa_nil))) pa_nil)) pa_nil)) pa_nil)))
        (pg_tup rfl (pgs_cons (pg_name (i := 4) sc_ruler.nd rfl (Or.inl rfl)) (pgs_cons (pg_name (i := 5) sc_ruler.nd rfl (Or.inr rfl)) pgs_nil)))))
      (pss_cons (ps_for PassesOwn.never rfl (pi_range1 (by rfl) T.n_range (pa_cons pe_int pa_nil)) (pg_name (i := 6) sc_ruler.nd rfl (Or.inl rfl))
        (pss_cons (ps_set (i := 7) sc_ruler.nd rfl (Or.inl rfl) (pe_slice sl_list (pe_cd cM hr T.g_law_mixed (pa_cons (pv 0) (pa_cons (pe_lc (own := [("_law_name", 9)]) (g := gName 9) rfl sc_ruler.nd (pi_list (pv 1))
            (blkOk_by (N := ["_law_pot_here", "_law_names_here", "_law_left", "_law_shifts_here", "_law_rule", "_law_own", "_law_turn", "_law_spare", "_law_when", "_law_name"]) (sc := defScope dLawRuleRight.st) (by decide +kernel)) (fun _ _ _ _ _ => pg_name (i := 9) sc_ruler.nd rfl (Or.inl rfl)) (fun _ _ _ _ _ => pts_one (pt_cmpR (op_notInK K) (pv 9) (pv 5) rfl))
            (fun _ _ _ _ _ => pv 9)) pa_nil))) po_none (po_some (pe_cd cD hr T.g_law_draw (pa_cons (pv 0) (pa_cons pe_int pa_nil))))))
        (pss_cons (ps_set (i := 8) sc_ruler.nd rfl (Or.inl rfl) (pe_cd cW hr T.g_law_times (pa_cons (pv 0) (pa_cons (pv 2) (pa_cons (pv 3) (pa_cons (pe_op op_cat (pv 5) (pv 7)) pa_nil))))))
        (pss_cons (ps_if (pt_not (pt_val (pe_cg cA hr hg T.g_law_at_times_right (pa_cons (pv 4) (pa_cons (pv 2) (pa_cons (pv 3) (pa_cons (pv 8) (pa_cons (pe_cd cN hr T.g_law_number (pa_cons (pv 0) pa_nil)) pa_nil)))))))) (pss_one (ps_ret pe_bl)) pss_nil)
        (pss_one (ps_if (pt_not (pt_val (pe_cd cT hr T.g_law_turned_right (pa_cons (pv 4) (pa_cons (pv 2) (pa_cons (pv 3) (pa_cons (pv 8) pa_nil))))))) (pss_one (ps_ret pe_bl)) pss_nil))))))
      (pss_one (ps_ret (pe_and (pe_cg cC hr hg T.g_law_contrary_right (pa_cons (pv 4) (pa_cons (pv 2) (pa_cons (pv 3) pa_nil))))
        (pe_one (pe_cd cK hr T.g_law_kinds_right (pa_cons (pv 4) (pa_cons (pv 2) (pa_cons (pv 3) (pa_cons (pe_op op_sub (pe_cd cD hr T.g_law_draw (pa_cons (pv 0) (pa_cons pe_int pa_nil))) pe_int) pa_nil)))))))))))
      , ?_⟩
    have hxp : 0 < xs.length := by omega
    -- left, shifts
    refine ⟨_, rfl, _, rfl, p, l, xs.map V.str, rfl, hp, nlp, hl, by rw [List.length_map]; exact hxp, by rw [List.length_map]; omega, fun H1 v dr1 hv1 => ?_⟩
    obtain ⟨x, hx, rfl⟩ := List.mem_map.mp hv1
    have vx := hv x hx
    have hl1 := dr1.sq nlp hl
    refine ⟨_, rfl, _, rfl, 8, rfl, l, _, rfl, hl1, fun c nc => ?_⟩
    rw [cut_to _ (by decide)]
    have ec : (xs.map V.str).take (8 : Int).toNat = (xs.take 8).map V.str := List.map_take.symm
    rw [ec]
    have s2 : Same H1 (upd H1 c (.lst ((xs.take 8).map V.str))) := new_same nc
    have ncp := dr1.pot.ne nc
    have dr2 := dr1.same s2
    have lt8 : (xs.take 8).length = min 8 xs.length := List.length_take
    refine ⟨p, c, xs.take 8, rfl, dr2.pot, ncp, .of upd_same, fun y hy => hv y (List.mem_of_mem_take hy), nd.sublist (List.take_sublist _ _), by omega, by omega, fun H3 d ss dr3 nfd ndp ed S => ⟨_, _, rfl, ?_⟩⟩
    have d03 := dr2.trans dr3
    have hl3 := d03.sq nlp hl
    clear dr1 hl1 s2 dr2 dr3 nfd hv1
    have Ssh := S.sh
    have len8 := Ssh.len
    -- the rule
    refine ⟨d, _, ed, trivial, fun od0 => ?_⟩
    have hp3 := d03.pot
    have hpL : PotAt (upd H3 d (.frz od0 (.dK (dk ss)))) p := lock_pot ndp hp3
    refine ⟨_, rfl, _, rfl, _, rfl, p, d, ss, rfl, hpL, rd_lock ed ed, Ssh, fun H4 v tt dr4 he so => fun r dx nx ndx ne => ?_⟩
    have fz4 : H4 d = some (.frz od0 (.dK (dk ss))) := dr4.off _ _ ndp upd_same
    refine mkR2 vx he nx ndx fun H5 s5 hr5 => ⟨rfl, ?_⟩
    have fz5 := s5 _ _ fz4
    -- own
    refine ⟨_, rfl, small_le (n := 1) (by decide), fun a na => ?_⟩
    have s6 : Same H5 (upd H5 a (.lst [.str x])) := new_same na
    have ea6 : (upd H5 a (.lst [.str x])) a = some (.lst [.str x]) := upd_same
    generalize upd H5 a (.lst [.str x]) = H6 at s6 ea6
    have fz6 := s6 _ _ fz5
    refine ⟨_, rfl, d, _, rfl, .inr ⟨_, fz6⟩, fun b nb => ?_⟩
    have el : (dk ss).map (fun kv => kV kv.1) = (ks ss).map V.str := by
      unfold dk ks
      rw [List.map_map, List.map_map]
      rfl
    rw [el]
    have s7 : Same H6 (upd H6 b (.lst ((ks ss).map V.str))) := new_same nb
    have eb7 : (upd H6 b (.lst ((ks ss).map V.str))) b = some (.lst ((ks ss).map V.str)) := upd_same
    generalize upd H6 b (.lst ((ks ss).map V.str)) = H7 at s7 eb7
    refine ⟨a, b, _, _, rfl, rfl, s7 _ _ ea6, eb7, ?_, fun g ng => ?_⟩
    · rw [List.length_map, ks_len]
      exact small_le (n := 1 + ss.length) (by omega)
    have s8 : Same H7 (upd H7 g (.lst ([.str x] ++ (ks ss).map V.str))) := new_same ng
    have eg8 : (upd H7 g (.lst ([.str x] ++ (ks ss).map V.str))) g = some (.lst ((x :: ks ss).map V.str)) := upd_same
    generalize upd H7 g (.lst ([.str x] ++ (ks ss).map V.str)) = H8 at s8 eg8
    have ll : (x :: ks ss).length = ss.length + 1 := by
      show (ks ss).length + 1 = _
      rw [ks_len]
    rw [show (cxOf CX0 P w K mg base _ dLawRuleRight.ql (defScope dLawRuleRight.st) (dLawRuleRight.pl K) cdv A outer s0 H E).nox.w = w from rfl]
    refine ⟨g, x :: ks ss, rfl, .of eg8, by rw [ll]; omega, fun m nm => ?_⟩
    have s9 : Same H8 (upd H8 m (SetSO w m (x :: ks ss))) := new_same nm
    have em9 : (upd H8 m (SetSO w m (x :: ks ss))) m = some (SetSO w m (x :: ks ss)) := upd_same
    generalize upd H8 m (SetSO w m (x :: ks ss)) = H9 at s9 em9
    refine ⟨m, x :: ks ss, rfl, em9, by rw [ll]; omega, fun ys o ynd ymem _ ylen no => ?_⟩
    rw [ll] at ylen
    have s10 : Same H9 (upd H9 o (.lst (ys.map V.str))) := new_same no
    have eo10 : (upd H9 o (.lst (ys.map V.str))) o = some (.lst (ys.map V.str)) := upd_same
    generalize upd H9 o (.lst (ys.map V.str)) = H10 at s10 eo10
    refine ⟨small_le (n := 2) (by decide), fun t nt => ?_⟩
    have s11 : Same H10 (upd H10 t (.tup [.ref r, .ref o])) := new_same nt
    refine ⟨t, _, rfl, .of upd_same, rfl, _, _, rfl, _, _, rfl, rfl, ?_⟩
    generalize upd H10 t (.tup [.ref r, .ref o]) = H11 at s11
    have s511 : Same H5 H11 := ((((s6.trans s7).trans s8).trans s9).trans s10).trans s11
    have fz11 := s511 _ _ fz5
    have eo11 := s11 _ _ eo10
    have od : o ≠ d := fun z => by
      rw [z, fz11] at eo11
      cases eo11
    have nop : o ≠ p := fun z => by
      have e4 : H9 p ≠ none := fun h => by
        obtain ⟨_, _, e, _⟩ := dr4.pot
        have e9 := ((((s5.trans s6).trans s7).trans s8).trans s9) _ _ e
        rw [h] at e9
        cases e9
      rw [z] at no
      exact e4 no
    have Lk : Dr p (upd H3 d (.frz od0 (.dK (dk ss)))) H11 := dr4.same (s5.trans s511)
    have d12 := unlock_dr ed ndp Lk
    have eo12 : (upd H11 d (.dK (dk ss))) o = some (.lst (ys.map V.str)) := by rw [upd_ne od]; exact eo11
    have S12 : Sit K (upd H11 d (.dK (dk ss))) r d x ss tt := ⟨ap_of (hr5.mono s511) fz11, so, upd_same, Ssh, S.sz, vx⟩
    refine ⟨fz11, ?_⟩
    generalize upd H11 d (.dK (dk ss)) = H12 at d12 eo12 S12
    clear s511 fz11 eo11 Lk eo10 s11 nt em9 s10 s9 eg8 s8 eb7 s7 ea6 s6 fz6 fz5 s5 hr5 fz4 dr4 nx ndx ne no nm ng nb na hpL
    have d0 : Dr p H H12 := d03.trans d12
    have hl12 := d0.sq nlp hl
    have hp12 := d0.pot
    have yv : ∀ y ∈ ys, y = x ∨ y ∈ ks ss := fun y hy => List.mem_cons.mp ((ymem y).mp hy)
    have yx : x ∈ ys := (ymem x).mpr List.mem_cons_self
    have yk : ∀ y ∈ ks ss, y ∈ ys := fun y hy => (ymem y).mpr (List.mem_cons_of_mem _ hy)
    have yin : ∀ y ∈ ys, y ∈ xs := fun y hy => by
      rcases yv y hy with e | e
      · rw [e]
        exact hx
      · exact List.mem_of_mem_take (S.sub y e)
    refine ⟨3, rfl, by decide, by decide, ?_⟩
    refine for_range (fun i σ H' => ∃ (v6 v7 v8 : Option V), σ = [some (.ref p), some (.ref l), some (.str x), some (.ref d), some (.ref r), some (.ref o), v6, v7, v8, none] ∧ Dr p H12 H')
      ⟨none, none, none, rfl, Dr.start hp12⟩ (fun i σ H13 hi hP => ?_) (fun σ H13 hP => ?_)
    · obtain ⟨v6, v7, v8, rfl, d13⟩ := hP
      have hl13 := d13.sq nlp hl12
      have eo13 := d13.off _ _ nop eo12
      have S13 := S12.dr hp12 d13
      -- the others
      refine ⟨_, rfl, _, rfl, l, rfl, ⟨_, hl13⟩, fun F nF => ?_⟩
      have nFp := d13.pot.ne nF
      refine lc_it (walk_list (K := K) (a := l) (xs := xs.map V.str)) (fun i H' => Same H13 H' ∧ NmAt H' F ((xs.take i).filter fun y => !decide (y ∈ ys))) ⟨new_same nF, upd_same⟩ (fun _ _ _ q => sq_same q.1 hl13) (fun i u H14 H15 hi2 hQ hY => ?_) (fun H14 hQ => ?_)
      · obtain ⟨rfl, hu⟩ := hY
        obtain ⟨s14, eF⟩ := hQ
        rw [List.getElem?_map] at hu
        rw [List.length_map] at hi2
        cases er : xs[i]? with
        | none => rw [er] at hu; cases hu
        | some y =>
          rw [er] at hu
          have eu : V.str y = u := Option.some.inj hu
          subst eu
          have eF1 : H15 F = some (.lst (((xs.take i).filter fun y => !decide (y ∈ ys)).map V.str)) := eF
          refine ⟨rfl, _, rfl, _, rfl, o, ys.map V.str, rfl, .inl (.of (s14 _ _ eo13)), rfl, flat_all ys, ?_⟩
          rw [inV_strs ys]
          by_cases ho : y ∈ ys
          · refine ⟨false, by rw [decide_eq_true ho]; rfl, iteF ⟨s14, ?_⟩⟩
            rw [flt_out er ho]
            exact eF
          · refine ⟨true, by rw [decide_eq_false ho]; rfl, iteT ⟨_, rfl, _, eF1, ?_, s14.wr nF, ?_⟩⟩
            · rw [List.length_map]
              have z : ((xs.take i).filter fun y => !decide (y ∈ ys)).length ≤ _ := List.length_filter_le _ _
              rw [List.length_take] at z
              exact small_lt (by omega)
            · show (upd _ _ _) F = _
              rw [flt_in er ho, upd_same, List.map_append]
              rfl
      obtain ⟨s14, eF⟩ := hQ
      rw [List.length_map, List.take_length] at eF
      have fin : ∀ y ∈ xs.filter (fun y => !decide (y ∈ ys)), y ∈ xs ∧ y ∉ ys := fun y hy => by
        obtain ⟨z1, z2⟩ := List.mem_filter.mp hy
        exact ⟨z1, fun q => by rw [decide_eq_true q] at z2; cases z2⟩
      have fnd : (xs.filter (fun y => !decide (y ∈ ys))).Nodup := nd.filter _
      have fl : (xs.filter (fun y => !decide (y ∈ ys))).length ≤ xs.length := List.length_filter_le _ _
      generalize xs.filter (fun y => !decide (y ∈ ys)) = fs at eF fin fnd fl
      have eF1 : H14 F = some (.lst (fs.map V.str)) := eF
      have d14 := d13.same s14
      refine ⟨p, F, fs, rfl, d14.pot, nFp, .of eF1, fun y hy => hv y (fin y hy).1, by omega, fun H15 m zs d15 nm em pm nmp => ?_⟩
      have em1 : H15 m = some (.lst (zs.map V.str)) := em
      refine ⟨_, rfl, p, 4, rfl, d15.pot, by decide, by decide, fun H16 n d16 n0 n4 => ?_⟩
      have d1316 : Dr p H13 H16 := (((Dr.start d13.pot).same s14).trans d15).trans d16
      refine ⟨n, rfl, m, _, rfl, .of (d16.off _ _ nmp em1), fun c2 nc2 => ?_⟩
      rw [cut_to _ n0]
      have ecut : (zs.map V.str).take n.toNat = (zs.take n.toNat).map V.str := List.map_take.symm
      rw [ecut]
      have lsp : (zs.take n.toNat).length ≤ 3 := by
        rw [List.length_take]
        omega
      have spin : ∀ y ∈ zs.take n.toNat, y ∈ xs ∧ y ∉ ys := fun y hy => fin y (pm.mem_iff.mp (List.mem_of_mem_take hy))
      have spnd : (zs.take n.toNat).Nodup := (pm.nodup_iff.mpr fnd).sublist (List.take_sublist _ _)
      generalize zs.take n.toNat = sp at lsp spin spnd
      have s17 : Same H16 (upd H16 c2 (.lst (sp.map V.str))) := new_same nc2
      have ec17 : (upd H16 c2 (.lst (sp.map V.str))) c2 = some (.lst (sp.map V.str)) := upd_same
      have d17 := d1316.same s17
      generalize upd H16 c2 (.lst (sp.map V.str)) = H17 at s17 ec17 d17
      have eo17 := d17.off _ _ nop eo13
      -- the times
      refine ⟨_, rfl, _, rfl, _, rfl, _, rfl, _, rfl, o, c2, _, _, rfl, rfl, eo17, ec17, ?_, fun g ng => ?_⟩
      · rw [List.length_map, List.length_map]
        exact small_le (n := ys.length + sp.length) (by omega)
      have s18 : Same H17 (upd H17 g (.lst (ys.map V.str ++ sp.map V.str))) := new_same ng
      have eg18 : (upd H17 g (.lst (ys.map V.str ++ sp.map V.str))) g = some (.lst ((ys ++ sp).map V.str)) := by rw [upd_same, List.map_append]
      have ngp := d17.pot.ne ng
      have d18 := d17.same s18
      generalize upd H17 g (.lst (ys.map V.str ++ sp.map V.str)) = H18 at s18 eg18 d18
      have S18 := S13.dr d13.pot d18
      have allin : ∀ y ∈ ys ++ sp, y ∈ xs := fun y hy => by
        rcases List.mem_append.mp hy with z | z
        · exact yin y z
        · exact (spin y z).1
      refine ⟨p, x, d, g, ss, ys ++ sp, rfl, d18.pot, S18.at_, Ssh, S.sz, ngp, .of eg18, fun y hy => hv y (allin y hy), ?_, ?_, List.mem_append_left _ yx, fun y hy => List.mem_append_left _ (yk y hy), fun H19 e ws d19 _ nep ee W => ?_⟩
      · rw [List.nodup_append]
        refine ⟨ynd, spnd, fun a ha b hb e => ?_⟩
        rw [e] at ha
        exact (spin b hb).2 ha
      · rw [List.length_append]
        omega
      have WT : Tim x ss ws := ⟨W.v, W.nd, fun q hq => (W.sz q hq).mono (by decide), W.len, (W.on x).mpr (List.mem_append_left _ yx), fun y hy => (W.on y).mpr (List.mem_append_left _ (yk y hy))⟩
      have d1319 := d18.trans d19
      refine ⟨_, rfl, _, rfl, _, rfl, _, rfl, _, rfl, p, rfl, d1319.pot, fun H20 k d20 _ => ?_⟩
      have d1320 := d1319.trans d20
      have S20 := S13.dr d13.pot d1320
      have ee20 := d20.off _ _ nep ee
      refine ⟨r, x, d, e, k, ss, tt, ws, rfl, S20, ee20, WT, fun H21 s21 => ?_⟩
      refine ⟨true, rfl, iteF ?_⟩
      refine ⟨_, rfl, _, rfl, _, rfl, _, rfl, r, x, d, e, ss, tt, ws, rfl, S20.mono s21, s21 _ _ ee20, WT, fun H22 s22 => ?_⟩
      refine ⟨true, rfl, iteF ?_⟩
      exact ⟨_, _, _, rfl, (d13.trans d1320).same (s21.trans s22)⟩
    · obtain ⟨v6, v7, v8, rfl, d13⟩ := hP
      have S13 := S12.dr hp12 d13
      refine ⟨_, rfl, _, rfl, _, rfl, r, x, d, ss, tt, rfl, S13, fun H14 s14 => ?_⟩
      have d14 := d13.same s14
      refine ⟨true, rfl, iteT ?_⟩
      refine ⟨_, rfl, _, rfl, _, rfl, _, rfl, p, 19, rfl, d14.pot, by decide, by decide, fun H15 n d15 n0 n1 => ?_⟩
      have d15b := d14.trans d15
      refine ⟨n, 9, rfl, rfl, r, x, d, n - 9, ss, tt, rfl, S12.dr hp12 d15b, fun H16 s16 => ?_⟩
      exact q H16 (d0.trans (d15b.same s16))
end
end K21
set_option maxHeartbeats 4000000
/-! law -/
namespace K21
open PySem PySem.Spec PyProof.Rows L2 He
/-- drawn from a pot that H knows not -/
theorem Dr.fresh {p : Addr} {H H1 H2 : Hp} (s : Same H H1) (n : H p = none) (d : Dr p H1 H2) : Same H H2 := fun b o e =>
  d.off b o (fun z => by rw [z, n] at e; cases e) (s b o e)
section
variable {P : Program} {w : World} {K : Fg} {mg : Str → Option Value} {base : Heap}
def spLaw (K : Fg) : Sp := fun vs H Q _ => ∃ (s : Addr) (ns : List Int), vs = [.ref s] ∧ SqL K H s (ns.map V.int) ∧ ∀ H', Q (.bl true) H'
theorem sc_law : FnScope ["_law_script", "_law_k", "_law_pot_here", "_law_names_here", "_law_turn"] ["_law_script"] (defScope dLaw.st) := ⟨rfl, rfl, rfl, by decide +kernel, rfl, by decide +kernel, by decide +kernel⟩
theorem ok_law (T : Tx K mg) : Cg P w K mg base 11 dLaw ["_law_script"] (spLaw K) := by
  obtain ⟨fd, F⟩ := T.dLaw
  have cP : Cd P w K mg base 1 dLawPot ["_law_script", "_law_k"] (spPot K) := ok_pot T
  have cD : Cd P w K mg base 1 dLawDraw ["_law_pot_here", "_law_many"] spDraw := ok_draw T
  have cN : Cd P w K mg base 3 dLawNames ["_law_pot_here", "_law_many"] spNames := ok_names T
  have cR : Cg P w K mg base 10 dLawRuleRight ["_law_pot_here", "_law_names_here"] (spRuleR K) := ok_ruler T
  refine .of F sc_law (F.bindsN fun _ _ _ _ _ _ us hl => match us, hl with | [_], _ => rfl) (fun vs H Q E h => ?_) (fun cdv A outer s0 H vs Q E hr hg h => ?_)
  · obtain ⟨_, _, rfl, _⟩ := h
    rfl
  · obtain ⟨s, ns, rfl, hs, q⟩ := h
    refine ⟨_, pss_cons (ps_for PassesOwn.never rfl (pi_range1 (by rfl) T.n_range (pa_cons (pe_callB (call_max2 rfl) (by rfl) T.n_max bt_max (pa_cons pe_int (pa_cons (pe_callB (call_min2 rfl) (by rfl) T.n_min bt_min (pa_cons pe_int
          (pa_cons (pe_callB call_len_seq (by rfl) T.n_len bt_len (pa_cons (pv 0) pa_nil)) pa_nil))) pa_nil))) pa_nil)) (pg_name (i := 1) sc_law.nd rfl (Or.inl rfl))
        (pss_cons (ps_set (i := 2) sc_law.nd rfl (Or.inr rfl) (pe_cd cP hr T.g_law_pot (pa_cons (pv 0) (pa_cons (pv 1) pa_nil))))
        (pss_cons (ps_set (i := 3) sc_law.nd rfl (Or.inr rfl) (pe_cd cN hr T.g_law_names (pa_cons (pv 2) (pa_cons (pe_op op_add pe_int (pe_cd cD hr T.g_law_draw (pa_cons (pv 2) (pa_cons pe_int pa_nil)))) pa_nil))))
        (pss_one (ps_if (pt_not (pt_val (pe_callB (cr_all rfl) (by rfl) T.n_all bt_all (pa_cons (pe_lc (own := [("_law_turn", 4)]) (g := gName 4) (tt := tYes) rfl sc_law.nd (pi_range1 (by rfl) T.n_range (pa_cons pe_int pa_nil))
            (blkOk_by (N := ["_law_script", "_law_k", "_law_pot_here", "_law_names_here", "_law_turn"]) (sc := defScope dLaw.st) (by decide +kernel)) (fun _ _ _ _ _ => pg_name (i := 4) sc_law.nd rfl (Or.inl rfl)) (fun _ _ _ _ _ => pts_nil)
            (fun _ _ _ _ _ => pe_cg cR hr hg T.g_law_rule_right (pa_cons (pv 2) (pa_cons (pv 3) pa_nil)))) pa_nil)))) (pss_one (ps_ret pe_bl)) pss_nil)))))
      (pss_one (ps_ret pe_bl)), ?_⟩
    refine ⟨_, rfl, s, _, rfl, .inl hs, 4, _, rfl, 1, _, rfl, ?_⟩
    have mb : ∀ a : Int, 1 ≤ (if (if a < 4 then a else 4) > 1 then (if a < 4 then a else 4) else 1) ∧ (if (if a < 4 then a else 4) > 1 then (if a < 4 then a else 4) else 1) ≤ 4 := fun a => by
      split <;> split <;> omega
    obtain ⟨m0, m1⟩ := mb ((ns.map V.int).length : Int)
    generalize (if (if ((ns.map V.int).length : Int) < 4 then ((ns.map V.int).length : Int) else 4) > 1 then (if ((ns.map V.int).length : Int) < 4 then ((ns.map V.int).length : Int) else 4) else 1) = m at m0 m1
    refine ⟨m, rfl, by omega, by omega, ?_⟩
    refine for_range (fun i σ H' => ∃ (v1 v2 v3 : Option V), σ = [some (.ref s), v1, v2, v3, none] ∧ Same H H')
      ⟨none, none, none, rfl, same_id⟩ (fun i σ H1 hi hP => ?_) (fun σ H1 hP => ?_)
    · obtain ⟨v1, v2, v3, rfl, s1⟩ := hP
      have hs1 := sq_same s1 hs
      refine ⟨_, rfl, _, rfl, s, (0 + (i : Int)), ns, rfl, hs1, by omega, by omega, fun H2 p s2 np hp => ?_⟩
      refine ⟨_, rfl, _, rfl, p, 9, rfl, hp, by decide, by decide, fun H3 n d3 n0 n9 => ?_⟩
      refine ⟨2, n, rfl, rfl, p, 2 + n, rfl, d3.pot, by omega, by omega, fun H4 l xs d4 nl nlp el hv nd len => ?_⟩
      have el1 : H4 l = some (.lst (xs.map V.str)) := el
      have d24 := d3.trans d4
      refine ⟨2, rfl, by decide, by decide, fun D nD => ?_⟩
      have nDp := d24.pot.ne nD
      have nDl := el.ne nD
      refine lc_it (walk_range (lo := 0) (n := (2 : Int).toNat)) (fun j H' => Dr p H4 H' ∧ H' D = some (.lst ((List.replicate j true).map V.bl))) ⟨(Dr.start d4.pot).wr nD nDp, upd_same⟩ (fun _ _ _ _ => trivial) (fun j y H5 H6 hi2 hQ hY => ?_) (fun H5 hQ => ?_)
      · obtain ⟨rfl, rfl⟩ := hY
        obtain ⟨d5, eD⟩ := hQ
        refine ⟨rfl, _, rfl, _, rfl, p, l, xs, rfl, d5.pot, nlp, .of (d5.off _ _ nlp el1), hv, nd, by omega, by omega, fun H7 d7 => ?_⟩
        refine ⟨_, d7.off _ _ nDp eD, ?_, (d5.trans d7).wr nD nDp, ?_⟩
        · rw [List.length_map, List.length_replicate]
          have z : j < 2 := hi2
          exact small_lt (by omega)
        · rw [upd_same, List.replicate_succ', List.map_append]
          rfl
      obtain ⟨d5, eD⟩ := hQ
      refine ⟨D, _, rfl, .of eD, ?_⟩
      refine ⟨true, rfl, iteF ?_⟩
      exact ⟨_, _, _, rfl, s1.trans (Dr.fresh s2 np (d24.trans d5))⟩
    · obtain ⟨v1, v2, v3, rfl, s1⟩ := hP
      exact q H1
end
end K21
set_option maxHeartbeats 4000000
/-! the end: law, called at the head's state -/
namespace K21
open PySem PySem.Spec PyProof.Rows L2 He
section
variable {P : Program} {w : World} {K : Fg} {mg mb : Str → Option Value} {k : Nat} {z : Addr} {d : Df} {x : Str} {sp : Sp} {t : Shared} {us : List Value} {js : List Int}
/-- what the call leaves -/
def Left (t : Shared) : Result → Shared → Prop := fun r u => r = .ok (.ret (.bool true)) ∧ OldK t.heap u.heap ∧ u.os = t.os ∧ AllBare u.gens
/-- at most the script, frozen, is told of -/
structure Told (K : Fg) (w : World) (P : Program) (t : Shared) (z : Addr) (us : List Value) (js : List Int) (H : Hp) : Prop where
  one : Only H
  sq : SqL K H z (js.map V.int)
  ok : HOk P w H t.heap
  at_ : ∀ c, H c ≠ none → c = z
  out : H z ≠ none → K.lookup z = none
theorem Told.left {H : Hp} (U : Told K w P t z us js H) (KX : K.In t.heap) (G : t.heap.Ns mainGlobals mg) (B : t.heap.Ns builtinsNs mb) (bb : ∀ y : Str, y ≠ "__name__" → mb y = bootBuiltins y)
    (lim : t.heap.NoLimit) (ge : t.gens = #[]) (at0 : t.heap.get? z = some { cls := .type "list", data := .seq us.toArray }) (rm : Room k callerA)
    (F : ∀ base : Heap, K.In base → base.Ns mainGlobals mg → Cg P w K mg base k d [x] sp)
    (hs : sp [.ref z] H (fun v _ => v = .bl true) fun _ _ _ => False) : codeAny (model P w) callerA (.call (.ref (d.pl K)) ⟨[.ref z], []⟩) (Left t) t := by
  have hid : ∀ {c : Addr} {o : Obj}, t.heap.get? c = some o → H c = none → (hidT t.heap H).get? c = some o := hidT_get
  -- a dict is not the script
  have dn : ∀ {c : Addr} {o : Obj} {es : Array DictEntry} {ep : Nat}, t.heap.get? c = some o → o.data = .dict es ep → H c = none := by
    intro c o es ep e d
    cases q : H c with
    | none => rfl
    | some u =>
      have ec := U.at_ c (by rw [q]; exact fun h => nomatch h)
      subst ec
      rw [at0] at e
      have e2 := Option.some.inj e
      rw [← e2] at d
      cases d
  have nsH : ∀ {c : Addr} {m : Str → Option Value}, t.heap.Ns c m → (hidT t.heap H).Ns c m := by
    rintro c m ⟨o, es, ep, e, d, r⟩
    exact ⟨o, es, ep, hid e (dn e d), d, r⟩
  have inH : K.In (hidT t.heap H) := fun c o e => by
    refine hid (KX c o e) ?_
    cases q : H c with
    | none => rfl
    | some u =>
      have ne : H c ≠ none := by rw [q]; exact fun h => nomatch h
      have ec := U.at_ c ne
      subst ec
      rw [U.out ne] at e
      cases e
  have md : Mod K mg (hidT t.heap H) := by
    obtain ⟨mc, l1, l2⟩ := lim
    exact ⟨inH, nsH G, ⟨mb, nsH B, bb⟩, ⟨mc, nsH l1, l2⟩⟩
  have e0 : Env0 P w K mg (hidT t.heap H) callerA [] t H := by
    refine ⟨rfl, md, fun c o e => of_hidT e, Nat.le_of_eq (hidT_size _ _), trivial, fun c hc => ?_, U.ok, .of_eq ge⟩
    exact (List.not_mem_nil (show c ∈ ([] : List Addr) from hc)).elim
  obtain ⟨fd, fn, bn⟩ := (F _ inH (nsH G)).ex
  have run := fn.run callerA [] t H ⟨[.ref z], []⟩ [.ref z] [.ref z] _ _ rm rfl e0 (bn t [.ref z] KX rfl) (.cons rfl .nil) hs
  refine codeAny_mono run fun r u h => ?_
  rcases r with e | fl
  · exact (show False from h).elim
  rcases fl with _ | _ | _ | y
  · exact (show False from h).elim
  · exact (show False from h).elim
  · exact (show False from h).elim
  · obtain ⟨v, H2, os, bare, un, ok2, ry, hv⟩ := h
    have hv2 : v = .bl true := hv
    subst hv2
    have ey : y = Value.bool true := ry
    subst ey
    have same : ∀ (c : Addr) (o : Obj), t.heap.get? c = some o → u.heap.get? c = some o := fun c o e => by
      cases q : H c with
      | none => exact un.keep c o e q (fun n => List.not_mem_nil (show c ∈ ([] : List Addr) from n)) (by simp)
      | some r =>
        rcases U.one c with n | ⟨ob, xs, n⟩
        · rw [q] at n
          cases n
        · have n2 := un.frzs c ob _ n
          obtain ⟨e1, _⟩ := U.ok c _ n
          obtain ⟨e2, _⟩ := ok2 c _ n2
          rw [e] at e1
          rw [e2, Option.some.inj e1]
    exact ⟨rfl, OldK.of_keep same, os, bare⟩
theorem ints_vals : ∀ {us : List Value} {js : List Int}, IntsAre us js → Vals (js.map V.int) us
  | _, _, .nil => .nil
  | _, _, .cons n r h => .cons ⟨r, rfl⟩ (ints_vals h)
theorem endG (KX : K.In t.heap) (G : t.heap.Ns mainGlobals mg) (B : t.heap.Ns builtinsNs mb) (bb : ∀ y : Str, y ≠ "__name__" → mb y = bootBuiltins y)
    (lim : t.heap.NoLimit) (ge : t.gens = #[]) (at0 : t.heap.get? z = some { cls := .type "list", data := .seq us.toArray }) (hi : IntsAre us js) (hz : js.length ≤ sizeLine) (rm : Room k callerA)
    (F : ∀ base : Heap, K.In base → base.Ns mainGlobals mg → Cg P w K mg base k d [x] sp)
    (hs : ∀ H : Hp, Only H → SqL K H z (js.map V.int) → sp [.ref z] H (fun v _ => v = .bl true) fun _ _ _ => False) : codeAny (model P w) callerA (.call (.ref (d.pl K)) ⟨[.ref z], []⟩) (Left t) t := by
  have go : ∀ H : Hp, Told K w P t z us js H → codeAny (model P w) callerA (.call (.ref (d.pl K)) ⟨[.ref z], []⟩) (Left t) t := fun H U => U.left KX G B bb lim ge at0 rm F (hs H U.one U.sq)
  have rv := ints_vals hi
  have lv := hi.length
  cases lk : K.lookup z with
  | some o =>
    have e := KX z o lk
    rw [at0] at e
    have eo := Option.some.inj e
    subst eo
    refine go (fun _ => none) ⟨fun _ => .inl rfl, .inr ⟨_, us.toArray, _, lk, rfl, rfl, rfl, ?_, ?_⟩, fun c u h => (nomatch (show (none : Option HO) = some u from h)), fun c h => absurd rfl h, fun h => absurd rfl h⟩
    · rw [List.size_toArray, lv]
      exact hz
    · exact rv
  | none =>
    have eH : (upd (fun _ => none) z (.frz { cls := .type "list", data := .seq us.toArray } (.lst (js.map V.int)))) z = some (.frz { cls := .type "list", data := .seq us.toArray } (.lst (js.map V.int))) := upd_same
    have nH : ∀ c, c ≠ z → (upd (fun _ => none) z (.frz { cls := .type "list", data := .seq us.toArray } (.lst (js.map V.int)))) c = none := fun c h => by rw [upd_ne h]
    generalize upd (fun _ => none) z (.frz { cls := .type "list", data := .seq us.toArray } (.lst (js.map V.int))) = H at eH nH
    refine go H ⟨fun c => ?_, .inl (.inr ⟨_, eH⟩), fun c u h => ?_, fun c h => ?_, fun _ => lk⟩
    · by_cases e : c = z
      · subst e
        exact .inr ⟨_, _, eH⟩
      · exact .inl (nH c e)
    · by_cases e : c = z
      · subst e
        rw [eH] at h
        have h2 := Option.some.inj h
        subst h2
        exact ⟨at0, by rw [List.length_map]; exact hz, us, _, rv, at0⟩
      · rw [nH c e] at h
        cases h
    · apply Classical.byContradiction
      intro e
      exact h (nH c e)
end
theorem walkG {l : PySem.W.OpenLaw} {n k : Nat} {q : Program} {loose : List Str} {XP : (Str → Option Value) → Heap → Prop} {YP : World → Heap → Prop} {d : DefRec} {x : Str}
    (hn : l.most = some n) (hz : n ≤ sizeLine) (hdf : d.params.defaults = []) (rm : Room k callerA)
    (F : ∀ (w : World) (mg : Str → Option Value) (f : Addr) (h : Heap), YP w h → h.Ns mainGlobals mg → mg d.name = some (.ref f) →
      ∃ (K : Fg) (e : Df) (sp : Sp), K.In h ∧ f = e.pl K ∧
        (∀ (H : Hp) (z : Addr) (js : List Int), Only H → SqL K H z (js.map V.int) → sp [.ref z] H (fun v _ => v = .bl true) fun _ _ _ => False) ∧
        ∀ base : Heap, K.In base → base.Ns mainGlobals mg → Cg l.prog w K mg base k e [x] sp) :
    PySem.W.WalkO q loose XP YP l.row.toRowW d [] (fun f vs => PySem.call f vs) := by
  refine Att.attach_call hn hdf ?_
  intro w _ t mg mb f _ _ _ _ z us js G Y _ _ _ hm at0 hi hl ge
  obtain ⟨K, e, sp, KX, rfl, hs, hF⟩ := F w mg f _ Y G.T.g hm
  exact endG KX G.T.g G.T.b G.T.builtins G.T.nolimit ge at0 hi (Nat.le_trans hl hz) rm hF fun H => hs H z js
end K21
set_option maxHeartbeats 0
namespace K21
open PySem PySem.Spec PyProof.Rows L2 He
theorem run (w : World) : HandSHeadRun.RunEq RW (PySem.W.view RW.prog [49]) (hkK (fAll) (xAll) (dAll)) (obW (fAll) (xAll) (dAll)) 6000 loose w := by
  intro os
  kernel_rfl
end K21
set_option maxHeartbeats 0
namespace K21
open PySem PySem.Spec PyProof.Rows L2 He PySem.W PySem.Calls
theorem lawCg {P : Program} {w : World} {K : Fg} {mg : Str → Option Value} {h base : Heap} (X : K.In h) (G : h.Ns mainGlobals mg) (c : obK fAll xAll dAll K = vaK dAll) : Cg P w K mg base 11 dLaw ["_law_script"] (spLaw K) := ok_law ⟨c, h, X, G⟩
abbrev qW : Program := view RW.prog [49]
abbrev dW : DefRec := HandSHeadRun.topDef RW.prog 49
theorem e_open : opening RW.prog = plainProg RW.prog.main.scope.names := by kernel_rfl
theorem e_fence (s) : fenceModules? RW.prog s = some s := by kernel_rfl
theorem e_def : defOf qW RW.name = some (dW, []) := by kernel_rfl
theorem e_the : RW.prog.theDef RW.name = some (dW.params, dW.body, dW.scope) := by kernel_rfl
theorem e_kw : kwWritten? dW.params.kwonlyargs dW.params.kw_defaults = some [] := by kernel_rfl
theorem e_wr : (!RW.writes || RW.records.isEmpty) = true := by rfl
theorem e_said : RW.wellSaid = true := by decide +kernel
theorem e_ok : (chainsOk qW && opensWell RW.prog && (frees RW.toRowW && RW.within.isEmpty)) = true := by decide +kernel
theorem e_bare : RW.prog.bare := ⟨rfl, rfl, rfl, rfl, rfl, by decide +kernel⟩
theorem e_name : dW.name = ("law" : PySem.Str) := by kernel_rfl
theorem e_defaults : dW.params.defaults = [] := by kernel_rfl
theorem e_most : (PySem.Challenge.rw_anyofthese_k21_whole_rules_kept_or_their).most = some 63 := rfl
theorem e_room : Room 11 callerA := ⟨rfl, by decide, by decide⟩
end K21
namespace K21
open PySem PySem.Spec PyProof.Rows L2 He PySem.W PySem.Calls
theorem tail : WalkO qW loose (XL qW []) (hkK fAll xAll dAll).says RW.toRowW dW [] (fun f vs => PySem.call f vs) := by
  refine walkG (l := PySem.Challenge.rw_anyofthese_k21_whole_rules_kept_or_their) (n := 63) (k := 11) (x := "_law_script") e_most (by decide) e_defaults e_room ?_
  intro w mg f h Y G hm
  obtain ⟨K, X, c⟩ := Y
  have T : Tx K mg := ⟨c, h, X, G⟩
  have ef : f = dLaw.pl K := by
    rw [e_name, T.g_law] at hm
    have e2 := Option.some.inj hm
    injection e2 with e3
    exact e3.symm
  exact ⟨K, dLaw, spLaw K, X, ef, fun H z js _ s => ⟨z, js, rfl, s, fun _ => rfl⟩, fun base _ _ => lawCg X G c⟩
end K21
open PySem PySem.W PySem.Calls PyProof.Rows
theorem PySem.Challenge.cw_anyofthese_k21_whole_rules_kept_or_their_holds : PySem.Challenge.rw_anyofthese_k21_whole_rules_kept_or_their.Holds := by
  w_on; o_law
  refine HandSHeadRun.head_any (r := K21.RW) (q := K21.qW) (H := K21.hkK K21.fAll K21.xAll K21.dAll) (ob := K21.obW K21.fAll K21.xAll K21.dAll) (M := 6000) (loose := K21.loose)
    (d := K21.dW) (kwd := []) (K21.obW_eq _ _ _) K21.e_open K21.e_fence K21.run K21.e_def K21.e_the K21.e_kw K21.e_wr K21.e_said K21.e_ok K21.e_bare ?hw K21.tail
  case hw => w_witness2
